import PyProof.Rows.All
import Wide.All
import OpenK.AllK
import Wide.FinOn
import PySem.Challenge.RW_pq0981_01
set_option Elab.async false
set_option linter.all false
set_option maxRecDepth 1000000
set_option maxHeartbeats 0
set_option genInjectivity false
set_option genSizeOf false
set_option bootstrap.genMatcherCode false
open And renaming intro->CH
open Array renaming length_toList->bC,mk->lW,getElem?_eq_some_iff->lX,getElem?_eq_getElem->mA,toList_push->mE,getElem?_toList->pz,toList_append->qV,toList_setIfInBounds->yb,getElem?_eq_none_iff->yc
open Bool renaming casesOn->ax,false_ne_true->ay,and_eq_true->bX,eq_iff_iff->cR,eq_false_iff->dY,false_eq_true->ey,or_false->fP,or_eq_true->gO,true_and->gQ,false_and->h_,or_eq_true_iff->iQ,and_false->jN,false_or->mY,and_true->mZ,and_eq_true_iff->qw,not_true->Av
open Decidable renaming byContradiction->fg
open Eq renaming trans->UW
open False renaming elim->dW
open ForInStep renaming yield->fh
open Int renaming natCast_nonneg->bI,toNat_natCast->cG,ofNat_lt->dn,fdiv_eq_ediv_of_nonneg->fk,eq_ofNat_of_zero_le->gm,ofNat_inj->jh,not_lt->pj,add_sub_cancel->tD,ofNat_le->uw,natCast_pow->ya,pow_nonneg->Ah,fdiv->Ai,ofNat_sub->Cu,toNat_of_nonneg->IT,not_le->Mu,lt_of_lt_of_le->Mv,add_right_comm->Mw,natCast_pos->Rx,ediv_nonneg->Ry,neg_le_neg->Uk,lt_irrefl->UU,lt_trans->XQ,le_trans->XR,ediv_one->XS,add_comm->XT,sub_neg->YZ,one_mul->Y0,neg_sub->Y1,mul_one->Y2
open Int.ofNat renaming inj->pV
open List renaming range->ae,length_map->aj,length_range->aq,mem_range->aC,mem_of_getElem?->aF,mem_singleton->aH,length_append->aI,all_eq_true->aL,getElem?_eq_getElem->aV,mem_cons_of_mem->aW,mem_cons->a6,mem_cons_self->a7,not_mem_nil->a8,map_inj_left->a9,getElem?_eq_none->ba,map_append->bf,replicate->bD,map_map->bG,lookup_cons->bK,mem_map->bO,casesOn->bP,map_cons->bT,getElem?_set_ne->b9,size_toArray->cg,mem_iff_getElem?->cj,nodup_cons->ck,mem_append->cp,getElem?_set_self->ct,append_nil->cC,mem_singleton_self->cS,getElem?_eq_some_iff->c9,mem_append_left->du,map_congr_left->dB,mem_append_right->dF,length_filter_le->dG,getElem?_take_of_lt->dI,range_succ->dK,reverse_cons->dX,getElem?_append_left->ek,nodup_nil->eC,mem_filter->eO,isEmpty_iff->fe,getElem?_map->fK,length_take->gd,zip_cons_cons->gD,pairwise_cons->gE,getElem?_drop->gF,length_replicate->gR,contains_iff_mem->gS,append_assoc->gZ,getElem?_append_right->hZ,any_eq_true->iz,mem_of_find?_eq_some->iF,length_reverse->iP,forIn_cons->jg,find?_eq_none->jj,findIdx?_eq_some_iff_getElem->jB,getElem?_inj->jL,filter_eq_nil_iff->jM,mem_of_mem_take->kN,nil_append->lp,length_set->lq,filterMap_cons->lI,getD_eq_getElem?_getD->mf,forIn_nil->mh,getElem?_zip_eq_some->mD,nodup_append->mV,take_length->n7,mem_reverse->n8,length_eq_zero_iff->n9,length_drop->n_,isEmpty_nil->oa,getElem?_replicate->og,length_singleton->pU,drop_eq_nil_iff->qt,countP_pos_iff->rf,filter_append->r_,take_add_one->t8,rec->t_,flatMap_cons->ua,length_cons->uY,eq_nil_of_length_eq_zero->xn,find?_some->xv,range_add->y4,getLast?_eq_getElem?->Ag,sum_cons->As,map_take->Au,range_succ_eq_map->CG,eq_nil_or_concat->EO,dropLast_eq_take->EP,concat_eq_append->ER,mem_iff_getElem->Gs,getLast?_concat->Gu,getElem?_append->Gv,dropLast_concat->Gw,getElem?_range->Iy,filter_eq_self->Iz,zip_nil_right->IK,getElem_range->IM,filterMap_nil->IP,countP_append->IQ,take_sublist->Mq,ext_getElem?->Mr,any_eq_false->Ms,map_reverse->MT,isEmpty_map->MU,getElem_mem->MV,drop_length->MW,countP_cons->MX,cons_append->MY,head?_drop->P_,find?_cons->Qa,count_cons->Qb,any_append->Qc,map->Rr,all_cons->Uj,map_nil->UQ,lookup->XK,head?->YY
open List.Nodup renaming length_le_of_subset->jC
open List.Pairwise renaming nil->pg,imp_of_mem->XM
open List.cons renaming inj->aK
open Nat renaming le_trans->ak,le_of_ble_eq_true->av,lt_of_lt_of_le->az,le_add_right->aP,lt_of_le_of_lt->aQ,le_refl->aT,zero_le->aU,lt_succ_self->bg,le_of_eq->bh,le_of_not_lt->bu,ne_of_lt->bx,eq_of_beq_eq_true->bN,le_of_lt->bV,lt_irrefl->b8,add_le_add_left->cq,lt_succ_iff_lt_or_eq->cw,eq_of_testBit_eq->cx,succ_le_succ->cB,not_lt->cV,add_sub_cancel_left->cW,beq->c5,add_sub_of_le->c6,add_right_comm->dc,lt_trans->dk,lt_succ_of_lt->dm,not_lt_zero->dz,zero_add->dZ,lt_succ_of_le->d5,lt_add_of_pos_right->eN,add_lt_add_left->eR,ne_of_gt->e_,add_assoc->fc,add_lt_of_lt_sub'->fu,le_of_succ_le->fN,lt_of_le_of_ne->gL,testBit_and->gP,lt_trichotomy->g8,lt_of_succ_lt->g9,testBit_or->ij,mul_le_mul_right->ip,le_succ->iq,add_le_add_right->iu,zero_testBit->iE,sub_lt_sub_left->iZ,mul_le_mul_left->i2,le_add_left->ji,lt_or_eq_of_le->jz,lt_of_lt_of_eq->jA,testBit_lt_two_pow->jZ,le_succ_of_le->j0,add_le_add->j3,pow_le_pow_right->kV,le_sub_of_add_le->kW,testBit_two_pow_sub_one->lV,sub_add_cancel->mz,le_of_lt_succ->mX,sub_sub_self->ot,sub_le->pd,add_comm->pf,min_le_left->pT,not_succ_le_self->qR,add_right_cancel->qT,ble->rb,mod_lt->tC,succ_pos->uu,succ_mul->uv,succ_lt_succ->xk,pow_pos->xu,testBit_xor->x_,sub_lt_left_of_lt_add->Ar,exists_eq_add_of_le->CE,lt_of_succ_lt_succ->EL,le_mul_of_pos_left->EM,beq_refl->EN,sub_le_iff_le_add->Gr,sub_le_of_le_add->Ir,one_pos->It,not_succ_le_zero->Iu,le_sub_one_of_lt->Iv,casesOn->Iw,testBit_two_pow->IJ,sub_right_comm->Mo,sub_lt->Mp,sub_sub_right->MR,or_lt_two_pow->MS,lt_of_not_le->P',le_antisymm->Ro,and_le_left->Rp,sub_self->XI,lt_asymm->XJ,pow_add->YV,mul_add->YW,log2_lt->YX,ble_eq->aa1
open Nat.succ renaming inj->kM
open Ne renaming symm->d6
open Option renaming none->ab,casesOn->aA,bind_some->bJ,map_eq_some_iff->cE,isNone_iff_eq_none->ee,isSome_iff_exists->iO,bind_eq_some_iff->jf,toList_some->ra,map->Gq,map_some->Mn,bind->Uh
open Option.some renaming inj->ag,injEq->qh
open Prod renaming casesOn->oy
open Prod.mk renaming inj->gc,injEq->MQ
open PyProof.Rows renaming tail_any->qg,neg_int->xt,nat_or_add_and->EJ,Subscript_->EK,Assign_Tuple->Ml,sub_int->YA,rshift_int->YB,pow_int->YC,or_int->YD,ne_str->YE,ne_int->YF,mul_int->YG,mod_int->YH,lt_int->YI,lshift_int_small->YJ,le_int->YK,invert_int->YL,gt_int->YM,ge_int->YN,floordiv_int->YO,eq_str->YQ,eq_int->YR,and_int->YS,add_str->YT,add_int->YU
open PySem renaming Expr->af,wpAny_bind->ai,wpAny_pure->ar,Value->aB,wpAny->aJ,Shared->aN,Addr->aO,Str->bB,wpAny_holding->bL,mainGlobals->bM,Stmt->bU,DictEntry->b0,wpAny_standAt->b_,sizeOk->cc,Comprehension->cP,sizeLine_eq->dp,builtinsNs->dq,Pos->dN,wpAny_mono->dR,Heap->eu,wpAny_askSetting->eG,Around->fF,wpAny_call_entry->gJ,World->gK,FuncData->iX,wpAny_newList->jE,Scope->jF,Obj->jY,wpAny_truthy_bool->kE,wpAny_newObj_type->kF,slot_list_getitem->kG,codeAny_mono->kH,NameKind->lT,wpAny_assign_Tuple->nS,wpAny_setState_of->ox,wpAny_callSpecial?_slot->pZ,wpAny_Name->qL,Builtin->qQ,pushCells_keeps->qX,codeAny_builtin->qY,Env->qZ,wpAny_alloc->tp,wpAny_rule->xb,call_meets->xc,wpAny_Assign_Name->xY,wpAny_execs_nil->Cn,codeAny_of_tree->Co,wpAny_setField->EE,isSubtype_type->EF,wpAny_getItem_list_slice->Ik,arm_eval_List->Il,Slot->Ip,wpAny_Call_method1_late->IF,wpAny_Assign_Subscript->Mh,name_of_addr->Mi,wpAny_storeName_local->MK,builtinLookup_eq_fast->ML,wpAny_storeName_cell->P1,wpAny_loadName_local->P2,wpAny_setEntries_of->Q9,wpAny_loadName_free->Q',wpAny_loadName_cell->Q_,codeAny_forLoop_any->Rf,wpAny_load->Ua,wpAny_call->Ub,wpAny_Constant_int->Uc,wpAny_sequenceKey->UJ,wpAny_pyIter_slot->UK,slot_list_setitem->UL,slot_dict_setitem->UM,wpAny_isInstance->XC,call->XD,wpAny_ite_split->Yu,typeLookup_type->Yv,makeFunction_eq->Yw,wpAny_newTuple->aaP,wpAny_loadPart->aaQ,wpAny_layCells->aaR,wpAny_fieldsOf->aaS,wpAny_Expr_any->aaT,entryFor_alias->aaU,arm_eval_Tuple->aaV,arm_eval_Slice->aaW
open PySem.Around renaming under_plainId->pS
open PySem.AutoListH renaming list_append_list_val_0->je
open PySem.Builtin renaming bitAnd->dr,bitNot->xi,bitOr->MP
open PySem.Builtin.Dict renaming notOrdered->Yz
open PySem.Builtin.Frozenset renaming sizeOf->qP,oneOther->P7,newClass->P8,addrOf->P9
open PySem.Builtin.Int renaming intBits->dy
open PySem.Builtin.List renaming listLengthHint->rY,listSubscript?->Yy
open PySem.Builtin.Range renaming rangeSize->b7,small->jK,rangeFitsLong->q_
open PySem.Calls renaming spliced_nil->mC,callWith_builtin->oq,evalArgs_plain->qf,spliced_cons->rX,Name_function_global->x9,call_len_list->Gp
open PySem.Challenge renaming rw_pq0981_01->cU,pw_pq0981_01->Ug
open PySem.Code renaming builtin->t7
open PySem.Comprehension renaming casesOn->XH
open PySem.Data renaming casesOn->lL,noConfusion->uX
open PySem.DictEntry renaming refKey->EI
open PySem.Expr renaming casesOn->bE
open PySem.Expr.Attribute renaming elim->pb
open PySem.Expr.BinOp renaming elim->tB
open PySem.Expr.BoolOp renaming elim->rW
open PySem.Expr.Call renaming elim->ur
open PySem.Expr.Compare renaming elim->qO
open PySem.Expr.Constant renaming elim->qd
open PySem.Expr.Dict renaming elim->uq
open PySem.Expr.DictComp renaming elim->qc
open PySem.Expr.IfExp renaming elim->tx
open PySem.Expr.Lambda renaming elim->rV
open PySem.Expr.List renaming elim->uo
open PySem.Expr.ListComp renaming elim->qa
open PySem.Expr.Name renaming elim->mu
open PySem.Expr.Set renaming elim->xh
open PySem.Expr.Slice renaming elim->tu
open PySem.Expr.Subscript renaming elim->o_
open PySem.Expr.Tuple renaming elim->lK
open PySem.Expr.UnaryOp renaming elim->qN
open PySem.F renaming slot_list_append->iD,called_set->iY,plainAttrs_list->ja,args_list_append_2->lF,entry_list_append->lU,slot_list_extend->x8,slot_set_iter->Ap,slot_list_pop->Aq,slot_set_add->Cr,plain_list_iadd->Rn,plain_set_new->UO
open PySem.FuncBody renaming casesOn->g7
open PySem.Heap renaming get?_push_of_some->a_,lt_size->bb,get?_push_size->bH,SameBut->cQ,get?_update_self->en,size_push->gb,ExtBut->XG
open PySem.Heap.MapOf renaming new->acd
open PySem.Heap.Ns renaming new->Rk
open PySem.Heap.SameBut renaming update->cA,refl->Yx
open PySem.MeetsSeq renaming list_pop_last->UN
open PySem.NameKind renaming free->iy,cell->me
open PySem.Obj renaming data_mapFields->fj,mapSeq->o9,isFreed_of_fields->p_,data_mapDictKeys->qM,data_mapDict->xf,isFreed_of_dict->II,putSet->Mk,cls_mapFields->MO
open PySem.PyData renaming keyHash->xr
open PySem.SeqAt.RcNeAt renaming lists_lengths->MN
open PySem.SetTable renaming insertAt->cu,below->c_,fits->p9,fill->xq,has->MM
open PySem.SetTable.probe renaming go->ix
open PySem.Setting renaming mk->Ue
open PySem.Stmt.Assign renaming elim->Cq
open PySem.Stmt.Continue renaming elim->x7
open PySem.Stmt.Expr renaming elim->Io
open PySem.Stmt.For renaming elim->Mj
open PySem.Stmt.FunctionDef renaming elim->tr
open PySem.Stmt.If renaming elim->P6
open PySem.Stmt.Return renaming elim->Cp
open PySem.Stmt.While renaming elim->EH
open PySem.Str renaming ofString->aa,length->aaY
open PySem.Value renaming casesOn->eT,int->kA,ref->um,none->Im,isInt_shape->IH
open PySem.Value.ref renaming inj->xd
open PySem.W renaming boot_heap->dM,cellsFrom_some->EG,callWith_of->P4,boot_drawn->Ud,boot_toks->XE
open PySem.W.WData renaming int->qs,casesOn->Rg
open PySem.W.WShape renaming hasItems->uW,has->Gn,hasAll->P5
open PySem.W.WTm renaming and->XF
open PySem.pickOrder renaming go->xZ
open PySem PySem.W PyProof.Rows PySem.Calls
noncomputable section
namespace Mine
section
variable{p0 p1 P p2 p3 p4:Prop}{x y name:bB}{a l L fa ia D:aO}{b:Bool}{c j i m k N lv tk κ ep:Nat}{e it slice value elt:af}{s s' qm bZ aM s0 sb:aN}{op o1 o2:CmpOp}{es ifs:List af}{aX f6 is:List Nat}{v cv u:aB}{ns iw:List bB}{p pos' px:dN}{h h' h₀ kq B:eu}{F:aO->Option jY}{vs us vals dv:List aB}{fd:iX}{ov:Option aB}{env:qZ}{A:fF}{Q E:aB->aN->Prop}{ow:Option aO}{i5:List b0}{cs cl:List (bB×aO)}{scope dD:jF}{iU:Option bB}{st:bU}{args:Arguments}{gens gs:List cP}
theorem xA(h:(p0)/\p1)(k:p0->p1->P):P:=h.elim λv0 h=>k v0 h
theorem xE{A0:Sort u0}{p0:A0->Prop}(h:∃x0,p0 x0)(k:∀x0,p0 x0->P):P:=h.elim λv0 h=>k v0 h
theorem jP(h:(p0)/\(p1)/\p2)(k:p0->p1->p2->P):P:=h.elim λv0 h=>h.elim λv1 h=>k v0 v1 h
theorem Up{A0:Sort u0}{p1:A0->Prop}(h:(p0)/\∃x0,p1 x0)(k:p0->∀x0,p1 x0->P):P:=h.elim λv0 h=>h.elim λv1 h=>k v0 v1 h
theorem bS{A0:Sort u0}{p0:A0->Prop}{p1:A0->Prop}(h:∃x0,(p0 x0)/\p1 x0)(k:∀x0,p0 x0->p1 x0->P):P:=h.elim λv0 h=>h.elim λv1 h=>k v0 v1 h
theorem u7{A0:Sort u0}{A1:Sort u1}{p0:A0->A1->Prop}(h:∃x0,∃x1,p0 x0 x1)(k:∀x0,∀x1,p0 x0 x1->P):P:=h.elim λv0 h=>h.elim λv1 h=>k v0 v1 h
theorem fA(h:(p0)/\(p1)/\(p2)/\p3)(k:p0->p1->p2->p3->P):P:=h.elim λv0 h=>h.elim λv1 h=>h.elim λv2 h=>k v0 v1 v2 h
theorem mF{A0:Sort u0}{p2:A0->Prop}(h:(p0)/\(p1)/\∃x0,p2 x0)(k:p0->p1->∀x0,p2 x0->P):P:=h.elim λv0 h=>h.elim λv1 h=>h.elim λv2 h=>k v0 v1 v2 h
theorem RD{A0:Sort u0}{p1:A0->Prop}{p2:A0->Prop}(h:(p0)/\∃x0,(p1 x0)/\p2 x0)(k:p0->∀x0,p1 x0->p2 x0->P):P:=h.elim λv0 h=>h.elim λv1 h=>h.elim λv2 h=>k v0 v1 v2 h
theorem dU{A0:Sort u0}{p0:A0->Prop}{p1:A0->Prop}{p2:A0->Prop}(h:∃x0,(p0 x0)/\(p1 x0)/\p2 x0)(k:∀x0,p0 x0->p1 x0->p2 x0->P):P:=h.elim λv0 h=>h.elim λv1 h=>h.elim λv2 h=>k v0 v1 v2 h
theorem gf{A0:Sort u0}{A1:Sort u1}{p0:A0->A1->Prop}{p1:A0->A1->Prop}(h:∃x0,∃x1,(p0 x0 x1)/\p1 x0 x1)(k:∀x0,∀x1,p0 x0 x1->p1 x0 x1->P):P:=h.elim λv0 h=>h.elim λv1 h=>h.elim λv2 h=>k v0 v1 v2 h
theorem Ax{A0:Sort u0}{A1:Sort u1}{A2:Sort u2}{p0:A0->A1->A2->Prop}(h:∃x0,∃x1,∃x2,p0 x0 x1 x2)(k:∀x0,∀x1,∀x2,p0 x0 x1 x2->P):P:=h.elim λv0 h=>h.elim λv1 h=>h.elim λv2 h=>k v0 v1 v2 h
theorem kI(h:(p0)/\(p1)/\(p2)/\(p3)/\p4)(k:p0->p1->p2->p3->p4->P):P:=h.elim λv0 h=>h.elim λv1 h=>h.elim λv2 h=>h.elim λv3 h=>k v0 v1 v2 v3 h
theorem qk{A0:Sort u0}{p2:A0->Prop}{p3:A0->Prop}(h:(p0)/\(p1)/\∃x0,(p2 x0)/\p3 x0)(k:p0->p1->∀x0,p2 x0->p3 x0->P):P:=h.elim λv0 h=>h.elim λv1 h=>h.elim λv2 h=>h.elim λv3 h=>k v0 v1 v2 v3 h
theorem nW{A0:Sort u0}{A1:Sort u1}{p1:A0->A1->Prop}{p2:A0->A1->Prop}(h:(p0)/\∃x0,∃x1,(p1 x0 x1)/\p2 x0 x1)(k:p0->∀x0,∀x1,p1 x0 x1->p2 x0 x1->P):P:=h.elim λv0 h=>h.elim λv1 h=>h.elim λv2 h=>h.elim λv3 h=>k v0 v1 v2 v3 h
theorem oz{A0:Sort u0}{p0:A0->Prop}{p1:A0->Prop}{p2:A0->Prop}{p3:A0->Prop}(h:∃x0,(p0 x0)/\(p1 x0)/\(p2 x0)/\p3 x0)(k:∀x0,p0 x0->p1 x0->p2 x0->p3 x0->P):P:=h.elim λv0 h=>h.elim λv1 h=>h.elim λv2 h=>h.elim λv3 h=>k v0 v1 v2 v3 h
theorem IZ{A0:Sort u0}{A1:Sort u1}{p0:A0->Prop}{p1:A0->A1->Prop}{p2:A0->A1->Prop}(h:∃x0,(p0 x0)/\∃x1,(p1 x0 x1)/\p2 x0 x1)(k:∀x0,p0 x0->∀x1,p1 x0 x1->p2 x0 x1->P):P:=h.elim λv0 h=>h.elim λv1 h=>h.elim λv2 h=>h.elim λv3 h=>k v0 v1 v2 v3 h
theorem cM{A0:Sort u0}{A1:Sort u1}{p0:A0->A1->Prop}{p1:A0->A1->Prop}{p2:A0->A1->Prop}(h:∃x0,∃x1,(p0 x0 x1)/\(p1 x0 x1)/\p2 x0 x1)(k:∀x0,∀x1,p0 x0 x1->p1 x0 x1->p2 x0 x1->P):P:=h.elim λv0 h=>h.elim λv1 h=>h.elim λv2 h=>h.elim λv3 h=>k v0 v1 v2 v3 h
theorem j9{A0:Sort u0}{A1:Sort u1}{A2:Sort u2}{p0:A0->A1->A2->Prop}{p1:A0->A1->A2->Prop}(h:∃x0,∃x1,∃x2,(p0 x0 x1 x2)/\p1 x0 x1 x2)(k:∀x0,∀x1,∀x2,p0 x0 x1 x2->p1 x0 x1 x2->P):P:=h.elim λv0 h=>h.elim λv1 h=>h.elim λv2 h=>h.elim λv3 h=>k v0 v1 v2 v3 h
theorem jG{A0:Sort u0}{A1:Sort u1}{A2:Sort u2}{A3:Sort u3}{p0:A0->A1->A2->A3->Prop}(h:∃x0,∃x1,∃x2,∃x3,p0 x0 x1 x2 x3)(k:∀x0,∀x1,∀x2,∀x3,p0 x0 x1 x2 x3->P):P:=h.elim λv0 h=>h.elim λv1 h=>h.elim λv2 h=>h.elim λv3 h=>k v0 v1 v2 v3 h
theorem iS{p5:Prop}(h:(p0)/\(p1)/\(p2)/\(p3)/\(p4)/\p5)(k:p0->p1->p2->p3->p4->p5->P):P:=h.elim λv0 h=>h.elim λv1 h=>h.elim λv2 h=>h.elim λv3 h=>h.elim λv4 h=>k v0 v1 v2 v3 v4 h
theorem m_{A0:Sort u0}{p4:A0->Prop}(h:(p0)/\(p1)/\(p2)/\(p3)/\∃x0,p4 x0)(k:p0->p1->p2->p3->∀x0,p4 x0->P):P:=h.elim λv0 h=>h.elim λv1 h=>h.elim λv2 h=>h.elim λv3 h=>h.elim λv4 h=>k v0 v1 v2 v3 v4 h
theorem u9{A0:Sort u0}{p2:A0->Prop}{p3:A0->Prop}{p4:A0->Prop}(h:(p0)/\(p1)/\∃x0,(p2 x0)/\(p3 x0)/\p4 x0)(k:p0->p1->∀x0,p2 x0->p3 x0->p4 x0->P):P:=h.elim λv0 h=>h.elim λv1 h=>h.elim λv2 h=>h.elim λv3 h=>h.elim λv4 h=>k v0 v1 v2 v3 v4 h
theorem m9{A0:Sort u0}{A1:Sort u1}{p1:A0->A1->Prop}{p2:A0->A1->Prop}{p3:A0->A1->Prop}(h:(p0)/\∃x0,∃x1,(p1 x0 x1)/\(p2 x0 x1)/\p3 x0 x1)(k:p0->∀x0,∀x1,p1 x0 x1->p2 x0 x1->p3 x0 x1->P):P:=h.elim λv0 h=>h.elim λv1 h=>h.elim λv2 h=>h.elim λv3 h=>h.elim λv4 h=>k v0 v1 v2 v3 v4 h
theorem m8{A0:Sort u0}{p0:A0->Prop}{p1:A0->Prop}{p2:A0->Prop}{p3:A0->Prop}{p4:A0->Prop}(h:∃x0,(p0 x0)/\(p1 x0)/\(p2 x0)/\(p3 x0)/\p4 x0)(k:∀x0,p0 x0->p1 x0->p2 x0->p3 x0->p4 x0->P):P:=h.elim λv0 h=>h.elim λv1 h=>h.elim λv2 h=>h.elim λv3 h=>h.elim λv4 h=>k v0 v1 v2 v3 v4 h
theorem RC{A0:Sort u0}{A1:Sort u1}{A2:Sort u2}{p0:A0->Prop}{p1:A0->A1->A2->Prop}{p2:A0->A1->A2->Prop}(h:∃x0,(p0 x0)/\∃x1,∃x2,(p1 x0 x1 x2)/\p2 x0 x1 x2)(k:∀x0,p0 x0->∀x1,∀x2,p1 x0 x1 x2->p2 x0 x1 x2->P):P:=h.elim λv0 h=>h.elim λv1 h=>h.elim λv2 h=>h.elim λv3 h=>h.elim λv4 h=>k v0 v1 v2 v3 v4 h
theorem iR{A0:Sort u0}{A1:Sort u1}{p0:A0->A1->Prop}{p1:A0->A1->Prop}{p2:A0->A1->Prop}{p3:A0->A1->Prop}(h:∃x0,∃x1,(p0 x0 x1)/\(p1 x0 x1)/\(p2 x0 x1)/\p3 x0 x1)(k:∀x0,∀x1,p0 x0 x1->p1 x0 x1->p2 x0 x1->p3 x0 x1->P):P:=h.elim λv0 h=>h.elim λv1 h=>h.elim λv2 h=>h.elim λv3 h=>h.elim λv4 h=>k v0 v1 v2 v3 v4 h
theorem jO{A0:Sort u0}{A1:Sort u1}{A2:Sort u2}{p0:A0->A1->A2->Prop}{p1:A0->A1->A2->Prop}{p2:A0->A1->A2->Prop}(h:∃x0,∃x1,∃x2,(p0 x0 x1 x2)/\(p1 x0 x1 x2)/\p2 x0 x1 x2)(k:∀x0,∀x1,∀x2,p0 x0 x1 x2->p1 x0 x1 x2->p2 x0 x1 x2->P):P:=h.elim λv0 h=>h.elim λv1 h=>h.elim λv2 h=>h.elim λv3 h=>h.elim λv4 h=>k v0 v1 v2 v3 v4 h
theorem m7{A0:Sort u0}{A1:Sort u1}{A2:Sort u2}{A3:Sort u3}{p0:A0->A1->A2->A3->Prop}{p1:A0->A1->A2->A3->Prop}(h:∃x0,∃x1,∃x2,∃x3,(p0 x0 x1 x2 x3)/\p1 x0 x1 x2 x3)(k:∀x0,∀x1,∀x2,∀x3,p0 x0 x1 x2 x3->p1 x0 x1 x2 x3->P):P:=h.elim λv0 h=>h.elim λv1 h=>h.elim λv2 h=>h.elim λv3 h=>h.elim λv4 h=>k v0 v1 v2 v3 v4 h
theorem uy{p5:Prop}{p6:Prop}(h:(p0)/\(p1)/\(p2)/\(p3)/\(p4)/\(p5)/\p6)(k:p0->p1->p2->p3->p4->p5->p6->P):P:=h.elim λv0 h=>h.elim λv1 h=>h.elim λv2 h=>h.elim λv3 h=>h.elim λv4 h=>h.elim λv5 h=>k v0 v1 v2 v3 v4 v5 h
theorem M4{A0:Sort u0}{A1:Sort u1}{p0:A0->Prop}{p1:A0->A1->Prop}{p2:A0->A1->Prop}{p3:A0->A1->Prop}{p4:A0->A1->Prop}(h:∃x0,(p0 x0)/\∃x1,(p1 x0 x1)/\(p2 x0 x1)/\(p3 x0 x1)/\p4 x0 x1)(k:∀x0,p0 x0->∀x1,p1 x0 x1->p2 x0 x1->p3 x0 x1->p4 x0 x1->P):P:=h.elim λv0 h=>h.elim λv1 h=>h.elim λv2 h=>h.elim λv3 h=>h.elim λv4 h=>h.elim λv5 h=>k v0 v1 v2 v3 v4 v5 h
theorem iI{A0:Sort u0}{A1:Sort u1}{p0:A0->A1->Prop}{p1:A0->A1->Prop}{p2:A0->A1->Prop}{p3:A0->A1->Prop}{p4:A0->A1->Prop}(h:∃x0,∃x1,(p0 x0 x1)/\(p1 x0 x1)/\(p2 x0 x1)/\(p3 x0 x1)/\p4 x0 x1)(k:∀x0,∀x1,p0 x0 x1->p1 x0 x1->p2 x0 x1->p3 x0 x1->p4 x0 x1->P):P:=h.elim λv0 h=>h.elim λv1 h=>h.elim λv2 h=>h.elim λv3 h=>h.elim λv4 h=>h.elim λv5 h=>k v0 v1 v2 v3 v4 v5 h
theorem kP{A0:Sort u0}{A1:Sort u1}{A2:Sort u2}{p0:A0->A1->A2->Prop}{p1:A0->A1->A2->Prop}{p2:A0->A1->A2->Prop}{p3:A0->A1->A2->Prop}(h:∃x0,∃x1,∃x2,(p0 x0 x1 x2)/\(p1 x0 x1 x2)/\(p2 x0 x1 x2)/\p3 x0 x1 x2)(k:∀x0,∀x1,∀x2,p0 x0 x1 x2->p1 x0 x1 x2->p2 x0 x1 x2->p3 x0 x1 x2->P):P:=h.elim λv0 h=>h.elim λv1 h=>h.elim λv2 h=>h.elim λv3 h=>h.elim λv4 h=>h.elim λv5 h=>k v0 v1 v2 v3 v4 v5 h
theorem j4{A0:Sort u0}{A1:Sort u1}{A2:Sort u2}{A3:Sort u3}{p0:A0->A1->A2->A3->Prop}{p1:A0->A1->A2->A3->Prop}{p2:A0->A1->A2->A3->Prop}(h:∃x0,∃x1,∃x2,∃x3,(p0 x0 x1 x2 x3)/\(p1 x0 x1 x2 x3)/\p2 x0 x1 x2 x3)(k:∀x0,∀x1,∀x2,∀x3,p0 x0 x1 x2 x3->p1 x0 x1 x2 x3->p2 x0 x1 x2 x3->P):P:=h.elim λv0 h=>h.elim λv1 h=>h.elim λv2 h=>h.elim λv3 h=>h.elim λv4 h=>h.elim λv5 h=>k v0 v1 v2 v3 v4 v5 h
theorem Ay{A0:Sort u0}{A1:Sort u1}{p1:A0->A1->Prop}{p2:A0->A1->Prop}{p3:A0->A1->Prop}{p4:A0->A1->Prop}{p5:A0->A1->Prop}(h:(p0)/\∃x0,∃x1,(p1 x0 x1)/\(p2 x0 x1)/\(p3 x0 x1)/\(p4 x0 x1)/\p5 x0 x1)(k:p0->∀x0,∀x1,p1 x0 x1->p2 x0 x1->p3 x0 x1->p4 x0 x1->p5 x0 x1->P):P:=h.elim λv0 h=>h.elim λv1 h=>h.elim λv2 h=>h.elim λv3 h=>h.elim λv4 h=>h.elim λv5 h=>h.elim λv6 h=>k v0 v1 v2 v3 v4 v5 v6 h
theorem IY{A0:Sort u0}{A1:Sort u1}{p0:A0->A1->Prop}{p1:A0->A1->Prop}{p2:A0->A1->Prop}{p3:A0->A1->Prop}{p4:A0->A1->Prop}{p5:A0->A1->Prop}(h:∃x0,∃x1,(p0 x0 x1)/\(p1 x0 x1)/\(p2 x0 x1)/\(p3 x0 x1)/\(p4 x0 x1)/\p5 x0 x1)(k:∀x0,∀x1,p0 x0 x1->p1 x0 x1->p2 x0 x1->p3 x0 x1->p4 x0 x1->p5 x0 x1->P):P:=h.elim λv0 h=>h.elim λv1 h=>h.elim λv2 h=>h.elim λv3 h=>h.elim λv4 h=>h.elim λv5 h=>h.elim λv6 h=>k v0 v1 v2 v3 v4 v5 v6 h
theorem IX{A0:Sort u0}{A1:Sort u1}{A2:Sort u2}{p0:A0->A1->A2->Prop}{p1:A0->A1->A2->Prop}{p2:A0->A1->A2->Prop}{p3:A0->A1->A2->Prop}{p4:A0->A1->A2->Prop}(h:∃x0,∃x1,∃x2,(p0 x0 x1 x2)/\(p1 x0 x1 x2)/\(p2 x0 x1 x2)/\(p3 x0 x1 x2)/\p4 x0 x1 x2)(k:∀x0,∀x1,∀x2,p0 x0 x1 x2->p1 x0 x1 x2->p2 x0 x1 x2->p3 x0 x1 x2->p4 x0 x1 x2->P):P:=h.elim λv0 h=>h.elim λv1 h=>h.elim λv2 h=>h.elim λv3 h=>h.elim λv4 h=>h.elim λv5 h=>h.elim λv6 h=>k v0 v1 v2 v3 v4 v5 v6 h
theorem fo{A0:Sort u0}{A1:Sort u1}{p1:A0->A1->Prop}{p2:A0->A1->Prop}{p3:A0->A1->Prop}{p4:A0->A1->Prop}{p5:A0->A1->Prop}{p6:A0->A1->Prop}(h:(p0)/\∃x0,∃x1,(p1 x0 x1)/\(p2 x0 x1)/\(p3 x0 x1)/\(p4 x0 x1)/\(p5 x0 x1)/\p6 x0 x1)(k:p0->∀x0,∀x1,p1 x0 x1->p2 x0 x1->p3 x0 x1->p4 x0 x1->p5 x0 x1->p6 x0 x1->P):P:=h.elim λv0 h=>h.elim λv1 h=>h.elim λv2 h=>h.elim λv3 h=>h.elim λv4 h=>h.elim λv5 h=>h.elim λv6 h=>h.elim λv7 h=>k v0 v1 v2 v3 v4 v5 v6 v7 h
theorem fR{A0:Sort u0}{A1:Sort u1}{A2:Sort u2}{p0:A0->A1->A2->Prop}{p1:A0->A1->A2->Prop}{p2:A0->A1->A2->Prop}{p3:A0->A1->A2->Prop}{p4:A0->A1->A2->Prop}{p5:A0->A1->A2->Prop}(h:∃x0,∃x1,∃x2,(p0 x0 x1 x2)/\(p1 x0 x1 x2)/\(p2 x0 x1 x2)/\(p3 x0 x1 x2)/\(p4 x0 x1 x2)/\p5 x0 x1 x2)(k:∀x0,∀x1,∀x2,p0 x0 x1 x2->p1 x0 x1 x2->p2 x0 x1 x2->p3 x0 x1 x2->p4 x0 x1 x2->p5 x0 x1 x2->P):P:=h.elim λv0 h=>h.elim λv1 h=>h.elim λv2 h=>h.elim λv3 h=>h.elim λv4 h=>h.elim λv5 h=>h.elim λv6 h=>h.elim λv7 h=>k v0 v1 v2 v3 v4 v5 v6 v7 h
theorem CJ{A0:Sort u0}{A1:Sort u1}{A2:Sort u2}{A3:Sort u3}{A4:Sort u4}{A5:Sort u5}{p0:A0->A1->A2->A3->A4->A5->Prop}{p1:A0->A1->A2->A3->A4->A5->Prop}{p2:A0->A1->A2->A3->A4->A5->Prop}{p3:A0->A1->A2->A3->A4->A5->Prop}(h:∃x0,∃x1,∃x2,∃x3,∃x4,∃x5,(p0 x0 x1 x2 x3 x4 x5)/\(p1 x0 x1 x2 x3 x4 x5)/\(p2 x0 x1 x2 x3 x4 x5)/\p3 x0 x1 x2 x3 x4 x5)(k:∀x0,∀x1,∀x2,∀x3,∀x4,∀x5,p0 x0 x1 x2 x3 x4 x5->p1 x0 x1 x2 x3 x4 x5->p2 x0 x1 x2 x3 x4 x5->p3 x0 x1 x2 x3 x4 x5->P):P:=h.elim λv0 h=>h.elim λv1 h=>h.elim λv2 h=>h.elim λv3 h=>h.elim λv4 h=>h.elim λv5 h=>h.elim λv6 h=>h.elim λv7 h=>h.elim λv8 h=>k v0 v1 v2 v3 v4 v5 v6 v7 v8 h
theorem ff(h:false=true):P:=nomatch h
theorem nn{α:Type u}{x:α}(h:none=some x):P:=nomatch h
theorem an{a:Bool}(h:(a&&b)=true)(k:a=true->b=true->P):P:=a.casesOn (motive:=λa=>(a&&b)=true->(a=true->b=true->P)->P) (λh _=>ff h) (λh k=>k rfl h) h k
theorem rT{a c:Bool}(h:(a&&b&&c)=true)(k:a=true->b=true->c=true->P):P:=an h λh hc=>an h λha hb=>k ha hb hc
theorem LZ{a c d:Bool}(h:(a&&b&&c&&d)=true)(k:a=true->b=true->c=true->d=true->P):P:=an h λh hd=>rT h λha hb hc=>k ha hb hc hd
theorem Xv{a c d e:Bool}(h:(a&&b&&c&&d&&e)=true)(k:a=true->b=true->c=true->d=true->e=true->P):P:=an h λh he=>LZ h λha hb hc hd=>k ha hb hc hd he
theorem MI{a c d e f:Bool}(h:(a&&b&&c&&d&&e&&f)=true)(k:a=true->b=true->c=true->d=true->e=true->f=true->P):P:=an h λh hf=>Xv h λha hb hc hd he=>k ha hb hc hd he hf
theorem Q5{a c d e f g:Bool}(h:(a&&b&&c&&d&&e&&f&&g)=true)(k:a=true->b=true->c=true->d=true->e=true->f=true->g=true->P):P:=an h λh hg=>MI h λha hb hc hd he hf=>k ha hb hc hd he hf hg
@[elab_as_elim] theorem CD{α:Type u}[BEq α][LawfulBEq α]{a b:α}{P:α->Prop}(h:(a==b)=true)(k:P b):P a:=eq_of_beq h▸k
@[elab_as_elim] theorem sk{α:Type u}{a b:α}{P:α->Prop}(h:some a=some b)(k:P a):P b:=ag h▸k
@[elab_as_elim] theorem pk{α:Type u}{β:Type v}{a c:α}{b d:β}{P:α->β->Prop}(h:(a,b)=(c,d))(k:P a b):P c d:=(gc h).1▸(gc h).2▸k
@[elab_as_elim] theorem sp{α:Type u}{β:Type v}{a c:α}{b d:β}{P:α->β->Prop}(h:some (a,b)=some (c,d))(k:P a b):P c d:=pk (ag h) k
@[elab_as_elim] theorem xo{α:Type u}{β:Type v}{γ:Type w}{a c:α}{b d:β}{e f:γ}{P:α->β->γ->Prop}(h:some (a,b,e)=some (c,d,f))(k:P a b e):P c d f:=pk (P:=λx y=>P x y.1 y.2) (ag h) k
theorem ob{α:Type u}{β:Type v}{o:Option α}{f:α->Option β}{b:β}(h:o.bind f=some b)(k:∀a,o=some a->f a=some b->P):P:=o.casesOn (motive:=λo=>o.bind f=some b->(∀a,o=some a->f a=some b->P)->P) (λh _=>nn h) (λa h k=>k a rfl h) h k
theorem f7{α:Type u}{β:Type v}{γ:Type w}{o:Option (α×β)}{f:α×β->Option γ}{b:γ}(h:o.bind f=some b)(k:∀x y,o=some (x,y)->f (x,y)=some b->P):P:=ob h λa=>k a.1 a.2
@[elab_as_elim] theorem om{α:Type u}{β:Type v}{o:Option α}{f:α->β}{b:β}{P:β->Prop}(h:o.map f=some b)(k:∀a,o=some a->P (f a)):P b:=o.casesOn (motive:=λo=>o.map f=some b->(∀a,o=some a->P (f a))->P b) (λh _=>nn h) (λa h k=>sk h (k a rfl)) h k
@[elab_as_elim] theorem Yb{α:Type u}{β:Type v}{γ:Type w}{o:Option (α×β)}{f:α×β->γ}{b:γ}{P:γ->Prop}(h:o.map f=some b)(k:∀x y,o=some (x,y)->P (f (x,y))):P b:=om h λa=>k a.1 a.2
@[elab_as_elim] theorem tK{α:Type u}{β:Type v}{γ:Type w}{o:Option α}{f:α->β×γ}{b:β}{c:γ}{P:β->γ->Prop}(h:o.map f=some (b,c))(k:∀a,o=some a->P (f a).1 (f a).2):P b c:=om (P:=λx=>P x.1 x.2) h k
theorem r8{c:Prop}[Decidable c]{α:Sort u}{a b y:α}(h:(if c then a else b)=y)(k:c->a=y->P)(l:¬c->b=y->P):P:=if x:c then k x ((if_pos x).symm.trans h)else l x ((if_neg x).symm.trans h)
theorem dV{c:Prop}[Decidable c]{α:Type u}{a:Option α}{y:α}(h:(if c then a else none)=some y)(k:c->a=some y->P):P:=r8 h k λ_ h=>nn h
@[elab_as_elim] theorem oN{α:Type u}{o:Option α}{P:Option α->Prop}(h:o.isNone=true)(k:P none):P o:=o.casesOn (motive:=λo=>o.isNone=true->P o) (λ_=>k) (λ_ h=>ff h) h
@[elab_as_elim] theorem oS{α:Type u}{o:Option α}{f:α->Bool}{P:Option α->Prop}(h:o.any f=true)(k:∀a,f a=true->P (some a)):P o:=o.casesOn (motive:=λo=>o.any f=true->P o) (λh=>ff h) (λa h=>k a h) h
@[elab_as_elim] theorem l0{α:Type u}{l:List α}{P:List α->Prop}(h:l.isEmpty=true)(k:P []):P l:=l.casesOn (motive:=λl=>l.isEmpty=true->P l) (λ_=>k) (λ_ _ h=>ff h) h
theorem oP{α:Type u}{o:Option α}{f:α->Bool}(h:o.any f=true)(k:∀a,o=some a->f a=true->P):P:=o.casesOn (motive:=λo=>o.any f=true->(∀a,o=some a->f a=true->P)->P) (λh _=>ff h) (λa h k=>k a rfl h) h k
theorem bs{α:Type u}{β:Type v}{o:Option α}{a:α}{f:α->Option β}{z:Option β}(h:o=some a)(k:f a=z):o.bind f=z:=h▸k
theorem ms{α:Type u}{β:Type v}{o:Option α}{a:α}{f:α->β}(h:o=some a):o.map f=some (f a):=h▸rfl
theorem oe{α:Type u}{β:Type v}{o:Option α}{z y:β}{f:α->β}(h:o.elim z f=y)(k:o=none->z=y->P)(l:∀a,o=some a->f a=y->P):P:=o.casesOn (motive:=λo=>o.elim z f=y->(o=none->z=y->P)->(∀a,o=some a->f a=y->P)->P) (λh k _=>k rfl h) (λa h _ l=>l a rfl h) h k l
theorem Am{α:Type u}{β:Type v}{o:Option α}{f:α->β}{b:β}(h:o.map f=some b)(k:∀a,o=some a->some (f a)=some b->P):P:=o.casesOn (motive:=λo=>o.map f=some b->(∀a,o=some a->some (f a)=some b->P)->P) (λh _=>nn h) (λa h k=>k a rfl h) h k
theorem V3{α:Type u}{β:Type v}[BEq α][LawfulBEq α]{j i:α}{x d:β}{l:List (α×β)}(h:XK j ((i,x)::l)=some d)(k1:j=i->x=d->P)(k2:(j==i)=false->l.lookup j=some d->P):P:=by
 rw[bK]at h;induction hb:j==i using ax with
 |true=>rw[hb]at h;exact k1 (eq_of_beq hb) (ag h)
 |false=>rw[hb]at h;exact k2 hb h
theorem fB{α:Type u}{l:List α}{x:α}(h:l[i]?=some x):i<l.length:=(c9.mp h).1
theorem uN{α:Type u}{l r:List α}{x:α}(e:(l++r)[i]?=some x)(k1:l[i]?=some x->P)(k2:∀j,i=l.length+j->r[j]?=some x->P):P:=
 if h:i<l.length then k1 ((ek h).symm.trans e)else k2 (i-l.length) (c6 (cV.mp h)).symm ((hZ (cV.mp h)).symm.trans e)
theorem get_map{α:Type u}{β:Type v}{l:List α}{f:α->β}{x:β}(e:(l.map f)[i]?=some x)(k:∀a,l[i]?=some a->f a=x->P):P:=match h:l[i]?with
 |some a=>k a h (ag (((fK).trans (congrArg (Gq f) h)).symm.trans e))
 |none=>nn (((fK).trans (congrArg (Gq f) h)).symm.trans e)
theorem Qr{α:Type u}{a b:Option α}{r:α}(h:a.or b=some r)(k:a=some r->P)(l:b=some r->P):P:=a.casesOn (motive:=λa=>a.or b=some r->(a=some r->P)->P) (λh _=>l h) (λ_ h k=>k h) h k
@[elab_as_elim] theorem MD{α:Type u}{β:Type v}{γ:Type w}{δ:Type z}{o:Option α}{f:α->β×γ×δ}{b:β}{c:γ}{d:δ}{P:β->γ->δ->Prop}(h:o.map f=some (b,c,d))(k:∀a,o=some a->P (f a).1 (f a).2.1 (f a).2.2):P b c d:=om (P:=λx=>P x.1 x.2.1 x.2.2) h k
theorem ll{a n:Nat}(h:a<=m)(e:rb m n=true):a<=n:=ak h (av e)
theorem RO{a b n:Nat}(h:a<b)(g:b<=m)(e:rb m n=true):a<n:=az h (ak g (av e))
theorem cps(h:∀G:Prop,(P->G)->G):P:=h P id
@[elab_as_elim] theorem eW{α:Sort u}{a b:α}{P:α->Prop}(h:a=b)(k:P b):P a:=h▸k
@[elab_as_elim] theorem eL{α:Sort u}{a b:α}{P:α->Prop}(h:a=b)(k:P a):P b:=h▸k
@[elab_as_elim] theorem iW{a b:Prop}{P:Prop->Prop}(h:a↔b)(k:P b):P a:=propext h▸k
@[elab_as_elim] theorem iL{a b:Prop}{P:Prop->Prop}(h:a↔b)(k:P a):P b:=propext h▸k
@[elab_as_elim] theorem l2{α:Type u}{β:Type v}{P:List α->List β->Prop}(as:List α)(bs:List β)(h0:P [] [])(h1:∀a as b bs,P as bs->P (a::as) (b::bs))(ha:∀a as,P (a::as) [])(hb:∀b bs,P [] (b::bs)):P as bs:=
  t_ (motive:=λas=>∀bs,P as bs) (λbs=>bs.casesOn h0 hb) (λa as ih bs=>bs.casesOn (ha a as) λb bs=>h1 a as b bs (ih bs)) as bs
@[elab_as_elim] theorem bk{α:Type u}{x y z:α}{P:Bool->Prop}(h:(if b=true then x else y)=z)(t:x=z->P true)(f:y=z->P false):P b:=
  b.casesOn (motive:=λb=>(if b=true then x else y)=z->P b) f t h
inductive FV where
 |none|bool (b:Bool)|int (i:Int)|str (s:bB)
 |tup (xs:List FV)|list (xs:List FV)
 |dict (es:List (Int×FV))|set (xs:List Int)
 |inst (c:Nat) (fs:List (Nat×FV))
 |obj (a:Nat)|mB (k:Nat) (aX:List FV)
 |range (a b c:Int)
 |well
set_option genCtorIdx false
inductive OB where
 |list (xs:List FV)|dict (es:List (Int×FV))|set (xs:List Int)
inductive OF where
 |fv (d:FV)|ob (o:OB)
inductive OT where
 |ob (o:OB)|gr (iH:List (List FV))|inst (c:Nat) (fs:List (Nat×OF))
inductive EV where
 |fv (d:FV)|bor (t:OT)|own (t:OT)
set_option genCtorIdx true in
inductive Slot where
 |unset|val (d:FV)|own (t:OT)|ro (d:FV)|bor (t:OT)
noncomputable def OB.fz:OB->FV
 |.list xs=>.list xs
 |.dict es=>.dict es
 |.set xs=>.set xs
def OF.fz:OF->FV
 |.fv d=>d
 |.ob o=>o.fz
def OT.fz:OT->FV
 |.ob o=>o.fz
 |.gr iH=>.list (iH.map FV.list)
 |.inst c fs=>.inst c (fs.map λp=>(p.1,p.2.fz))
noncomputable def Slot.GQ:Slot->Option EV
 |.unset=>ab
 |.val d=>some (.fv d)
 |.own t=>some (.bor t)
 |.ro d=>some (.fv d)
 |.bor t=>some (.bor t)
noncomputable def Slot.lend:Slot->Option Slot
 |.unset=>ab
 |.val d=>some (.ro d)
 |.own t=>some (.bor t)
 |.ro d=>some (.ro d)
 |.bor t=>some (.bor t)
noncomputable def EV.slot:EV->Slot
 |.fv d=>.val d
 |.bor t=>.bor t
 |.own t=>.own t
noncomputable def EV.arg:EV->Slot
 |.fv d=>.val d
 |.bor t=>.bor t
 |.own t=>.own t
abbrev WL:=Option (List FV)
set_option genCtorIdx true
inductive BI where
 |len|range|list|set|abs|int|max|min|sum|sorted
 deriving DecidableEq
inductive ME where
 |strip|count|user (k:Nat)
 deriving DecidableEq
set_option genCtorIdx false
mutual
inductive IE where
 |var (i:Nat)
 |lit (d:FV)
 |bc (d:FV)
 |bin (op:Operator) (a b:IE)
 |un (op:UnaryOp) (a:IE)
 |ig (es:IL)|uG (es:IL)
 |cmp (op:CmpOp) (a b:IE)
 |chain (op1 op2:CmpOp) (a b c:IE)
 |ite (t a b:IE)
 |idx (a i:IE)
 |xw (a lo hi:IE)
 |rev (a:IE)
 |attr (a:IE) (k:Nat)
 |tup (es:IL)
 |lst (own:Bool) (es:IL)
 |GO (es:IL)
 |BZ
 |vH (a b:IE)
 |call (f:IE) (es:IL)
 |bj (b:BI) (own:Bool) (es:IL)
 |eg (m:ME) (o:IE) (es:IL)
 |comp (own:Bool) (m:Nat) (aX:List Nat) (it:IE) (f6:List Nat) (ifs:IL) (rest:IG)
 |sU (m:Nat) (aX:List Nat) (it:IE) (f6:Nat)
 |rO (own:Bool) (m:Nat) (aX:List Nat) (it:IE) (f6:Nat) (v:IE)
 |lam (k:Nat) (aX:List Nat)
inductive IL where
 |nil|cons (e:IE) (r:IL)
inductive IG where
 |emit (e:IE)|gen (it:IE) (f6:List Nat) (ifs:IL) (rest:IG)
end
noncomputable def IE.SO:IE->Option FV
 |.lit d=>some d
 |_=>ab
@[elab_as_elim] theorem IE.SN{P:IE->Prop}{e:IE}{d:FV}(h:e.SO=some d)(k:P (.lit d)):P e:=IE.casesOn (motive_1:=λo=>o.SO=some d->P o) e (λ_=>nn) (λa h=>sk (P:=λx=>P (.lit x)) h.symm k) (λ_=>nn) (λ_ _ _=>nn) (λ_ _=>nn) (λ_=>nn) (λ_=>nn) (λ_ _ _=>nn) (λ_ _ _ _ _=>nn) (λ_ _ _=>nn) (λ_ _=>nn) (λ_ _ _=>nn) (λ_=>nn) (λ_ _=>nn) (λ_=>nn) (λ_ _=>nn) (λ_=>nn) nn (λ_ _=>nn) (λ_ _=>nn) (λ_ _ _=>nn) (λ_ _ _=>nn) (λ_ _ _ _ _ _ _=>nn) (λ_ _ _ _=>nn) (λ_ _ _ _ _ _=>nn) (λ_ _=>nn) h
set_option genCtorIdx true in
inductive Path where
 |v (i:Nat)|at(i:Nat) (e:IE)|fld (i k:Nat)
mutual
inductive IS where
 |assign (i:Nat) (e:IE)
 |unpack (is:List Nat) (e:IE)
 |jm (is:List Nat) (es:IL)
 |fV (p:Path) (i e:IE)
 |setAttr (i k:Nat) (e:IE)
 |append (p:Path) (e:IE)
 |extend (p:Path) (e:IE)
 |add (p:Path) (e:IE)
 |pop (is:List Nat) (single:Bool) (i:Nat)
 |run (e:IE)
 |ite (t:IE) (a b:IB)
 |while (t:IE) (b:IB)
 |for (is:List Nat) (it:IE) (b:IB)
 |kS (i j:Nat) (it:IE) (b:IB)
 |ret (e:IE)
 |cont
 |fail
 |fz (i:Nat)
 |lock (aX:List Nat)
 |defn (i k:Nat) (aX:List Nat)
inductive IB where
 |nil|cons (s:IS) (r:IB)
end
noncomputable def IS.fz?:IS->Option Nat
 |.fz i=>some i
 |_=>ab
noncomputable def IS.Kn:IS->Option (List Nat)
 |.lock c=>some c
 |_=>ab
@[elab_as_elim] theorem IS.W_{P:IS->Prop}{e:IS}{d:Nat}(h:e.fz?=some d)(k:P (.fz d)):P e:=IS.casesOn (motive_1:=λo=>o.fz?=some d->P o) e (λ_ _=>nn) (λ_ _=>nn) (λ_ _=>nn) (λ_ _ _=>nn) (λ_ _ _=>nn) (λ_ _=>nn) (λ_ _=>nn) (λ_ _=>nn) (λ_ _ _=>nn) (λ_=>nn) (λ_ _ _=>nn) (λ_ _=>nn) (λ_ _ _=>nn) (λ_ _ _ _=>nn) (λ_=>nn) nn nn (λa h=>sk (P:=λx=>P (.fz x)) h.symm k) (λ_=>nn) (λ_ _ _=>nn) h
@[elab_as_elim] theorem IS.Oq{P:IS->Prop}{e:IS}{d:List Nat}(h:e.Kn=some d)(k:P (.lock d)):P e:=IS.casesOn (motive_1:=λo=>o.Kn=some d->P o) e (λ_ _=>nn) (λ_ _=>nn) (λ_ _=>nn) (λ_ _ _=>nn) (λ_ _ _=>nn) (λ_ _=>nn) (λ_ _=>nn) (λ_ _=>nn) (λ_ _ _=>nn) (λ_=>nn) (λ_ _ _=>nn) (λ_ _=>nn) (λ_ _ _=>nn) (λ_ _ _ _=>nn) (λ_=>nn) nn nn (λ_=>nn) (λa h=>sk (P:=λx=>P (.lock x)) h.symm k) (λ_ _ _=>nn) h
noncomputable def FV.b?(d:FV):Option (Bool):=if h:d.ctorIdx=1 then some (FV.bool.elim (motive_1:=λ_=>Bool) d h id)else ab
@[elab_as_elim] theorem FV.Xt{P:FV->Prop}{d:FV}{x:Bool}(h:d.b?=some x)(k:P (.bool x)):P d:=
  if c:d.ctorIdx=1 then FV.bool.elim (motive_1:=λd=>d.b?=some x->P d) d c (λa h=>sk (P:=λa=>P (.bool a)) (show some x=some a from h.symm) k) h else nn ((dif_neg c).symm.trans h)
noncomputable def FV.i?(d:FV):Option (Int):=if h:d.ctorIdx=2 then some (FV.int.elim (motive_1:=λ_=>Int) d h id)else ab
@[elab_as_elim] theorem FV.DZ{P:FV->Prop}{d:FV}{x:Int}(h:d.i?=some x)(k:P (.int x)):P d:=
  if c:d.ctorIdx=2 then FV.int.elim (motive_1:=λd=>d.i?=some x->P d) d c (λa h=>sk (P:=λa=>P (.int a)) (show some x=some a from h.symm) k) h else nn ((dif_neg c).symm.trans h)
noncomputable def FV.s?(d:FV):Option (bB):=if h:d.ctorIdx=3 then some (FV.str.elim (motive_1:=λ_=>bB) d h id)else ab
@[elab_as_elim] theorem FV.Sa{P:FV->Prop}{d:FV}(h:d.s?=some x)(k:P (.str x)):P d:=
  if c:d.ctorIdx=3 then FV.str.elim (motive_1:=λd=>d.s?=some x->P d) d c (λa h=>sk (P:=λa=>P (.str a)) (show some x=some a from h.symm) k) h else nn ((dif_neg c).symm.trans h)
noncomputable def FV.t?(d:FV):Option (List FV):=if h:d.ctorIdx=4 then some (FV.tup.elim (motive_1:=λ_=>List FV) d h id)else ab
@[elab_as_elim] theorem FV.CV{P:FV->Prop}{d:FV}{x:List FV}(h:d.t?=some x)(k:P (.tup x)):P d:=
  if c:d.ctorIdx=4 then FV.tup.elim (motive_1:=λd=>d.t?=some x->P d) d c (λa h=>sk (P:=λa=>P (.tup a)) (show some x=some a from h.symm) k) h else nn ((dif_neg c).symm.trans h)
noncomputable def FV.l?(d:FV):Option (List FV):=if h:d.ctorIdx=5 then some (FV.list.elim (motive_1:=λ_=>List FV) d h id)else ab
@[elab_as_elim] theorem FV.xD{P:FV->Prop}{d:FV}{x:List FV}(h:d.l?=some x)(k:P (.list x)):P d:=
  if c:d.ctorIdx=5 then FV.list.elim (motive_1:=λd=>d.l?=some x->P d) d c (λa h=>sk (P:=λa=>P (.list a)) (show some x=some a from h.symm) k) h else nn ((dif_neg c).symm.trans h)
noncomputable def FV.d?(d:FV):Option (List (Int×FV)):=if h:d.ctorIdx=6 then some (FV.dict.elim (motive_1:=λ_=>List (Int×FV)) d h id)else ab
@[elab_as_elim] theorem FV.Lw{P:FV->Prop}{d:FV}{x:List (Int×FV)}(h:d.d?=some x)(k:P (.dict x)):P d:=
  if c:d.ctorIdx=6 then FV.dict.elim (motive_1:=λd=>d.d?=some x->P d) d c (λa h=>sk (P:=λa=>P (.dict a)) (show some x=some a from h.symm) k) h else nn ((dif_neg c).symm.trans h)
noncomputable def FV.Nh(d:FV):Option (List Int):=if h:d.ctorIdx=7 then some (FV.set.elim (motive_1:=λ_=>List Int) d h id)else ab
@[elab_as_elim] theorem FV.AP{P:FV->Prop}{d:FV}{x:List Int}(h:d.Nh=some x)(k:P (.set x)):P d:=
  if c:d.ctorIdx=7 then FV.set.elim (motive_1:=λd=>d.Nh=some x->P d) d c (λa h=>sk (P:=λa=>P (.set a)) (show some x=some a from h.symm) k) h else nn ((dif_neg c).symm.trans h)
noncomputable def FV.HM(d:FV):Option (Nat×List (Nat×FV)):=if h:d.ctorIdx=8 then some (FV.inst.elim (motive_1:=λ_=>Nat×List (Nat×FV)) d h Prod.mk)else ab
@[elab_as_elim] theorem FV.rL{P:FV->Prop}{d:FV}{x:Nat×List (Nat×FV)}(h:d.HM=some x)(k:P (.inst x.1 x.2)):P d:=
  if c:d.ctorIdx=8 then FV.inst.elim (motive_1:=λd=>d.HM=some x->P d) d c (λa b h=>sk (P:=λx=>P (.inst x.1 x.2)) (show some x=some (a,b)from h.symm) k) h else nn ((dif_neg c).symm.trans h)
noncomputable def FV.r?(d:FV):Option (Int×Int×Int):=if h:d.ctorIdx=11 then some (FV.range.elim (motive_1:=λ_=>Int×Int×Int) d h λa b c=>(a,b,c))else ab
@[elab_as_elim] theorem FV.VC{P:FV->Prop}{d:FV}{x:Int×Int×Int}(h:d.r?=some x)(k:P (.range x.1 x.2.1 x.2.2)):P d:=
  if c:d.ctorIdx=11 then FV.range.elim (motive_1:=λd=>d.r?=some x->P d) d c (λa b e h=>sk (P:=λx=>P (.range x.1 x.2.1 x.2.2)) (show some x=some (a,b,e)from h.symm) k) h else nn ((dif_neg c).symm.trans h)
@[elab_as_elim] theorem FV.vz{P:FV->Prop}{d:FV}(h:d.ctorIdx=0)(k:P .none):P d:=FV.none.elim (motive_1:=P) d h k
@[elab_as_elim] theorem FV.I3{P:FV->Prop}{d:FV}(h:d.ctorIdx=12)(k:P .well):P d:=FV.well.elim (motive_1:=P) d h k
def FV.seq?(d:FV):Option (List FV):=d.t?.elim d.l? some
noncomputable def OB.l?:OB->Option (List FV)
 |.list xs=>some xs
 |.dict _=>ab
 |.set _=>ab
noncomputable def OB.d?:OB->Option (List (Int×FV))
 |.list _=>ab
 |.dict es=>some es
 |.set _=>ab
noncomputable def OB.Nh:OB->Option (List Int)
 |.list _=>ab
 |.dict _=>ab
 |.set xs=>some xs
@[elab_as_elim] theorem OB.xD{P:OB->Prop}{o:OB}{x:List FV}(h:o.l?=some x)(k:P (.list x)):P o:=OB.casesOn (motive:=λo=>o.l?=some x->P o) o (λa h=>sk (P:=λx=>P (.list x)) h.symm k) (λ_=>nn) (λ_=>nn) h
@[elab_as_elim] theorem OB.Lw{P:OB->Prop}{o:OB}{x:List (Int×FV)}(h:o.d?=some x)(k:P (.dict x)):P o:=OB.casesOn (motive:=λo=>o.d?=some x->P o) o (λ_=>nn) (λa h=>sk (P:=λx=>P (.dict x)) h.symm k) (λ_=>nn) h
@[elab_as_elim] theorem OB.AP{P:OB->Prop}{o:OB}{x:List Int}(h:o.Nh=some x)(k:P (.set x)):P o:=OB.casesOn (motive:=λo=>o.Nh=some x->P o) o (λ_=>nn) (λ_=>nn) (λa h=>sk (P:=λx=>P (.set x)) h.symm k) h
noncomputable def OT.o?:OT->Option OB
 |.ob o=>some o
 |.gr _=>ab
 |.inst _ _=>ab
noncomputable def OT.V2:OT->Option (List (List FV))
 |.ob _=>ab
 |.gr x=>some x
 |.inst _ _=>ab
noncomputable def OT.HM:OT->Option (Nat×List (Nat×OF))
 |.ob _=>ab
 |.gr _=>ab
 |.inst c fs=>some (c,fs)
@[elab_as_elim] theorem OT.zt{P:OT->Prop}{o:OT}{x:OB}(h:o.o?=some x)(k:P (.ob x)):P o:=OT.casesOn (motive:=λo=>o.o?=some x->P o) o (λa h=>sk (P:=λx=>P (.ob x)) h.symm k) (λ_=>nn) (λ_ _=>nn) h
@[elab_as_elim] theorem OT.Kp{P:OT->Prop}{o:OT}{x:List (List FV)}(h:o.V2=some x)(k:P (.gr x)):P o:=OT.casesOn (motive:=λo=>o.V2=some x->P o) o (λ_=>nn) (λa h=>sk (P:=λx=>P (.gr x)) h.symm k) (λ_ _=>nn) h
@[elab_as_elim] theorem OT.rL{P:OT->Prop}{o:OT}{x:Nat×List (Nat×OF)}(h:o.HM=some x)(k:P (.inst x.1 x.2)):P o:=OT.casesOn (motive:=λo=>o.HM=some x->P o) o (λ_=>nn) (λ_=>nn) (λ_ _ h=>sk (P:=λx=>P (.inst x.1 x.2)) h.symm k) h
noncomputable def jd:EV->Option FV
 |.fv d=>some d
 |.bor _=>ab
 |.own _=>ab
noncomputable def LO:EV->Option OT
 |.fv _=>ab
 |.bor t=>some t
 |.own _=>ab
@[elab_as_elim] theorem eh{P:EV->Prop}{e:EV}{x:FV}(h:jd e=some x)(k:P (.fv x)):P e:=EV.casesOn (motive:=λo=>jd o=some x->P o) e (λa h=>sk (P:=λx=>P (.fv x)) h.symm k) (λ_=>nn) (λ_=>nn) h
@[elab_as_elim] theorem Ge{P:EV->Prop}{e:EV}{x:OT}(h:LO e=some x)(k:P (.bor x)):P e:=EV.casesOn (motive:=λo=>LO o=some x->P o) e (λ_=>nn) (λa h=>sk (P:=λx=>P (.bor x)) h.symm k) (λ_=>nn) h
noncomputable def EV.by{α:Type}(f:FV->Option α)(g:OT->Option α):EV->Option α
 |.fv d=>f d
 |.bor t=>g t
 |.own _=>ab
@[elab_as_elim] theorem EV.Aa{α:Type}{f:FV->Option α}{g:OT->Option α}{P:EV->Prop}{e:EV}{x:α}(h:e.by f g=some x)(k:∀d,f d=some x->P (.fv d))(l:∀t,g t=some x->P (.bor t)):P e:=EV.casesOn (motive:=λe=>e.by f g=some x->P e) e k l (λ_=>nn) h
noncomputable def eZ:List FV->Option (List Int)
 |[]=>some []
 |d::r=>d.i?.bind λi=>(eZ r).map (i::·)
def EV.ei(e:EV):Option (List FV):=e.by FV.l? λt=>t.o?.bind OB.l?
def EV.LS(e:EV):Option (List Int):=e.by FV.Nh λt=>t.o?.bind OB.Nh
def EV.wY(e:EV):Option (List (Int×FV)):=e.by FV.d? λt=>t.o?.bind OB.d?
def pN(e:EV):Option Int:=(jd e).bind FV.i?
def LU(e:EV):Option bB:=(jd e).bind FV.s?
@[elab_as_elim] theorem n6{P:EV->Prop}{e:EV}{x:Int}(h:pN e=some x)(k:P (.fv (.int x))):P e:=ob h λd h1 h2=>eh h1 (FV.DZ h2 k)
@[elab_as_elim] theorem Xu{P:EV->Prop}{e:EV}(h:LU e=some x)(k:P (.fv (.str x))):P e:=ob h λd h1 h2=>eh h1 (FV.Sa h2 k)
noncomputable def LR(op:Operator)(a b:Int):Option Int:=match op with
 |.Add=>some (a+b)
 |.Sub=>some (a-b)
 |.Mult=>if a.natAbs<2^63\/b.natAbs<2^63 then some (a*b)else ab
 |.FloorDiv=>if b≠0/\b.natAbs<2^128 then some (a.fdiv b)else ab
 |.Mod=>if b≠0 then some (a.fmod b)else ab
 |.Pow=>if 0<=b/\(dy a:Int)*b<=2^27 then some (a^b.toNat)else ab
 |.LShift=>if 0<=b/\b<=1000000/\a.natAbs<2^64 then some (a*2^b.toNat)else ab
 |.RShift=>if 0<=b then some (a.fdiv (2^b.toNat))else ab
 |.BitAnd=>some (dr a b)
 |.BitOr=>some (MP a b)
 |.BitXor=>ab
 |.Div=>ab
 |.MatMult=>ab
noncomputable def cc(n:Nat):Bool:=decide (n<=2^20)
def i9(op:Operator)(a b:EV):Option EV:=
 (pN a).elim (if op=.Add then(LU a).elim (a.ei.bind λxs=>b.ei.bind λys=>if cc (xs.length+ys.length)then some (.fv (.list (xs++ys)))else ab)
   λx=>(LU b).bind λy=>if cc (x.cps.size+y.cps.size)then some (.fv (.str (x++y)))else ab else ab)
   λx=>(pN b).bind λy=>(LR op x y).map λr=>.fv (.int r)
def CQ(xs:List FV):Option Bool:=if cc xs.length then some (!xs.isEmpty)else ab
def Nd(d:FV):Option Bool:=if d.ctorIdx=0 then some false else d.b?.elim (d.l?.bind CQ) some
def iT(e:EV):Option Bool:=e.by Nd λt=>(t.o?.bind OB.l?).bind CQ
def Nc(op:UnaryOp)(a:EV):Option EV:=match op with
 |.USub=>(pN a).map λx=>.fv (.int (-x))
 |.Invert=>(pN a).map λx=>.fv (.int (xi x))
 |.Not=>(iT a).map λb=>.fv (.bool !b)
 |.UAdd=>ab
def j7(i:Int)(xs:List FV):Option Bool:=(eZ xs).map λys=>ys.any (·==i)
noncomputable def Ad:List FV->Option (List bB)
 |[]=>some []
 |d::r=>d.s?.bind λi=>(Ad r).map (i::·)
def ry(x:bB)(xs:List FV):Option Bool:=(Ad xs).map λys=>ys.any (·==x)
def EV.t?(e:EV):Option (List FV):=(jd e).bind FV.t?
def FZ(a:FV)(b:EV):Option Bool:=
 a.i?.elim (a.s?.bind λx=>b.t?.bind (ry x)) λi=>
  b.t?.elim (b.ei.elim (b.LS.elim (b.wY.bind λes=>some ((es.lookup i).isSome)) λxs=>some (xs.contains i)) (j7 i)) (j7 i)
def UH(a b:EV):Option Bool:=
 (pN a).elim ((LU a).elim (a.ei.bind λxs=>b.ei.bind λys=>(eZ xs).bind λis=>(eZ ys).bind λjs=>some (decide (is=js))) λx=>(LU b).map λy=>x==y)
   λx=>(pN b).map λy=>x==y
noncomputable def Qu(a b:EV):Bool:=(a.ei.any λxs=> !xs.isEmpty)&&b.ei.any List.isEmpty
noncomputable def zH(d:FV):Bool:=c5 d.ctorIdx 0
def isNone(e:EV):Option Bool:=(jd e).bind λd=>if zH d then some true else d.HM.map λ_=>false
def mR(op:CmpOp)(a b:EV):Option Bool:=
 match op with
 |.Eq=>UH a b
 |.NotEq=>(UH a b).elim (if Qu a b then some true else ab) λr=>some (!r)
 |.Lt=>(pN a).bind λx=>(pN b).bind λy=>some (decide (x<y))
 |.LtE=>(pN a).bind λx=>(pN b).bind λy=>some (decide (x<=y))
 |.Gt=>(pN a).bind λx=>(pN b).bind λy=>some (decide (y<x))
 |.GtE=>(pN a).bind λx=>(pN b).bind λy=>some (decide (y<=x))
 |.In=>(jd a).bind λd=>FZ d b
 |.NotIn=>(jd a).bind λd=>(FZ d b).map (!·)
 |.Is=>(jd b).bind λd=>if zH d then isNone a else ab
 |.IsNot=>ab
noncomputable def Fn{α:Type}(xs:List α)(i:Int):Option α:=
 if 0<=i then xs[i.toNat]?else if -(xs.length:Int)<=i then xs[(i+xs.length).toNat]?else ab
noncomputable def BH(i:Int):Bool:=decide (-(2^62)<=i/\i<2^62)
def pick(xs:List FV)(k:Int):Option EV:=if BH k then(Fn xs k).map .fv else ab
def QE(wl:WL)(k:Int)(d:FV):Option EV:=d.seq?.elim (d.d?.elim (if d.ctorIdx=12 then wl.bind λxs=>pick xs k else ab) λes=>(es.lookup k).map .fv) λxs=>pick xs k
def Wl(k:Int)(o:OB):Option EV:=o.l?.elim (o.d?.bind λes=>(es.lookup k).map .fv) λxs=>pick xs k
def QD(k:Int)(t:OT):Option EV:=t.o?.elim (t.V2.bind λiH=>if BH k then(Fn iH k).map λxs=>.bor (.ob (.list xs))else ab) (Wl k)
def jt(a i:EV)(wl:WL):Option EV:=(pN i).bind λk=>a.by (QE wl k) (QD k)
def Fg(e:EV):Option (Option Int):=(jd e).bind λd=>if zH d then some ab else d.i?.bind λi=>if 0<=i/\i<2^62 then some (some i)else ab
noncomputable def vf(x:bB)(l u:Option Int):bB:=
 match sliceMade x 0 (l.map λi=>(i,0)) (u.map λi=>(i,0)) ab with
 |.val (.str y _)=>y
 |.str y=>y
 |_=>x
def AU(a lo hi:EV):Option EV:=(Fg lo).bind λl=>(Fg hi).bind λu=>
 (LU a).elim (a.ei.bind λxs=>if l.isNone then u.bind λk=>if cc xs.length then some (.fv (.list (xs.take k.toNat)))else ab else ab)
   λx=>if cc (vf x l u).cps.size then some (.fv (.str (vf x l u)))else ab
def JH(a:EV):Option EV:=a.ei.bind λxs=>if cc xs.length then some (.fv (.list xs.reverse))else ab
noncomputable def OF.ev:OF->EV
 |.fv d=>.fv d
 |.ob o=>.bor (.ob o)
noncomputable def OF.o?:OF->Option OB
 |.fv _=>ab
 |.ob o=>some o
@[elab_as_elim] theorem OF.zt{P:OF->Prop}{s:OF}{x:OB}(h:s.o?=some x)(k:P (.ob x)):P s:=OF.casesOn (motive:=λo=>o.o?=some x->P o) s (λ_=>nn) (λa h=>sk (P:=λx=>P (.ob x)) h.symm k) h
def mr(a:EV)(k:Nat):Option EV:=a.by (λd=>d.HM.bind λx=>(x.2.lookup k).map .fv) λt=>t.HM.bind λx=>(x.2.lookup k).map OF.ev
noncomputable def oM(a b c:Int):List Int:=(ae (b7 a b c).toNat).map λ(i:Nat)=>a+(i:Int)*c
def nt(a b c:Int):Bool:=jK a b c&&decide (c≠0)&&cc (b7 a b c).toNat
def fits(xs:List FV):Option (List FV):=if cc xs.length then some xs else ab
def uL(d:FV):Option (List FV):=d.seq?.elim (d.r?.bind λr=>if nt r.1 r.2.1 r.2.2 then some ((oM r.1 r.2.1 r.2.2).map .int)else ab) fits
def items(e:EV):Option (List FV):=(jd e).bind uL
theorem rC{xs:List FV}(h:xs.length<=2^20):items (.fv (.list xs))=some xs:=if_pos (decide_eq_true h)
theorem Hz{a b c:Int}:items (.fv (.range a b c))=if nt a b c=true then some ((oM a b c).map FV.int)else ab:=rfl
def listItems(a:EV):Option (List FV):=a.by uL λt=>(t.o?.bind OB.l?).bind fits
def V6(a:EV):Option Nat:=a.by (λd=>d.seq?.map (·.length)) λt=>t.o?.elim (t.V2.map (·.length)) λo=>o.l?.map (·.length)
noncomputable def insertSorted(x:Int):List Int->List Int
 |[]=>[x]
 |y::r=>if x<=y then x::y::r else y::insertSorted x r
def fU:List Int->List Int
 |[]=>[]
 |x::r=>insertSorted x (fU r)
noncomputable def xV(f:EV->Option EV):List EV->Option EV
 |[a]=>f a
 |_=>ab
noncomputable def Ie(f:EV->EV->Option EV):List EV->Option EV
 |[a,b]=>f a b
 |_=>ab
noncomputable def Ic(f:EV->EV->EV->Option EV):List EV->Option EV
 |[a,b,c]=>f a b c
 |_=>ab
@[elab_as_elim] theorem qI{f:EV->Option EV}{x:EV}{P:List EV->Prop}{l:List EV}(h:xV f l=some x)(k:∀a,f a=some x->P [a]):P l:=l.casesOn (motive:=λl=>xV f l=some x->P l) nn (λa r=>r.casesOn (motive:=λr=>xV f (a::r)=some x->P (a::r)) (k a) λ_ _=>nn) h
@[elab_as_elim] theorem Ew{f:EV->EV->Option EV}{x:EV}{P:List EV->Prop}{l:List EV}(h:Ie f l=some x)(k:∀a b,f a b=some x->P [a,b]):P l:=l.casesOn (motive:=λl=>Ie f l=some x->P l) nn (λa r=>r.casesOn (motive:=λr=>Ie f (a::r)=some x->P (a::r)) nn λb r=>r.casesOn (motive:=λr=>Ie f (a::b::r)=some x->P (a::b::r)) (k a b) λ_ _=>nn) h
@[elab_as_elim] theorem TY{f:EV->EV->EV->Option EV}{x:EV}{P:List EV->Prop}{l:List EV}(h:Ic f l=some x)(k:∀a b c,f a b c=some x->P [a,b,c]):P l:=l.casesOn (motive:=λl=>Ic f l=some x->P l) nn (λa r=>r.casesOn (motive:=λr=>Ic f (a::r)=some x->P (a::r)) nn λb r=>r.casesOn (motive:=λr=>Ic f (a::b::r)=some x->P (a::b::r)) nn λc r=>r.casesOn (motive:=λr=>Ic f (a::b::c::r)=some x->P (a::b::c::r)) (k a b c) λ_ _=>nn) h
def aaF:List EV->Option EV:=xV λa=>(V6 a).bind λn=>if cc n then some (.fv (.int n))else ab
def TV(args:List EV):Option EV:=(xV (λb=>(pN b).map λb=>.fv (.range 0 b 1)) args).or ((Ie (λa b=>(pN a).bind λa=>(pN b).map λb=>.fv (.range a b 1)) args).or
 (Ic (λa b c=>(pN a).bind λa=>(pN b).bind λb=>(pN c).bind λc=>if c≠0/\c.natAbs<1073741824 then some (.fv (.range a b c))else ab) args))
def Cf(own:Bool):List EV->Option EV:=xV λa=>(listItems a).map λxs=>if own then .own (.ob (.list xs))else .fv (.list xs)
noncomputable def aaE(own:Bool)(args:List EV):Option EV:=if args.isEmpty&&own then some (.own (.ob (.set [])))else ab
def aaH:List EV->Option EV:=xV λa=>(pN a).map λa=>.fv (.int a.natAbs)
def intOf(e:EV):Option Int:=(jd e).bind λd=>d.i?.elim (d.b?.map λb=>if b then 1 else 0) some
def aaG:List EV->Option EV:=xV λa=>(intOf a).map λa=>.fv (.int a)
def Xs(f:Int->Int->Int):List EV->Option EV:=Ie λa b=>(pN a).bind λa=>(pN b).map λb=>.fv (.int (f a b))
def aaD:List EV->Option EV:=xV λa=>a.ei.bind λxs=>(eZ xs).bind λis=>if cc is.length then some (.fv (.int is.sum))else ab
def Dj(e:EV):Option (List Int):=(LO e).bind λt=>t.o?.bind OB.Nh
def PM:List EV->Option EV:=xV λa=>(Dj a).map λxs=>.fv (.list ((fU xs).map .int))
def jw(b:BI)(own:Bool)(args:List EV):Option EV:=
 match b with
 |.len=>aaF args
 |.range=>TV args
 |.list=>Cf own args
 |.set=>aaE own args
 |.abs=>aaH args
 |.int=>aaG args
 |.max=>Xs (λa b=>if b>a then b else a) args
 |.min=>Xs (λa b=>if b<a then b else a) args
 |.sum=>aaD args
 |.sorted=>PM args
def xR:List EV->Option (List FV)
 |[]=>some []
 |x::r=>(jd x).bind λd=>(xR r).map (d::·)
noncomputable def Slot.writable:Slot->Bool
 |.unset=>true
 |.val _=>true
 |.own _=>true
 |.ro _=>false
 |.bor _=>false
def setSlot(fr:List Slot)(i:Nat)(x:Slot):Option (List Slot):=(fr[i]?).bind λs=>if s.writable then some (fr.set i x)else ab
def ez:List Slot->List Nat->List FV->Option (List Slot)
 |fr,[],[]=>some fr
 |fr,i::is,d::ds=>(setSlot fr i (.val d)).bind λcH=>ez cH is ds
 |_,_,_=>ab
noncomputable def EV.Df:EV->Option Slot
 |.fv d=>some (.val d)
 |.bor _=>ab
 |.own t=>some (.own t)
def jR:List Slot->List Nat->List EV->Option (List Slot)
 |fr,[],[]=>some fr
 |fr,i::is,e::ds=>e.Df.bind λsl=>(setSlot fr i sl).bind λcH=>jR cH is ds
 |_,_,_=>ab
def c7(fr:List Slot)(f6:List Nat)(d:FV):Option (List Slot):=
 match f6 with
 |[i]=>setSlot fr i (.val d)
 |is=>d.t?.bind λxs=>ez fr is xs
noncomputable def fW(fr:List Slot):List Nat->Option (List Slot)
 |[]=>some []
 |i::r=>(fr[i]?).bind λs=>s.lend.bind λx=>(fW fr r).map (x::·)
noncomputable def Slot.Zj:Slot->Option FV
 |.unset=>ab
 |.val _=>ab
 |.own _=>ab
 |.ro d=>some d
 |.bor _=>ab
noncomputable def Slot.val?:Slot->Option FV
 |.unset=>ab
 |.val d=>some d
 |.own _=>ab
 |.ro _=>ab
 |.bor _=>ab
noncomputable def Slot.own?:Slot->Option OT
 |.unset=>ab
 |.val _=>ab
 |.own t=>some t
 |.ro _=>ab
 |.bor _=>ab
@[elab_as_elim] theorem Slot.Vv{P:Slot->Prop}{s:Slot}{x:FV}(h:s.Zj=some x)(k:P (.ro x)):P s:=Slot.casesOn (motive:=λo=>o.Zj=some x->P o) s nn (λ_=>nn) (λ_=>nn) (λa h=>sk (P:=λx=>P (.ro x)) h.symm k) (λ_=>nn) h
@[elab_as_elim] theorem Slot.I8{P:Slot->Prop}{s:Slot}{x:FV}(h:s.val?=some x)(k:P (.val x)):P s:=Slot.casesOn (motive:=λo=>o.val?=some x->P o) s nn (λa h=>sk (P:=λx=>P (.val x)) h.symm k) (λ_=>nn) (λ_=>nn) (λ_=>nn) h
@[elab_as_elim] theorem Slot.vr{P:Slot->Prop}{s:Slot}{x:OT}(h:s.own?=some x)(k:P (.own x)):P s:=Slot.casesOn (motive:=λo=>o.own?=some x->P o) s nn (λ_=>nn) (λa h=>sk (P:=λx=>P (.own x)) h.symm k) (λ_=>nn) (λ_=>nn) h
noncomputable def qG(fr:List Slot):List Nat->Option (List FV)
 |[]=>some []
 |i::r=>(fr[i]?).bind λs=>s.Zj.bind λd=>(qG fr r).map (d::·)
def pK(fr:List Slot):List Nat->List Slot
 |[]=>fr
 |i::r=>((fr[i]?).bind Slot.val?).elim (pK fr r) λd=>pK (fr.set i (.ro d)) r
abbrev my:=FV->List EV->WL->Option (FV×WL)
inductive Fl where
 |next|cont|ret (d:FV)
noncomputable def gA:List bB:=["orders","slots","by_slot","many_slots","subs","code","dst","src","off","imm","more","number","name","kinds","gives",
 "?15","?16","?17","?18","?19","count","goal_slot","target","sub_of","sub_end"]
noncomputable def oU(c k:Nat):Option Nat:=
 if c=490 then(if k=20 then some 454 else if k=21 then some 461 else if k=22 then some 468 else if k=23 then some 475 else if k=24 then some 482 else ab)else ab
def F8(e:EV):Option Nat:=e.by (λd=>d.HM.map (·.1)) λt=>t.HM.map (·.1)
noncomputable def RQ(x:bB):bB:=PySem.Txt.strip x
noncomputable def jx(xs:List Int)(i:Int):List Int:=if xs.contains i then xs else xs++[i]
noncomputable def dE(es:List (Int×FV))(i:Int)(d:FV):List (Int×FV):=
 match es with
 |[]=>[(i,d)]
 |(j,e)::r=>if j=i then(i,d)::r else(j,e)::dE r i d
noncomputable def putField(fs:List (Nat×OF))(k:Nat)(x:OF):List (Nat×OF):=
 match fs with
 |[]=>[(k,x)]
 |(j,e)::r=>if j=k then(k,x)::r else(j,e)::putField r k x
noncomputable def ki{σ:Type}(f:σ->FV->Option σ):List FV->σ->Option σ
 |[],a=>some a
 |x::r,a=>(f a x).bind (ki f r)
def ku(t:Bool)(r:Option (EV×WL)):Option (EV×WL):=match t with
 |true=>r.bind λx=>(iT x.1).map λb=>(.fv (.bool b),x.2)
 |false=>r
def Q4(r:Option (EV×WL)):Option (Bool×WL):=r.bind λx=>((jd x.1).bind FV.b?).map λb=>(b,x.2)
noncomputable def ofT(r:Option (Bool×WL)):Option (EV×WL):=r.map λx=>(.fv (.bool x.1),x.2)
def Zy(x:EV)(ys:List EV):Option EV:=(LU x).bind λs=>if ys.isEmpty=true/\cc s.cps.size=true then some (.fv (.str (RQ s)))else ab
def Px(x:EV)(ys:List EV):Option EV:=(xR ys).bind λds=>(eZ ds).bind λjs=>x.ei.bind λxs=>(eZ xs).bind λis=>match js with
 |[i]=>some (.fv (.int (is.count i)))
 |_=>ab
noncomputable def J7:List Int->Option (EV)
 |[i]=>if 0<=i/\i<64 then some (.own (.ob (.set [i])))else ab
 |_=>ab
noncomputable def Dr(wl:WL):Option Unit:=if wl.isNone then some ()else ab
def Pm(f6:Nat)(a:List Slot×List (Int×FV)×WL)(f:List Slot->Option (EV×WL))(d:FV):Option (List Slot×List (Int×FV)×WL):=
 d.i?.bind λi=>(c7 a.1 [f6] (.int i)).bind λf9=>(f f9).bind λy=>(jd y.1).map λd=>(f9,dE a.2.1 i d,y.2)
mutual
def lP(C:my):IE->Bool->List Slot->WL->Option (EV×WL)
 |.var i,t,fr,wl=>ku t ((fr[i]?).bind λs=>s.GQ.map λe=>(e,wl))
 |.lit d,t,_,wl=>ku t (some (.fv d,wl))
 |.bc d,t,_,wl=>ku t (some (.fv d,wl))
 |.bin op a b,t,fr,wl=>ku t ((lP C a false fr wl).bind λx=>(lP C b false fr x.2).bind λy=>(i9 op x.1 y.1).map λr=>(r,y.2))
 |.un op a,t,fr,wl=>match t&&op==.Not with
  |true=>ofT ((Q4 (lP C a true fr wl)).map λx=>(!x.1,x.2))
  |false=>ku t ((lP C a false fr wl).bind λx=>(Nc op x.1).map λr=>(r,x.2))
 |.ig es,t,fr,wl=>match t with
  |true=>ofT (fI C es fr wl)
  |false=>sQ C es fr wl
 |.uG es,t,fr,wl=>match t with
  |true=>ofT (qr C es fr wl)
  |false=>BW C es fr wl
 |.cmp op a b,t,fr,wl=>ku t ((lP C a false fr wl).bind λx=>(lP C b false fr x.2).bind λy=>(mR op x.1 y.1).map λr=>(.fv (.bool r),y.2))
 |.chain op1 op2 a b c,t,fr,wl=>ku t ((lP C a false fr wl).bind λx=>(lP C b false fr x.2).bind λy=>(mR op1 x.1 y.1).bind λr=>
   if r then(lP C c false fr y.2).bind λz=>(mR op2 y.1 z.1).map λr=>(.fv (.bool r),z.2)else some (.fv (.bool false),y.2))
 |.ite c a b,t,fr,wl=>(Q4 (lP C c true fr wl)).bind λx=>if x.1 then lP C a t fr x.2 else lP C b t fr x.2
 |.idx a i,t,fr,wl=>ku t ((lP C a false fr wl).bind λx=>(lP C i false fr x.2).bind λy=>(jt x.1 y.1 y.2).map λr=>(r,y.2))
 |.xw a lo hi,t,fr,wl=>ku t ((lP C a false fr wl).bind λx=>(lP C lo false fr x.2).bind λy=>(lP C hi false fr y.2).bind λz=>(AU x.1 y.1 z.1).map λr=>(r,z.2))
 |.rev a,t,fr,wl=>ku t ((lP C a false fr wl).bind λx=>(JH x.1).map λr=>(r,x.2))
 |.attr a k,t,fr,wl=>ku t ((lP C a false fr wl).bind λx=>(mr x.1 k).map λr=>(r,x.2))
 |.tup es,t,fr,wl=>ku t ((ou C es fr wl).bind λx=>(xR x.1).map λds=>(.fv (.tup ds),x.2))
 |.lst own es,t,fr,wl=>ku t ((ou C es fr wl).bind λx=>(xR x.1).map λds=>(if own then .own (.ob (.list ds))else .fv (.list ds),x.2))
 |.GO es,t,fr,wl=>ku t ((ou C es fr wl).bind λx=>(xR x.1).bind λds=>(eZ ds).bind λis=>(J7 is).map λr=>(r,x.2))
 |.BZ,t,_,wl=>ku t (some (.own (.ob (.dict [])),wl))
 |.vH a b,t,fr,wl=>ku t ((lP C a false fr wl).bind λx=>(lP C b false fr x.2).bind λy=>(jd x.1).bind λp=>(jd y.1).bind λq=>(Dr y.2).map λ_=>(.fv .well,some [p,q]))
 |.call f es,t,fr,wl=>ku t ((lP C f false fr wl).bind λx=>(ou C es fr x.2).bind λy=>(jd x.1).bind λd=>(C d y.1 y.2).map λr=>(.fv r.1,r.2))
 |.bj b own es,t,fr,wl=>ku t ((ou C es fr wl).bind λx=>(jw b own x.1).map λr=>(r,x.2))
 |.eg m o es,t,fr,wl=>ku t ((lP C o false fr wl).bind λx=>(ou C es fr x.2).bind λy=>match m with
   |.strip=>(Zy x.1 y.1).map λr=>(r,y.2)
   |.count=>(Px x.1 y.1).map λr=>(r,y.2)
   |.user k=>(F8 x.1).bind λc=>(oU c k).bind λa=>(C (.obj a) (x.1::y.1) y.2).map λr=>(.fv r.1,r.2))
 |.comp own m aX it f6 ifs rest,t,fr,wl=>ku t ((lP C it false fr wl).bind λx=>(items x.1).bind λvs=>(fW fr aX).bind λcs=>
   (ki (λ(a:List Slot×List FV×WL) v=>(c7 a.1 f6 v).bind λf9=>(fI C ifs f9 a.2.2).bind λt=>
     if t.1 then HQ C rest f9 a.2.1 t.2 else some (f9,a.2.1,t.2)) vs (bD m .unset++cs,[],x.2)).bind λr=>
     if cc r.2.1.length then some (if own then .own (.ob (.list r.2.1))else .fv (.list r.2.1),r.2.2)else ab)
 |.sU m aX it f6,t,fr,wl=>ku t ((lP C it false fr wl).bind λx=>(items x.1).bind λvs=>(fW fr aX).bind λ_=>
   if f6<m then some (.own (.gr (vs.map λ_=>[])),x.2)else ab)
 |.rO own m aX it f6 v,t,fr,wl=>ku t ((lP C it false fr wl).bind λx=>(items x.1).bind λvs=>(fW fr aX).bind λcs=>
   (ki (λ(a:List Slot×List (Int×FV)×WL) k=>Pm f6 a (λf9=>lP C v false f9 a.2.2) k) vs (bD m .unset++cs,[],x.2)).bind λr=>
     if cc r.2.1.length then some (if own then .own (.ob (.dict r.2.1))else .fv (.dict r.2.1),r.2.2)else ab)
 |.lam k aX,t,fr,wl=>ku t ((qG fr aX).map λcs=>(.fv (.mB k cs),wl))
def ou(C:my):IL->List Slot->WL->Option (List EV×WL)
 |.nil,_,wl=>some ([],wl)
 |.cons e r,fr,wl=>(lP C e false fr wl).bind λx=>(ou C r fr x.2).map λy=>(x.1::y.1,y.2)
def fI(C:my):IL->List Slot->WL->Option (Bool×WL)
 |.nil,_,wl=>some (true,wl)
 |.cons e r,fr,wl=>(Q4 (lP C e true fr wl)).bind λx=>if x.1 then fI C r fr x.2 else some (false,x.2)
def qr(C:my):IL->List Slot->WL->Option (Bool×WL)
 |.nil,_,wl=>some (false,wl)
 |.cons e r,fr,wl=>(Q4 (lP C e true fr wl)).bind λx=>if x.1 then some (true,x.2)else qr C r fr x.2
def sQ(C:my):IL->List Slot->WL->Option (EV×WL)
 |.nil,_,_=>ab
 |.cons e r,fr,wl=>match r with
  |.nil=>lP C e false fr wl
  |.cons _ _=>(lP C e false fr wl).bind λx=>(iT x.1).bind λb=>if b then sQ C r fr x.2 else some x
def BW(C:my):IL->List Slot->WL->Option (EV×WL)
 |.nil,_,_=>ab
 |.cons e r,fr,wl=>match r with
  |.nil=>lP C e false fr wl
  |.cons _ _=>(lP C e false fr wl).bind λx=>(iT x.1).bind λb=>if b then some x else BW C r fr x.2
def HQ(C:my):IG->List Slot->List FV->WL->Option (List Slot×List FV×WL)
 |.emit e,fr,acc,wl=>(lP C e false fr wl).bind λx=>(jd x.1).map λd=>(fr,acc++[d],x.2)
 |.gen it f6 ifs rest,fr,acc,wl=>(lP C it false fr wl).bind λx=>(items x.1).bind λvs=>
   ki (λ(a:List Slot×List FV×WL) v=>(c7 a.1 f6 v).bind λf9=>(fI C ifs f9 a.2.2).bind λt=>
    if t.1 then HQ C rest f9 a.2.1 t.2 else some (f9,a.2.1,t.2)) vs (fr,acc,x.2)
end
def ev(C:my)(e:IE)(fr:List Slot)(wl:WL):Option (EV×WL):=lP C e false fr wl
def eK(C:my)(e:IE)(fr:List Slot)(wl:WL):Option (Bool×WL):=Q4 (lP C e true fr wl)
section
variable {C:my}{fr:List Slot}{wl:WL}
theorem fi:ev C (.var i) fr wl=(fr[i]?).bind λs=>s.GQ.map λe=>(e,wl):=rfl
theorem Li{op:Operator}{a b:IE}:ev C (.bin op a b) fr wl=(ev C a fr wl).bind λx=>(ev C b fr x.2).bind λy=>(i9 op x.1 y.1).map λr=>(r,y.2):=rfl
theorem QX{op:UnaryOp}{a:IE}:ev C (.un op a) fr wl=(ev C a fr wl).bind λx=>(Nc op x.1).map λr=>(r,x.2):=rfl
theorem Pf{es:IL}:ev C (.ig es) fr wl=sQ C es fr wl:=rfl
theorem z1{a b:IE}:ev C (.cmp op a b) fr wl=(ev C a fr wl).bind λx=>(ev C b fr x.2).bind λy=>(mR op x.1 y.1).map λr=>(.fv (.bool r),y.2):=rfl
theorem BU{a b c:IE}:ev C (.chain o1 o2 a b c) fr wl=(ev C a fr wl).bind λx=>(ev C b fr x.2).bind λy=>(mR o1 x.1 y.1).bind λr=>
 if r then(ev C c fr y.2).bind λz=>(mR o2 y.1 z.1).map λr=>(.fv (.bool r),z.2)else some (.fv (.bool false),y.2):=rfl
theorem D7{t a b:IE}:ev C (.ite t a b) fr wl=(eK C t fr wl).bind λx=>if x.1 then ev C a fr x.2 else ev C b fr x.2:=rfl
theorem Lf{a i:IE}:ev C (.idx a i) fr wl=(ev C a fr wl).bind λx=>(ev C i fr x.2).bind λy=>(jt x.1 y.1 y.2).map λr=>(r,y.2):=rfl
theorem Lb{a lo hi:IE}:ev C (.xw a lo hi) fr wl=(ev C a fr wl).bind λx=>(ev C lo fr x.2).bind λy=>(ev C hi fr y.2).bind λz=>(AU x.1 y.1 z.1).map λr=>(r,z.2):=rfl
theorem Ld{a:IE}:ev C (.rev a) fr wl=(ev C a fr wl).bind λx=>(JH x.1).map λr=>(r,x.2):=rfl
theorem FR{a:IE}:ev C (.attr a k) fr wl=(ev C a fr wl).bind λx=>(mr x.1 k).map λr=>(r,x.2):=rfl
theorem K_{es:IL}:ev C (.tup es) fr wl=(ou C es fr wl).bind λx=>(xR x.1).map λds=>(.fv (.tup ds),x.2):=rfl
theorem Le{own:Bool}{es:IL}:ev C (.lst own es) fr wl=(ou C es fr wl).bind λx=>(xR x.1).map λds=>(if own then .own (.ob (.list ds))else .fv (.list ds),x.2):=rfl
theorem Pe{es:IL}:ev C (.GO es) fr wl=(ou C es fr wl).bind λx=>(xR x.1).bind λds=>(eZ ds).bind λis=>(J7 is).map λr=>(r,x.2):=rfl
theorem yJ{a b:IE}:ev C (.vH a b) fr wl=(ev C a fr wl).bind λx=>(ev C b fr x.2).bind λy=>(jd x.1).bind λp=>(jd y.1).bind λq=>(Dr y.2).map λ_=>(.fv .well,some [p,q]):=rfl
theorem FQ{f:IE}{es:IL}:ev C (.call f es) fr wl=(ev C f fr wl).bind λx=>(ou C es fr x.2).bind λy=>(jd x.1).bind λd=>(C d y.1 y.2).map λr=>(.fv r.1,r.2):=rfl
theorem Lj{b:BI}{own:Bool}{es:IL}:ev C (.bj b own es) fr wl=(ou C es fr wl).bind λx=>(jw b own x.1).map λr=>(r,x.2):=rfl
theorem Lh{o:IE}{es:IL}:ev C (.eg .count o es) fr wl=(ev C o fr wl).bind λx=>(ou C es fr x.2).bind λy=>(Px x.1 y.1).map λr=>(r,y.2):=rfl
theorem FP{o:IE}{es:IL}:ev C (.eg (.user k) o es) fr wl=(ev C o fr wl).bind λx=>(ou C es fr x.2).bind λy=>(F8 x.1).bind λc=>(oU c k).bind λa=>(C (.obj a) (x.1::y.1) y.2).map λr=>(.fv r.1,r.2):=rfl
theorem zZ{own:Bool}{it:IE}{ifs:IL}{rest:IG}:ev C (.comp own m aX it f6 ifs rest) fr wl=(ev C it fr wl).bind λx=>(items x.1).bind λvs=>(fW fr aX).bind λcs=>
 (ki (λ(a:List Slot×List FV×WL) v=>(c7 a.1 f6 v).bind λf9=>(fI C ifs f9 a.2.2).bind λt=>
   if t.1 then HQ C rest f9 a.2.1 t.2 else some (f9,a.2.1,t.2)) vs (bD m .unset++cs,[],x.2)).bind λr=>
   if cc r.2.1.length then some (if own then .own (.ob (.list r.2.1))else .fv (.list r.2.1),r.2.2)else ab:=rfl
theorem HP{f6:Nat}{it:IE}:ev C (.sU m aX it f6) fr wl=(ev C it fr wl).bind λx=>(items x.1).bind λvs=>(fW fr aX).bind λ_=>
 if f6<m then some (.own (.gr (vs.map λ_=>[])),x.2)else ab:=rfl
theorem Lg{own:Bool}{f6:Nat}{it v:IE}:ev C (.rO own m aX it f6 v) fr wl=(ev C it fr wl).bind λx=>(items x.1).bind λvs=>(fW fr aX).bind λcs=>
 (ki (λ(a:List Slot×List (Int×FV)×WL) k=>Pm f6 a (λf9=>ev C v f9 a.2.2) k) vs (bD m .unset++cs,[],x.2)).bind λr=>
   if cc r.2.1.length then some (if own then .own (.ob (.dict r.2.1))else .fv (.dict r.2.1),r.2.2)else ab:=rfl
theorem TH:ev C (.lam k aX) fr wl=(qG fr aX).map λcs=>(.fv (.mB k cs),wl):=rfl
theorem Ac{r:Option (Bool×WL)}:Q4 (ofT r)=r:=by induction r using aA<;>rfl
theorem dg{e:IE}(h:lP C e true fr wl=ku true (lP C e false fr wl)):eK C e fr wl=(ev C e fr wl).bind λx=>(iT x.1).map λb=>(b,x.2):=by
 delta eK ev;refine eW h ?_;induction lP C e false fr wl using aA with
 |none=>rfl
 |some x=>
  show Q4 ((iT x.1).map _)=(iT x.1).map _;induction iT x.1 using aA<;>rfl
theorem FW{a:IE}:eK C (.un .Not a) fr wl=(eK C a fr wl).map λx=>(!x.1,x.2):=Ac
theorem BV{es:IL}:eK C (.ig es) fr wl=fI C es fr wl:=Ac
theorem FU{es:IL}:eK C (.uG es) fr wl=qr C es fr wl:=Ac
theorem Pg{t a b:IE}:eK C (.ite t a b) fr wl=(eK C t fr wl).bind λx=>if x.1 then eK C a fr x.2 else eK C b fr x.2:=by
 show Q4 ((eK C t fr wl).bind _)=_;induction eK C t fr wl using aA with
 |none=>rfl
 |some x=>obtain⟨b,w⟩:=x;induction b using ax<;>rfl
theorem yU{α β γ:Type}{o:Option α}{f:α->Option β}{g:β->Option γ}{k:α->Option γ}(h:∀a,(f a).bind g=k a):(o.bind f).bind g=o.bind k:=o.casesOn rfl h
theorem VZ{α β γ:Type}{o:Option α}{f:α->β}{g:β->Option γ}{k:α->γ}(h:∀a,g (f a)=some (k a)):(o.map f).bind g=o.map k:=o.casesOn rfl h
theorem Ph{a b:IE}:eK C (.cmp op a b) fr wl=(ev C a fr wl).bind λx=>(ev C b fr x.2).bind λy=>(mR op x.1 y.1).map λr=>(r,y.2):=
 (dg rfl).trans ((congrArg (Uh · _) z1).trans (yU λ_=>yU λ_=>VZ λ_=>rfl))
theorem yK{a b c:IE}:eK C (.chain o1 o2 a b c) fr wl=(ev C a fr wl).bind λx=>(ev C b fr x.2).bind λy=>(mR o1 x.1 y.1).bind λr=>
 if r then(ev C c fr y.2).bind λz=>(mR o2 y.1 z.1).map λr=>(r,z.2)else some (false,y.2):=
 (dg rfl).trans ((congrArg (Uh · _) BU).trans (yU λ_=>yU λ_=>yU λr=>r.casesOn rfl (yU λ_=>VZ λ_=>rfl)))
theorem FX:ou C .nil fr wl=some ([],wl):=rfl
theorem ky{e:IE}{r:IL}:ou C (.cons e r) fr wl=(ev C e fr wl).bind λx=>(ou C r fr x.2).map λy=>(x.1::y.1,y.2):=rfl
theorem yL:fI C .nil fr wl=some (true,wl):=rfl
theorem nK{e:IE}{r:IL}:fI C (.cons e r) fr wl=(eK C e fr wl).bind λx=>if x.1 then fI C r fr x.2 else some (false,x.2):=rfl
theorem D9{e:IE}{r:IL}:qr C (.cons e r) fr wl=(eK C e fr wl).bind λx=>if x.1 then some (true,x.2)else qr C r fr x.2:=rfl
theorem tS{e e':IE}{r:IL}:sQ C (.cons e (.cons e' r)) fr wl=(ev C e fr wl).bind λx=>(iT x.1).bind λb=>if b then sQ C (.cons e' r) fr x.2 else some x:=rfl
theorem D8{e e':IE}{r:IL}:BW C (.cons e (.cons e' r)) fr wl=(ev C e fr wl).bind λx=>(iT x.1).bind λb=>if b then some x else BW C (.cons e' r) fr x.2:=rfl
theorem wz{e:IE}{acc:List FV}:HQ C (.emit e) fr acc wl=(ev C e fr wl).bind λx=>(jd x.1).map λd=>(fr,acc++[d],x.2):=rfl
theorem z2{it:IE}{ifs:IL}{rest:IG}{acc:List FV}:HQ C (.gen it f6 ifs rest) fr acc wl=(ev C it fr wl).bind λx=>(items x.1).bind λvs=>
 ki (λ(a:List Slot×List FV×WL) v=>(c7 a.1 f6 v).bind λf9=>(fI C ifs f9 a.2.2).bind λt=>
  if t.1 then HQ C rest f9 a.2.1 t.2 else some (f9,a.2.1,t.2)) vs (fr,acc,x.2):=rfl
end
noncomputable def Fl.zI:Fl->Bool
 |.next=>true
 |.cont=>false
 |.ret _=>false
noncomputable def Fl.brk:Fl->Option FV
 |.next=>ab
 |.cont=>ab
 |.ret d=>some d
noncomputable def y9{σ:Type}(t:σ->Option (Bool×σ))(b:σ->Option (Fl×σ)):Nat->σ->Option (Fl×σ)
 |0,_=>ab
 |n+1,a=>(t a).bind λx=>if x.1 then(b x.2).bind λy=>y.1.brk.elim (y9 t b n y.2) λd=>some (.ret d,y.2)
  else some (.next,x.2)
noncomputable def forL{σ:Type}(b:σ->FV->Option (Fl×σ)):List FV->σ->Option (Fl×σ)
 |[],a=>some (.next,a)
 |x::r,a=>(b a x).bind λy=>y.1.brk.elim (forL b r y.2) λd=>some (.ret d,y.2)
noncomputable def K9{σ:Type}(b:σ->Int->FV->Option (Fl×σ)):List FV->Int->σ->Option (Fl×σ)
 |[],_,a=>some (.next,a)
 |x::r,i,a=>(b a i x).bind λy=>y.1.brk.elim (K9 b r (i+1) y.2) λd=>some (.ret d,y.2)
def kD(C:my)(p:Path)(fr:List Slot)(wl:WL):Option ((OB×(OB->List Slot))×WL):=
 match p with
 |.v i=>((fr[i]?).bind Slot.own?).bind λt=>t.o?.map λo=>((o,λo'=>fr.set i (.own (.ob o'))),wl)
 |.at i e=>((fr[i]?).bind Slot.own?).bind λt=>t.V2.bind λiH=>(ev C e fr wl).bind λx=>(pN x.1).bind λk=>if 0<=k/\k<2^62 then
   (iH[k.toNat]?).map λxs=>((.list xs,λo'=>(o'.l?).elim fr λys=>fr.set i (.own (.gr (iH.set k.toNat ys)))),x.2)else ab
 |.fld i k=>((fr[i]?).bind Slot.own?).bind λt=>t.HM.bind λcf=>((cf.2.lookup k).bind OF.o?).map λo=>((o,λo'=>fr.set i (.own (.inst cf.1 (putField cf.2 k (.ob o'))))),wl)
abbrev St:=List Slot×WL
def Y'(fr:List Slot)(j:Nat)(d:FV)(k:Int)(wl:WL)(s:Slot):Option (Fl×St):=
 s.val?.elim (s.own?.bind λt=>t.o?.bind λo=>o.l?.elim (o.d?.bind λes=>if cc es.length then some (.next,fr.set j (.own (.ob (.dict (dE es k d)))),wl)else ab)
  λxs=>if 0<=k/\k.toNat<xs.length/\k<2^62 then some (.next,fr.set j (.own (.ob (.list (xs.set k.toNat d)))),wl)else ab)
  λw=>if w.ctorIdx=12 then wl.bind λxs=>if 0<=k/\k.toNat<xs.length/\k<2^62 then some (.next,fr,some (xs.set k.toNat d))else ab else ab
noncomputable def EV.of?:EV->Option OF
 |.fv d=>some (.fv d)
 |.bor _=>ab
 |.own t=>t.o?.map .ob
mutual
def ex(C:my)(N:Nat):IS->St->Option (Fl×St)
 |.assign i e,a=>(ev C e a.1 a.2).bind λx=>x.1.Df.bind λsl=>(setSlot a.1 i sl).map λfr=>(.next,fr,x.2)
 |.unpack is e,a=>(ev C e a.1 a.2).bind λx=>x.1.t?.bind λds=>(ez a.1 is ds).map λfr=>(.next,fr,x.2)
 |.jm is es,a=>(ou C es a.1 a.2).bind λx=>(jR a.1 is x.1).map λfr=>(.next,fr,x.2)
 |.fV p i e,a=>(ev C e a.1 a.2).bind λx=>(jd x.1).bind λd=>match p with
   |.v j=>(a.1[j]?).bind λs=>(ev C i a.1 x.2).bind λy=>(pN y.1).bind λk=>Y' a.1 j d k y.2 s
   |.fld j f=>(kD C (.fld j f) a.1 x.2).bind λo=>(ev C i a.1 o.2).bind λy=>(pN y.1).bind λk=>o.1.1.d?.bind λes=>if cc es.length then some (.next,o.1.2 (.dict (dE es k d)),y.2)else ab
   |.at _ _=>ab
 |.setAttr i k e,a=>(ev C e a.1 a.2).bind λx=>((a.1[i]?).bind Slot.own?).bind λt=>t.HM.bind λcf=>if cf.2.length<900 then x.1.of?.map λf=>(.next,a.1.set i (.own (.inst cf.1 (putField cf.2 k f))),x.2)else ab
 |.append p e,a=>(kD C p a.1 a.2).bind λo=>(ev C e a.1 o.2).bind λx=>(jd x.1).bind λd=>o.1.1.l?.bind λxs=>if cc xs.length then some (.next,o.1.2 (.list (xs++[d])),x.2)else ab
 |.extend p e,a=>(kD C p a.1 a.2).bind λo=>(ev C e a.1 o.2).bind λx=>((jd x.1).bind FV.l?).bind λds=>o.1.1.l?.bind λxs=>if cc (xs.length+ds.length)then some (.next,o.1.2 (.list (xs++ds)),x.2)else ab
 |.add p e,a=>(kD C p a.1 a.2).bind λo=>(ev C e a.1 o.2).bind λx=>(pN x.1).bind λk=>o.1.1.Nh.bind λxs=>if xs.length<4/\0<=k/\k<64 then some (.next,o.1.2 (.set (jx xs k)),x.2)else ab
 |.pop is single i,a=>(((a.1[i]?).bind Slot.own?).bind λt=>t.o?.bind OB.l?).bind λxs=>(xs.getLast?).bind λd=>if cc xs.length then
   (if single then(match is with|[j]=>setSlot (a.1.set i (.own (.ob (.list xs.dropLast)))) j (.val d)|_=>ab)else d.t?.bind λds=>ez (a.1.set i (.own (.ob (.list xs.dropLast)))) is ds).map λcH=>(.next,cH,a.2)else ab
 |.run e,a=>(ev C e a.1 a.2).bind λx=>(jd x.1).map λ_=>(.next,a.1,x.2)
 |.ite t b1 b2,a=>(eK C t a.1 a.2).bind λx=>if x.1 then hX C N b1 (a.1,x.2)else hX C N b2 (a.1,x.2)
 |.while t b,a=>y9 (λa=>(eK C t a.1 a.2).map λx=>(x.1,a.1,x.2)) (λa=>hX C N b a) N a
 |.for is it b,a=>(ev C it a.1 a.2).bind λx=>(items x.1).bind λvs=>
   forL (λa v=>(c7 a.1 is v).bind λfr=>hX C N b (fr,a.2)) vs (a.1,x.2)
 |.kS i j it b,a=>(ev C it a.1 a.2).bind λx=>(((jd x.1).bind FV.l?).bind fits).bind λvs=>
   K9 (λa n v=>(ez a.1 [i,j] [.int n,v]).bind λfr=>hX C N b (fr,a.2)) vs 0 (a.1,x.2)
 |.ret e,a=>(ev C e a.1 a.2).bind λx=>(jd x.1).map λd=>(.ret d,a.1,x.2)
 |.cont,a=>some (.cont,a)
 |.fail,_=>ab
 |.fz i,a=>((a.1[i]?).bind Slot.own?).map λt=>(.next,a.1.set i (.val t.fz),a.2)
 |.lock aX,a=>some (.next,pK a.1 aX,a.2)
 |.defn i k aX,a=>(qG a.1 aX).bind λcs=>(setSlot a.1 i (.val (.mB k cs))).map λfr=>(.next,fr,a.2)
def hX(C:my)(N:Nat):IB->St->Option (Fl×St)
 |.nil,a=>some (.next,a)
 |.cons s r,a=>(ex C N s a).bind λx=>if x.1.zI then hX C N r x.2 else some x
end
inductive Body where
 |stmts (b:IB)|expr (e:IE)
structure bw where
 params:Nat
 dflt:List FV
 names:List bB
 body:Body
noncomputable def bw.n(f:bw):Nat:=f.names.length
def lD(f:bw)(aX:List FV)(args:List EV):Option (List Slot):=
 if args.length<=f.params/\f.params<=args.length+f.dflt.length/\f.params+aX.length<=f.n then
  some (args.map EV.arg++(f.dflt.drop (f.dflt.length-(f.params-args.length))).map Slot.val++bD (f.n-f.params-aX.length) Slot.unset++aX.map Slot.ro)
 else ab
noncomputable def Fl.out:Fl->Option FV
 |.next=>some .none
 |.cont=>ab
 |.ret d=>some d
def C4(C:my)(N:Nat)(f:bw)(aX:List FV)(args:List EV)(wl:WL):Option (FV×WL):=
 (lD f aX args).bind λfr=>match f.body with
 |.stmts b=>(hX C N b (fr,wl)).bind λx=>x.1.out.map λd=>(d,x.2.2)
 |.expr e=>(ev C e fr wl).bind λx=>(jd x.1).map λd=>(d,x.2)
def made(x:Fl×St):Option (FV×WL):=if x.1.zI then((x.2.1[0]?).bind Slot.own?).bind λt=>t.HM.map λcf=>((OT.inst cf.1 cf.2).fz,x.2.2)else ab
def runC(C:my)(N:Nat)(c:Nat)(f:bw)(args:List EV)(wl:WL):Option (FV×WL):=
 (lD f [] (.own (.inst c [])::args)).bind λfr=>match f.body with
 |.stmts b=>(hX C N b (fr,wl)).bind made
 |.expr _=>ab
set_option genCtorIdx true
variable{d:FV}{f:bw}{xs acc ds ys:List FV}{fr cH gU:List Slot}{wl bQ:WL}{t:OT}{q:Path}{iH:List (List FV)}{fs:List (Nat×OF)}{sl:Slot}{bp:my}{ir ie:IE}{il:IL}{f1 fl:Fl}{o':OB}
noncomputable def zT:bw:=⟨1,[],[aa "worth",aa "count",aa "step"],.stmts (.cons (.assign 1 (.lit (.int 0))) (.cons (.while (.cmp .Gt (.var 0) (.lit (.int 0))) (.cons (.assign 2 (.ite (.cmp .Gt (.var 0) (.lit (.int 255))) (.lit (.int 8)) (.lit (.int 1)))) (.cons (.assign 0 (.bin .RShift (.var 0) (.var 2))) (.cons (.assign 1 (.bin .Add (.var 1) (.var 2))) .nil)))) (.cons (.ret (.var 1)) .nil)))⟩
noncomputable def hC:bw:=⟨5,[],[aa "self",aa "number",aa "name",aa "kinds",aa "gives"],.stmts (.cons (.setAttr 0 11 (.var 1)) (.cons (.setAttr 0 12 (.var 2)) (.cons (.setAttr 0 13 (.var 3)) (.cons (.setAttr 0 14 (.var 4)) .nil))))⟩
noncomputable def v9:bw:=⟨0,[],[],.stmts (.cons (.ret (.lst false (.cons (.tup (.cons (.bc (.int 1)) (.cons (.lit (.str (aa "map_lookup_elem"))) (.cons (.tup (.cons (.lit (.str (aa "map"))) (.cons (.lit (.str (aa "key"))) .nil))) (.cons (.lit (.str (aa "value_or_null"))) .nil))))) (.cons (.tup (.cons (.bc (.int 2)) (.cons (.lit (.str (aa "map_update_elem"))) (.cons (.tup (.cons (.lit (.str (aa "map"))) (.cons (.lit (.str (aa "key"))) (.cons (.lit (.str (aa "value"))) (.cons (.lit (.str (aa "any"))) .nil))))) (.cons (.lit (.str (aa "number"))) .nil))))) (.cons (.tup (.cons (.bc (.int 3)) (.cons (.lit (.str (aa "map_delete_elem"))) (.cons (.tup (.cons (.lit (.str (aa "map"))) (.cons (.lit (.str (aa "key"))) .nil))) (.cons (.lit (.str (aa "number"))) .nil))))) (.cons (.tup (.cons (.bc (.int 5)) (.cons (.lit (.str (aa "ktime_get_ns"))) (.cons (.tup .nil) (.cons (.lit (.str (aa "number"))) .nil))))) (.cons (.tup (.cons (.bc (.int 6)) (.cons (.lit (.str (aa "trace_printk"))) (.cons (.tup (.cons (.lit (.str (aa "mem"))) (.cons (.lit (.str (aa "size"))) .nil))) (.cons (.lit (.str (aa "number"))) .nil))))) (.cons (.tup (.cons (.bc (.int 7)) (.cons (.lit (.str (aa "get_prandom_u32"))) (.cons (.tup .nil) (.cons (.lit (.str (aa "number"))) .nil))))) (.cons (.tup (.cons (.bc (.int 8)) (.cons (.lit (.str (aa "get_smp_processor_id"))) (.cons (.tup .nil) (.cons (.lit (.str (aa "number"))) .nil))))) (.cons (.tup (.cons (.bc (.int 87)) (.cons (.lit (.str (aa "map_push_elem"))) (.cons (.tup (.cons (.lit (.str (aa "map"))) (.cons (.lit (.str (aa "value"))) (.cons (.lit (.str (aa "any"))) .nil)))) (.cons (.lit (.str (aa "number"))) .nil))))) (.cons (.tup (.cons (.bc (.int 88)) (.cons (.lit (.str (aa "map_pop_elem"))) (.cons (.tup (.cons (.lit (.str (aa "map"))) (.cons (.lit (.str (aa "out_value"))) .nil))) (.cons (.lit (.str (aa "number"))) .nil))))) (.cons (.tup (.cons (.bc (.int 89)) (.cons (.lit (.str (aa "map_peek_elem"))) (.cons (.tup (.cons (.lit (.str (aa "map"))) (.cons (.lit (.str (aa "out_value"))) .nil))) (.cons (.lit (.str (aa "number"))) .nil))))) (.cons (.tup (.cons (.bc (.int 130)) (.cons (.lit (.str (aa "ringbuf_output"))) (.cons (.tup (.cons (.lit (.str (aa "map"))) (.cons (.lit (.str (aa "mem"))) (.cons (.lit (.str (aa "size"))) (.cons (.lit (.str (aa "any"))) .nil))))) (.cons (.lit (.str (aa "number"))) .nil))))) (.cons (.tup (.cons (.bc (.int 131)) (.cons (.lit (.str (aa "ringbuf_reserve"))) (.cons (.tup (.cons (.lit (.str (aa "map"))) (.cons (.lit (.str (aa "constant"))) (.cons (.lit (.str (aa "any"))) .nil)))) (.cons (.lit (.str (aa "room_or_null"))) .nil))))) (.cons (.tup (.cons (.bc (.int 132)) (.cons (.lit (.str (aa "ringbuf_submit"))) (.cons (.tup (.cons (.lit (.str (aa "room"))) (.cons (.lit (.str (aa "any"))) .nil))) (.cons (.lit (.str (aa "nothing"))) .nil))))) (.cons (.tup (.cons (.bc (.int 133)) (.cons (.lit (.str (aa "ringbuf_discard"))) (.cons (.tup (.cons (.lit (.str (aa "room"))) (.cons (.lit (.str (aa "any"))) .nil))) (.cons (.lit (.str (aa "nothing"))) .nil))))) .nil)))))))))))))))) .nil)⟩
noncomputable def zQ:bw:=⟨1,[],[aa "number",aa "row"],.stmts (.cons (.for [1] (.call (.bc (.obj 108)) .nil) (.cons (.ite (.cmp .Eq (.idx (.var 1) (.lit (.int 0))) (.var 0)) (.cons (.ret (.call (.bc (.obj 97)) (.cons (.idx (.var 1) (.lit (.int 0))) (.cons (.idx (.var 1) (.lit (.int 1))) (.cons (.idx (.var 1) (.lit (.int 2))) (.cons (.idx (.var 1) (.lit (.int 3))) .nil)))))) .nil) .nil) .nil)) (.cons (.ret (.lit .none)) .nil))⟩
noncomputable def iM:bw:=⟨7,[(.int 0)],[aa "self",aa "code",aa "dst",aa "src",aa "off",aa "imm",aa "more"],.stmts (.cons (.setAttr 0 5 (.var 1)) (.cons (.setAttr 0 6 (.var 2)) (.cons (.setAttr 0 7 (.var 3)) (.cons (.setAttr 0 8 (.var 4)) (.cons (.setAttr 0 9 (.var 5)) (.cons (.setAttr 0 10 (.var 6)) .nil))))))⟩
noncomputable def BD:bw:=⟨1,[],[aa "order",aa "at"],.stmts (.cons (.assign 1 (.bin .Mult (.lit (.int 5)) (.bin .BitAnd (.attr (.var 0) 5) (.lit (.int 7))))) (.cons (.ret (.eg .strip (.xw (.bc (.str (aa "ld   ldx  st   stx  alu  jmp  jmp32alu64"))) (.var 1) (.bin .Add (.var 1) (.lit (.int 5)))) .nil)) .nil))⟩
noncomputable def HE:bw:=⟨1,[],[aa "order",aa "kind"],.stmts (.cons (.assign 1 (.bin .BitAnd (.attr (.var 0) 5) (.lit (.int 7)))) (.cons (.ret (.uG (.cons (.cmp .Eq (.var 1) (.bc (.int 4))) (.cons (.cmp .Eq (.var 1) (.bc (.int 7))) .nil)))) .nil))⟩
noncomputable def xM:bw:=⟨1,[],[aa "order",aa "kind"],.stmts (.cons (.assign 1 (.bin .BitAnd (.attr (.var 0) 5) (.lit (.int 7)))) (.cons (.ret (.uG (.cons (.cmp .Eq (.var 1) (.bc (.int 5))) (.cons (.cmp .Eq (.var 1) (.bc (.int 6))) .nil)))) .nil))⟩
noncomputable def zK:bw:=⟨1,[],[aa "order",aa "at"],.stmts (.cons (.assign 1 (.bin .RShift (.attr (.var 0) 5) (.lit (.int 4)))) (.cons (.ite (.cmp .GtE (.var 1) (.bc (.int 14))) (.cons (.ret (.lit (.str (aa "")))) .nil) .nil) (.cons (.ite (.call (.bc (.obj 158)) (.cons (.var 0) .nil)) (.cons (.ret (.eg .strip (.xw (.bc (.str (aa "add sub mul div or  and lsh rsh neg mod xor mov arshend "))) (.bin .Mult (.lit (.int 4)) (.var 1)) (.bin .Add (.bin .Mult (.lit (.int 4)) (.var 1)) (.lit (.int 4)))) .nil)) .nil) .nil) (.cons (.ite (.call (.bc (.obj 165)) (.cons (.var 0) .nil)) (.cons (.ret (.eg .strip (.xw (.bc (.str (aa "ja  eq  gt  ge  set ne  sgt sge callexitlt  le  slt sle "))) (.bin .Mult (.lit (.int 4)) (.var 1)) (.bin .Add (.bin .Mult (.lit (.int 4)) (.var 1)) (.lit (.int 4)))) .nil)) .nil) .nil) (.cons (.ret (.lit (.str (aa "")))) .nil)))))⟩
noncomputable def vZ:bw:=⟨1,[],[aa "order"],.stmts (.cons (.ret (.cmp .NotEq (.bin .BitAnd (.attr (.var 0) 5) (.bc (.int 8))) (.lit (.int 0)))) .nil)⟩
noncomputable def Bx:bw:=⟨1,[],[aa "order",aa "bits"],.stmts (.cons (.assign 1 (.bin .BitAnd (.attr (.var 0) 5) (.lit (.int 24)))) (.cons (.ite (.cmp .Eq (.var 1) (.lit (.int 0))) (.cons (.ret (.lit (.int 4))) .nil) .nil) (.cons (.ite (.cmp .Eq (.var 1) (.lit (.int 8))) (.cons (.ret (.lit (.int 2))) .nil) .nil) (.cons (.ret (.ite (.cmp .Eq (.var 1) (.lit (.int 16))) (.lit (.int 1)) (.lit (.int 8)))) .nil))))⟩
noncomputable def DQ:bw:=⟨1,[],[aa "order"],.stmts (.cons (.ret (.cmp .Eq (.attr (.var 0) 5) (.bc (.int 24)))) .nil)⟩
noncomputable def DS:bw:=⟨1,[],[aa "order"],.stmts (.cons (.ret (.ig (.cons (.call (.bc (.obj 165)) (.cons (.var 0) .nil)) (.cons (.cmp .Eq (.bin .BitAnd (.attr (.var 0) 5) (.lit (.int 240))) (.lit (.int 0))) .nil)))) .nil)⟩
noncomputable def DU:bw:=⟨1,[],[aa "order"],.stmts (.cons (.ret (.cmp .Eq (.attr (.var 0) 5) (.bc (.int 133)))) .nil)⟩
noncomputable def sG:bw:=⟨1,[],[aa "order"],.stmts (.cons (.ret (.ig (.cons (.cmp .Eq (.attr (.var 0) 5) (.bc (.int 133))) (.cons (.cmp .Eq (.attr (.var 0) 7) (.lit (.int 1))) .nil)))) .nil)⟩
noncomputable def DT:bw:=⟨1,[],[aa "order"],.stmts (.cons (.ret (.cmp .Eq (.attr (.var 0) 5) (.bc (.int 149)))) .nil)⟩
noncomputable def zO:bw:=⟨1,[],[aa "order"],.stmts (.cons (.ret (.ig (.cons (.call (.bc (.obj 165)) (.cons (.var 0) .nil)) (.cons (.un .Not (.call (.bc (.obj 200)) (.cons (.var 0) .nil))) (.cons (.un .Not (.call (.bc (.obj 207)) (.cons (.var 0) .nil))) (.cons (.un .Not (.call (.bc (.obj 221)) (.cons (.var 0) .nil))) .nil)))))) .nil)⟩
noncomputable def DR:bw:=⟨1,[],[aa "order"],.stmts (.cons (.ret (.cmp .Eq (.bin .BitAnd (.attr (.var 0) 5) (.lit (.int 7))) (.bc (.int 1)))) .nil)⟩
noncomputable def Bz:bw:=⟨1,[],[aa "order",aa "kind"],.stmts (.cons (.assign 1 (.bin .BitAnd (.attr (.var 0) 5) (.lit (.int 7)))) (.cons (.ret (.ig (.cons (.uG (.cons (.cmp .Eq (.var 1) (.bc (.int 2))) (.cons (.cmp .Eq (.var 1) (.bc (.int 3))) .nil))) (.cons (.cmp .Eq (.bin .BitAnd (.attr (.var 0) 5) (.lit (.int 224))) (.bc (.int 96))) .nil)))) .nil))⟩
noncomputable def zP:bw:=⟨1,[],[aa "order"],.stmts (.cons (.ret (.ig (.cons (.cmp .Eq (.bin .BitAnd (.attr (.var 0) 5) (.lit (.int 7))) (.bc (.int 3))) (.cons (.cmp .Eq (.bin .BitAnd (.attr (.var 0) 5) (.lit (.int 224))) (.bc (.int 192))) .nil)))) .nil)⟩
noncomputable def BC:bw:=⟨1,[],[aa "order"],.stmts (.cons (.ite (.uG (.cons (.call (.bc (.obj 214)) (.cons (.var 0) .nil)) (.cons (.cmp .Eq (.attr (.var 0) 5) (.bc (.int 6))) .nil))) (.cons (.ret (.attr (.var 0) 9)) .nil) .nil) (.cons (.ret (.attr (.var 0) 8)) .nil))⟩
noncomputable def wb:bw:=⟨1,[],[aa "order",aa "plain",aa "name"],.stmts (.cons (.ite (.cmp .Eq (.attr (.var 0) 9) (.bc (.int 225))) (.cons (.ret (.lit (.str (aa "xchg")))) .nil) .nil) (.cons (.ite (.cmp .Eq (.attr (.var 0) 9) (.bc (.int 241))) (.cons (.ret (.lit (.str (aa "cmpxchg")))) .nil) .nil) (.cons (.assign 1 (.bin .BitAnd (.attr (.var 0) 9) (.un .Invert (.bc (.int 1))))) (.cons (.assign 2 (.lit (.str (aa "")))) (.cons (.ite (.cmp .Eq (.var 1) (.lit (.int 0))) (.cons (.assign 2 (.lit (.str (aa "add")))) .nil) (.cons (.ite (.cmp .Eq (.var 1) (.lit (.int 64))) (.cons (.assign 2 (.lit (.str (aa "or")))) .nil) (.cons (.ite (.cmp .Eq (.var 1) (.lit (.int 80))) (.cons (.assign 2 (.lit (.str (aa "and")))) .nil) (.cons (.ite (.cmp .Eq (.var 1) (.lit (.int 160))) (.cons (.assign 2 (.lit (.str (aa "xor")))) .nil) .nil) .nil)) .nil)) .nil)) (.cons (.ite (.cmp .Eq (.var 2) (.lit (.str (aa "")))) (.cons (.ret (.lit (.str (aa "")))) .nil) .nil) (.cons (.ret (.ite (.cmp .NotEq (.bin .BitAnd (.attr (.var 0) 9) (.bc (.int 1))) (.lit (.int 0))) (.bin .Add (.lit (.str (aa "fetch_"))) (.var 2)) (.var 2))) .nil)))))))⟩
noncomputable def zR:bw:=⟨1,[],[aa "registers"],.stmts (.cons (.ret (.comp false 1 [0] (.bj .range false (.cons (.lit (.int 16)) .nil)) [0] (.cons (.cmp .In (.var 0) (.var 1)) .nil) (.emit (.var 0)))) .nil)⟩
noncomputable def BE:bw:=⟨1,[],[aa "order",aa "name",aa "read"],.stmts (.cons (.assign 1 (.call (.bc (.obj 172)) (.cons (.var 0) .nil))) (.cons (.ite (.uG (.cons (.cmp .Eq (.var 1) (.lit (.str (aa "neg")))) (.cons (.cmp .Eq (.var 1) (.lit (.str (aa "end")))) .nil))) (.cons (.ret (.tup (.cons (.lst false (.cons (.attr (.var 0) 6) .nil)) (.cons (.lst false (.cons (.attr (.var 0) 6) .nil)) .nil)))) .nil) .nil) (.cons (.assign 2 (.ite (.cmp .Eq (.var 1) (.lit (.str (aa "mov")))) (.lst true .nil) (.lst true (.cons (.attr (.var 0) 6) .nil)))) (.cons (.ite (.call (.bc (.obj 179)) (.cons (.var 0) .nil)) (.cons (.append (.v 2) (.attr (.var 0) 7)) .nil) .nil) (.cons (.ret (.tup (.cons (.call (.bc (.obj 268)) (.cons (.var 2) .nil)) (.cons (.lst false (.cons (.attr (.var 0) 6) .nil)) .nil)))) .nil)))))⟩
noncomputable def zN:bw:=⟨1,[],[aa "order"],.stmts (.cons (.ite (.call (.bc (.obj 207)) (.cons (.var 0) .nil)) (.cons (.ret (.tup (.cons (.lst false (.cons (.lit (.int 1)) (.cons (.lit (.int 2)) (.cons (.lit (.int 3)) (.cons (.lit (.int 4)) (.cons (.lit (.int 5)) .nil)))))) (.cons (.lst false (.cons (.lit (.int 0)) (.cons (.lit (.int 1)) (.cons (.lit (.int 2)) (.cons (.lit (.int 3)) (.cons (.lit (.int 4)) (.cons (.lit (.int 5)) .nil))))))) .nil)))) .nil) .nil) (.cons (.ite (.call (.bc (.obj 221)) (.cons (.var 0) .nil)) (.cons (.ret (.tup (.cons (.lst false (.cons (.lit (.int 0)) .nil)) (.cons (.lst false .nil) .nil)))) .nil) .nil) (.cons (.ite (.call (.bc (.obj 200)) (.cons (.var 0) .nil)) (.cons (.ret (.tup (.cons (.lst false .nil) (.cons (.lst false .nil) .nil)))) .nil) .nil) (.cons (.ite (.call (.bc (.obj 179)) (.cons (.var 0) .nil)) (.cons (.ret (.tup (.cons (.call (.bc (.obj 268)) (.cons (.lst false (.cons (.attr (.var 0) 6) (.cons (.attr (.var 0) 7) .nil))) .nil)) (.cons (.lst false .nil) .nil)))) .nil) .nil) (.cons (.ret (.tup (.cons (.lst false (.cons (.attr (.var 0) 6) .nil)) (.cons (.lst false .nil) .nil)))) .nil)))))⟩
noncomputable def wa:bw:=⟨1,[],[aa "order",aa "name",aa "both"],.stmts (.cons (.jm [1,2] (.cons (.call (.bc (.obj 263)) (.cons (.var 0) .nil)) (.cons (.lst false (.cons (.attr (.var 0) 6) (.cons (.attr (.var 0) 7) .nil))) .nil))) (.cons (.ite (.cmp .Eq (.var 1) (.lit (.str (aa "cmpxchg")))) (.cons (.ret (.tup (.cons (.call (.bc (.obj 268)) (.cons (.bin .Add (.var 2) (.lst false (.cons (.lit (.int 0)) .nil))) .nil)) (.cons (.lst false (.cons (.lit (.int 0)) .nil)) .nil)))) .nil) .nil) (.cons (.ite (.uG (.cons (.cmp .Eq (.var 1) (.lit (.str (aa "xchg")))) (.cons (.cmp .Eq (.xw (.var 1) (.lit .none) (.lit (.int 5))) (.lit (.str (aa "fetch")))) .nil))) (.cons (.ret (.tup (.cons (.call (.bc (.obj 268)) (.cons (.var 2) .nil)) (.cons (.lst false (.cons (.attr (.var 0) 7) .nil)) .nil)))) .nil) .nil) (.cons (.ret (.tup (.cons (.call (.bc (.obj 268)) (.cons (.var 2) .nil)) (.cons (.lst false .nil) .nil)))) .nil))))⟩
noncomputable def OE:bw:=⟨1,[],[aa "order",aa "kind"],.stmts (.cons (.ite (.call (.bc (.obj 158)) (.cons (.var 0) .nil)) (.cons (.ret (.call (.bc (.obj 275)) (.cons (.var 0) .nil))) .nil) .nil) (.cons (.ite (.call (.bc (.obj 165)) (.cons (.var 0) .nil)) (.cons (.ret (.call (.bc (.obj 282)) (.cons (.var 0) .nil))) .nil) .nil) (.cons (.assign 1 (.bin .BitAnd (.attr (.var 0) 5) (.lit (.int 7)))) (.cons (.ite (.cmp .Eq (.var 1) (.bc (.int 0))) (.cons (.ret (.tup (.cons (.lst false .nil) (.cons (.lst false (.cons (.attr (.var 0) 6) .nil)) .nil)))) .nil) .nil) (.cons (.ite (.cmp .Eq (.var 1) (.bc (.int 1))) (.cons (.ret (.tup (.cons (.lst false (.cons (.attr (.var 0) 7) .nil)) (.cons (.lst false (.cons (.attr (.var 0) 6) .nil)) .nil)))) .nil) .nil) (.cons (.ite (.cmp .Eq (.var 1) (.bc (.int 2))) (.cons (.ret (.tup (.cons (.lst false (.cons (.attr (.var 0) 6) .nil)) (.cons (.lst false .nil) .nil)))) .nil) .nil) (.cons (.ite (.call (.bc (.obj 249)) (.cons (.var 0) .nil)) (.cons (.ret (.call (.bc (.obj 289)) (.cons (.var 0) .nil))) .nil) .nil) (.cons (.ret (.tup (.cons (.call (.bc (.obj 268)) (.cons (.lst false (.cons (.attr (.var 0) 6) (.cons (.attr (.var 0) 7) .nil))) .nil)) (.cons (.lst false .nil) .nil)))) .nil))))))))⟩
noncomputable def DL:bw:=⟨2,[],[aa "names",aa "name",aa "at"],.stmts (.cons (.for [2] (.bj .range false (.cons (.bc (.int 14)) .nil)) (.cons (.ite (.cmp .Eq (.eg .strip (.xw (.var 0) (.bin .Mult (.lit (.int 4)) (.var 2)) (.bin .Add (.bin .Mult (.lit (.int 4)) (.var 2)) (.lit (.int 4)))) .nil) (.var 1)) (.cons (.ret (.var 2)) .nil) .nil) .nil)) (.cons .fail .nil))⟩
noncomputable def zS:bw:=⟨2,[],[aa "name",aa "size"],.stmts (.cons (.ret (.bin .Add (.bin .LShift (.call (.bc (.obj 303)) (.cons (.bc (.str (aa "add sub mul div or  and lsh rsh neg mod xor mov arshend "))) (.cons (.var 0) .nil))) (.lit (.int 4))) (.ite (.cmp .Eq (.var 1) (.lit (.int 64))) (.bc (.int 7)) (.bc (.int 4))))) .nil)⟩
noncomputable def v_:bw:=⟨2,[],[aa "name",aa "size"],.stmts (.cons (.ite (.uG (.cons (.cmp .Eq (.var 0) (.lit (.str (aa "ja")))) (.cons (.cmp .Eq (.var 0) (.lit (.str (aa "call")))) (.cons (.cmp .Eq (.var 0) (.lit (.str (aa "exit")))) .nil)))) (.cons .fail .nil) .nil) (.cons (.ret (.bin .Add (.bin .LShift (.call (.bc (.obj 303)) (.cons (.bc (.str (aa "ja  eq  gt  ge  set ne  sgt sge callexitlt  le  slt sle "))) (.cons (.var 0) .nil))) (.lit (.int 4))) (.ite (.cmp .Eq (.var 1) (.lit (.int 64))) (.bc (.int 5)) (.bc (.int 6))))) .nil))⟩
noncomputable def xF:bw:=⟨1,[],[aa "width"],.stmts (.cons (.ite (.cmp .Eq (.var 0) (.lit (.int 4))) (.cons (.ret (.lit (.int 0))) .nil) .nil) (.cons (.ite (.cmp .Eq (.var 0) (.lit (.int 2))) (.cons (.ret (.lit (.int 8))) .nil) .nil) (.cons (.ite (.cmp .Eq (.var 0) (.lit (.int 1))) (.cons (.ret (.lit (.int 16))) .nil) .nil) (.cons (.ite (.cmp .Eq (.var 0) (.lit (.int 8))) (.cons (.ret (.lit (.int 24))) .nil) .nil) (.cons .fail .nil)))))⟩
noncomputable def DV:bw:=⟨4,[(.int 64)],[aa "op",aa "dst",aa "src",aa "size"],.stmts (.cons (.ret (.call (.bc (.obj 140)) (.cons (.bin .Add (.call (.bc (.obj 310)) (.cons (.var 0) (.cons (.var 3) .nil))) (.bc (.int 8))) (.cons (.var 1) (.cons (.var 2) (.cons (.lit (.int 0)) (.cons (.lit (.int 0)) .nil))))))) .nil)⟩
noncomputable def DW:bw:=⟨4,[(.int 64)],[aa "op",aa "dst",aa "imm",aa "size"],.stmts (.cons (.ret (.call (.bc (.obj 140)) (.cons (.call (.bc (.obj 310)) (.cons (.var 0) (.cons (.var 3) .nil))) (.cons (.var 1) (.cons (.lit (.int 0)) (.cons (.lit (.int 0)) (.cons (.var 2) .nil))))))) .nil)⟩
noncomputable def OH:bw:=⟨1,[],[aa "away"],.stmts (.cons (.ret (.call (.bc (.obj 140)) (.cons (.bc (.int 5)) (.cons (.lit (.int 0)) (.cons (.lit (.int 0)) (.cons (.var 0) (.cons (.lit (.int 0)) .nil))))))) .nil)⟩
noncomputable def BB:bw:=⟨1,[],[aa "away"],.stmts (.cons (.ret (.call (.bc (.obj 140)) (.cons (.bc (.int 6)) (.cons (.lit (.int 0)) (.cons (.lit (.int 0)) (.cons (.lit (.int 0)) (.cons (.var 0) .nil))))))) .nil)⟩
noncomputable def xO:bw:=⟨5,[(.int 64)],[aa "op",aa "dst",aa "src",aa "away",aa "size"],.stmts (.cons (.ret (.call (.bc (.obj 140)) (.cons (.bin .Add (.call (.bc (.obj 317)) (.cons (.var 0) (.cons (.var 4) .nil))) (.bc (.int 8))) (.cons (.var 1) (.cons (.var 2) (.cons (.var 3) (.cons (.lit (.int 0)) .nil))))))) .nil)⟩
noncomputable def xP:bw:=⟨5,[(.int 64)],[aa "op",aa "dst",aa "imm",aa "away",aa "size"],.stmts (.cons (.ret (.call (.bc (.obj 140)) (.cons (.call (.bc (.obj 317)) (.cons (.var 0) (.cons (.var 4) .nil))) (.cons (.var 1) (.cons (.lit (.int 0)) (.cons (.var 3) (.cons (.var 2) .nil))))))) .nil)⟩
noncomputable def OG:bw:=⟨4,[],[aa "width",aa "dst",aa "src",aa "off"],.stmts (.cons (.ret (.call (.bc (.obj 140)) (.cons (.bin .Add (.bin .Add (.bc (.int 96)) (.call (.bc (.obj 324)) (.cons (.var 0) .nil))) (.bc (.int 1))) (.cons (.var 1) (.cons (.var 2) (.cons (.var 3) (.cons (.lit (.int 0)) .nil))))))) .nil)⟩
noncomputable def DN:bw:=⟨4,[],[aa "width",aa "dst",aa "src",aa "off"],.stmts (.cons (.ret (.call (.bc (.obj 140)) (.cons (.bin .Add (.bin .Add (.bc (.int 128)) (.call (.bc (.obj 324)) (.cons (.var 0) .nil))) (.bc (.int 1))) (.cons (.var 1) (.cons (.var 2) (.cons (.var 3) (.cons (.lit (.int 0)) .nil))))))) .nil)⟩
noncomputable def KG:bw:=⟨4,[],[aa "width",aa "dst",aa "off",aa "src"],.stmts (.cons (.ret (.call (.bc (.obj 140)) (.cons (.bin .Add (.bin .Add (.bc (.int 96)) (.call (.bc (.obj 324)) (.cons (.var 0) .nil))) (.bc (.int 3))) (.cons (.var 1) (.cons (.var 3) (.cons (.var 2) (.cons (.lit (.int 0)) .nil))))))) .nil)⟩
noncomputable def zJ:bw:=⟨4,[],[aa "width",aa "dst",aa "off",aa "imm"],.stmts (.cons (.ret (.call (.bc (.obj 140)) (.cons (.bin .Add (.bin .Add (.bc (.int 96)) (.call (.bc (.obj 324)) (.cons (.var 0) .nil))) (.bc (.int 2))) (.cons (.var 1) (.cons (.lit (.int 0)) (.cons (.var 2) (.cons (.var 3) .nil))))))) .nil)⟩
noncomputable def wc:bw:=⟨1,[],[aa "name",aa "plain"],.stmts (.cons (.ite (.cmp .Eq (.var 0) (.lit (.str (aa "xchg")))) (.cons (.ret (.bc (.int 225))) .nil) .nil) (.cons (.ite (.cmp .Eq (.var 0) (.lit (.str (aa "cmpxchg")))) (.cons (.ret (.bc (.int 241))) .nil) .nil) (.cons (.assign 1 (.ite (.cmp .Eq (.xw (.var 0) (.lit .none) (.lit (.int 6))) (.lit (.str (aa "fetch_")))) (.xw (.var 0) (.lit (.int 6)) (.lit .none)) (.var 0))) (.cons (.ite (.ig (.cons (.cmp .NotEq (.var 1) (.lit (.str (aa "add")))) (.cons (.cmp .NotEq (.var 1) (.lit (.str (aa "or")))) (.cons (.cmp .NotEq (.var 1) (.lit (.str (aa "and")))) (.cons (.cmp .NotEq (.var 1) (.lit (.str (aa "xor")))) .nil))))) (.cons .fail .nil) .nil) (.cons (.ret (.bin .Add (.bin .LShift (.call (.bc (.obj 303)) (.cons (.bc (.str (aa "add sub mul div or  and lsh rsh neg mod xor mov arshend "))) (.cons (.var 1) .nil))) (.lit (.int 4))) (.ite (.cmp .Eq (.xw (.var 0) (.lit .none) (.lit (.int 6))) (.lit (.str (aa "fetch_")))) (.bc (.int 1)) (.lit (.int 0))))) .nil)))))⟩
noncomputable def HF:bw:=⟨5,[],[aa "name",aa "width",aa "dst",aa "off",aa "src"],.stmts (.cons (.ret (.call (.bc (.obj 140)) (.cons (.bin .Add (.bin .Add (.bc (.int 192)) (.call (.bc (.obj 324)) (.cons (.var 1) .nil))) (.bc (.int 3))) (.cons (.var 2) (.cons (.var 4) (.cons (.var 3) (.cons (.call (.bc (.obj 405)) (.cons (.var 0) .nil)) .nil))))))) .nil)⟩
noncomputable def OI:bw:=⟨1,[],[aa "number"],.stmts (.cons (.ret (.call (.bc (.obj 140)) (.cons (.bc (.int 133)) (.cons (.lit (.int 0)) (.cons (.lit (.int 0)) (.cons (.lit (.int 0)) (.cons (.var 0) .nil))))))) .nil)⟩
noncomputable def xJ:bw:=⟨1,[],[aa "away"],.stmts (.cons (.ret (.call (.bc (.obj 140)) (.cons (.bc (.int 133)) (.cons (.lit (.int 0)) (.cons (.lit (.int 1)) (.cons (.lit (.int 0)) (.cons (.var 0) .nil))))))) .nil)⟩
noncomputable def KH:bw:=⟨0,[],[],.stmts (.cons (.ret (.call (.bc (.obj 140)) (.cons (.bc (.int 149)) (.cons (.lit (.int 0)) (.cons (.lit (.int 0)) (.cons (.lit (.int 0)) (.cons (.lit (.int 0)) .nil))))))) .nil)⟩
noncomputable def dA:bw:=⟨2,[],[aa "self",aa "orders",aa "slot",aa "index",aa "begins"],.stmts (.cons (.setAttr 0 0 (.bj .list false (.cons (.var 1) .nil))) (.cons (.setAttr 0 1 (.lst true .nil)) (.cons (.setAttr 0 2 .BZ) (.cons (.assign 2 (.lit (.int 0))) (.cons (.for [3] (.bj .range false (.cons (.bj .len false (.cons (.attr (.var 0) 0) .nil)) .nil)) (.cons (.append (.fld 0 1) (.var 2)) (.cons (.fV (.fld 0 2) (.var 2) (.var 3)) (.cons (.assign 2 (.bin .Add (.var 2) (.ite (.call (.bc (.obj 193)) (.cons (.idx (.attr (.var 0) 0) (.var 3)) .nil)) (.lit (.int 2)) (.lit (.int 1))))) .nil)))) (.cons (.setAttr 0 3 (.var 2)) (.cons (.assign 4 (.GO (.cons (.lit (.int 0)) .nil))) (.cons (.for [3] (.bj .range false (.cons (.bj .len false (.cons (.attr (.var 0) 0) .nil)) .nil)) (.cons (.ite (.ig (.cons (.call (.bc (.obj 214)) (.cons (.idx (.attr (.var 0) 0) (.var 3)) .nil)) (.cons (.cmp .In (.eg (.user 21) (.var 0) (.cons (.var 3) .nil)) (.attr (.var 0) 2)) .nil))) (.cons (.add (.v 4) (.idx (.attr (.var 0) 2) (.eg (.user 21) (.var 0) (.cons (.var 3) .nil)))) .nil) .nil) .nil)) (.cons (.setAttr 0 4 (.bj .sorted false (.cons (.var 4) .nil))) .nil)))))))))⟩
noncomputable def sI:bw:=⟨1,[],[aa "self"],.stmts (.cons (.ret (.bj .len false (.cons (.attr (.var 0) 0) .nil))) .nil)⟩
noncomputable def oZ:bw:=⟨2,[],[aa "self",aa "at"],.stmts (.cons (.ret (.bin .Add (.bin .Add (.idx (.attr (.var 0) 1) (.var 1)) (.lit (.int 1))) (.call (.bc (.obj 256)) (.cons (.idx (.attr (.var 0) 0) (.var 1)) .nil)))) .nil)⟩
noncomputable def rK:bw:=⟨2,[],[aa "self",aa "at"],.stmts (.cons (.ret (.idx (.attr (.var 0) 2) (.eg (.user 21) (.var 0) (.cons (.var 1) .nil)))) .nil)⟩
noncomputable def gN:bw:=⟨2,[],[aa "self",aa "at",aa "low",aa "high",aa "middle"],.stmts (.cons (.jm [2,3] (.cons (.lit (.int 0)) (.cons (.bj .len false (.cons (.attr (.var 0) 4) .nil)) .nil))) (.cons (.while (.cmp .Gt (.bin .Sub (.var 3) (.var 2)) (.lit (.int 1))) (.cons (.assign 4 (.bin .FloorDiv (.bin .Add (.var 2) (.var 3)) (.lit (.int 2)))) (.cons (.ite (.cmp .LtE (.idx (.attr (.var 0) 4) (.var 4)) (.var 1)) (.cons (.assign 2 (.var 4)) .nil) (.cons (.assign 3 (.var 4)) .nil)) .nil))) (.cons (.ret (.idx (.attr (.var 0) 4) (.var 2))) .nil)))⟩
noncomputable def gj:bw:=⟨2,[],[aa "self",aa "sub",aa "begin"],.stmts (.cons (.for [2] (.attr (.var 0) 4) (.cons (.ite (.cmp .Gt (.var 2) (.var 1)) (.cons (.ret (.var 2)) .nil) .nil) .nil)) (.cons (.ret (.bj .len false (.cons (.attr (.var 0) 0) .nil))) .nil))⟩
noncomputable def BA:bw:=⟨1,[],[aa "order"],.stmts (.cons (.ret (.uG (.cons (.call (.bc (.obj 200)) (.cons (.var 0) .nil)) (.cons (.call (.bc (.obj 228)) (.cons (.var 0) .nil)) (.cons (.call (.bc (.obj 214)) (.cons (.var 0) .nil)) .nil))))) .nil)⟩
noncomputable def xG:bw:=⟨2,[],[aa "program",aa "at",aa "order"],.stmts (.cons (.assign 2 (.idx (.attr (.var 0) 0) (.var 1))) (.cons (.ite (.call (.bc (.obj 221)) (.cons (.var 2) .nil)) (.cons (.ret (.lst false .nil)) .nil) .nil) (.cons (.ite (.call (.bc (.obj 200)) (.cons (.var 2) .nil)) (.cons (.ret (.lst false (.cons (.eg (.user 22) (.var 0) (.cons (.var 1) .nil)) .nil))) .nil) .nil) (.cons (.ite (.ig (.cons (.call (.bc (.obj 228)) (.cons (.var 2) .nil)) (.cons (.cmp .NotEq (.eg (.user 22) (.var 0) (.cons (.var 1) .nil)) (.bin .Add (.var 1) (.lit (.int 1)))) .nil))) (.cons (.ret (.lst false (.cons (.bin .Add (.var 1) (.lit (.int 1))) (.cons (.eg (.user 22) (.var 0) (.cons (.var 1) .nil)) .nil)))) .nil) .nil) (.cons (.ret (.lst false (.cons (.bin .Add (.var 1) (.lit (.int 1))) .nil))) .nil)))))⟩
noncomputable def vX:bw:=⟨1,[],[aa "program"],.stmts (.cons (.ret (.comp false 1 [0] (.bj .range false (.cons (.eg (.user 20) (.var 0) .nil) .nil)) [0] (.cons (.call (.bc (.obj 214)) (.cons (.idx (.attr (.var 1) 0) (.var 0)) .nil)) .nil) (.emit (.var 0)))) .nil)⟩
noncomputable def jo:bw:=⟨1,[],[aa "program",aa "is_seen",aa "waiting",aa "at",aa "nexts",aa "later"],.stmts (.cons (.assign 1 (.comp true 1 [] (.attr (.var 0) 0) [0] .nil (.emit (.lit (.bool false))))) (.cons (.fV (.v 1) (.lit (.int 0)) (.lit (.bool true))) (.cons (.assign 2 (.lst true (.cons (.lit (.int 0)) .nil))) (.cons (.while (.var 2) (.cons (.pop [3] true 2) (.cons (.assign 4 (.bj .list true (.cons (.call (.bc (.obj 508)) (.cons (.var 0) (.cons (.var 3) .nil))) .nil))) (.cons (.ite (.call (.bc (.obj 214)) (.cons (.idx (.attr (.var 0) 0) (.var 3)) .nil)) (.cons (.append (.v 4) (.eg (.user 22) (.var 0) (.cons (.var 3) .nil))) .nil) .nil) (.cons (.fz 4) (.cons (.for [5] (.var 4) (.cons (.ite (.un .Not (.idx (.var 1) (.var 5))) (.cons (.fV (.v 1) (.var 5) (.lit (.bool true))) (.cons (.append (.v 2) (.var 5)) .nil)) .nil) .nil)) .nil)))))) (.cons (.ret (.comp false 1 [1] (.bj .range false (.cons (.eg (.user 20) (.var 0) .nil) .nil)) [0] (.cons (.idx (.var 1) (.var 0)) .nil) (.emit (.var 0)))) .nil)))))⟩
noncomputable def oY:bw:=⟨2,[],[aa "program",aa "sub",aa "found",aa "at"],.stmts (.cons (.assign 2 (.bj .set true .nil)) (.cons (.for [3] (.bj .range false (.cons (.var 1) (.cons (.eg (.user 24) (.var 0) (.cons (.var 1) .nil)) .nil))) (.cons (.ite (.call (.bc (.obj 214)) (.cons (.idx (.attr (.var 0) 0) (.var 3)) .nil)) (.cons (.add (.v 2) (.eg (.user 22) (.var 0) (.cons (.var 3) .nil))) .nil) .nil) .nil)) (.cons (.ret (.bj .sorted false (.cons (.var 2) .nil))) .nil)))⟩
noncomputable def kQ:bw:=⟨1,[],[aa "program",aa "direct",aa "found",aa "sub",aa "seen",aa "waiting",aa "other"],.stmts (.cons (.assign 1 (.rO false 1 [0] (.attr (.var 0) 4) 0 (.call (.bc (.obj 525)) (.cons (.var 1) (.cons (.var 0) .nil))))) (.cons (.assign 2 .BZ) (.cons (.for [3] (.attr (.var 0) 4) (.cons (.jm [4,5] (.cons (.bj .set true .nil) (.cons (.bj .list true (.cons (.idx (.var 1) (.var 3)) .nil)) .nil))) (.cons (.while (.var 5) (.cons (.pop [6] true 5) (.cons (.ite (.cmp .NotIn (.var 6) (.var 4)) (.cons (.add (.v 4) (.var 6)) (.cons (.extend (.v 5) (.idx (.var 1) (.var 6))) .nil)) .nil) .nil))) (.cons (.fz 4) (.cons (.fV (.v 2) (.var 3) (.var 4)) .nil))))) (.cons (.fz 2) (.cons (.ret (.var 2)) .nil)))))⟩
noncomputable def fp:bw:=⟨1,[],[aa "program",aa "counts",aa "is_changed",aa "at",aa "many",aa "other"],.stmts (.cons (.assign 1 (.rO true 1 [] (.attr (.var 0) 4) 0 (.lit (.int 1)))) (.cons (.assign 2 (.lit (.bool true))) (.cons (.while (.var 2) (.cons (.assign 2 (.lit (.bool false))) (.cons (.for [3] (.call (.bc (.obj 513)) (.cons (.var 0) .nil)) (.cons (.jm [4,5] (.cons (.bin .Add (.idx (.var 1) (.eg (.user 23) (.var 0) (.cons (.var 3) .nil))) (.lit (.int 1))) (.cons (.eg (.user 22) (.var 0) (.cons (.var 3) .nil)) .nil))) (.cons (.ite (.cmp .Lt (.idx (.var 1) (.var 5)) (.var 4)) (.cons (.fV (.v 1) (.var 5) (.var 4)) (.cons (.assign 2 (.lit (.bool true))) .nil)) .nil) .nil))) .nil))) (.cons (.fz 1) (.cons (.ret (.var 1)) .nil)))))⟩
noncomputable def gW:bw:=⟨1,[],[aa "program",aa "at",aa "order",aa "slot"],.stmts (.cons (.for [1] (.bj .range false (.cons (.eg (.user 20) (.var 0) .nil) .nil)) (.cons (.assign 2 (.idx (.attr (.var 0) 0) (.var 1))) (.cons (.ite (.call (.bc (.obj 501)) (.cons (.var 2) .nil)) (.cons (.assign 3 (.eg (.user 21) (.var 0) (.cons (.var 1) .nil))) (.cons (.ite (.un .Not (.chain .LtE .Lt (.lit (.int 0)) (.var 3) (.attr (.var 0) 3))) (.cons .fail .nil) .nil) (.cons (.ite (.cmp .NotIn (.var 3) (.attr (.var 0) 2)) (.cons .fail .nil) .nil) .nil))) .nil) .nil))) (.cons (.for [1] (.bj .range false (.cons (.eg (.user 20) (.var 0) .nil) .nil)) (.cons (.assign 2 (.idx (.attr (.var 0) 0) (.var 1))) (.cons (.ite (.ig (.cons (.uG (.cons (.call (.bc (.obj 200)) (.cons (.var 2) .nil)) (.cons (.call (.bc (.obj 228)) (.cons (.var 2) .nil)) .nil))) (.cons (.cmp .NotEq (.eg (.user 23) (.var 0) (.cons (.eg (.user 22) (.var 0) (.cons (.var 1) .nil)) .nil)) (.eg (.user 23) (.var 0) (.cons (.var 1) .nil))) .nil))) (.cons .fail .nil) .nil) .nil))) .nil))⟩
noncomputable def qo:bw:=⟨1,[],[aa "program",aa "sub",aa "last"],.stmts (.cons (.for [1] (.attr (.var 0) 4) (.cons (.assign 2 (.bin .Sub (.eg (.user 24) (.var 0) (.cons (.var 1) .nil)) (.lit (.int 1)))) (.cons (.ite (.ig (.cons (.un .Not (.call (.bc (.obj 221)) (.cons (.idx (.attr (.var 0) 0) (.var 2)) .nil))) (.cons (.un .Not (.call (.bc (.obj 200)) (.cons (.idx (.attr (.var 0) 0) (.var 2)) .nil))) .nil))) (.cons .fail .nil) .nil) .nil))) .nil)⟩
noncomputable def mM:bw:=⟨1,[],[aa "program",aa "reached",aa "at"],.stmts (.cons (.assign 1 (.call (.bc (.obj 518)) (.cons (.var 0) .nil))) (.cons (.for [2] (.bj .range false (.cons (.bj .len false (.cons (.var 1) .nil)) .nil)) (.cons (.ite (.cmp .NotEq (.idx (.var 1) (.var 2)) (.var 2)) (.cons .fail .nil) .nil) .nil)) (.cons (.ite (.cmp .Lt (.bj .len false (.cons (.var 1) .nil)) (.eg (.user 20) (.var 0) .nil)) (.cons .fail .nil) .nil) .nil)))⟩
noncomputable def jr:bw:=⟨1,[],[aa "program",aa "calls",aa "leads",aa "at",aa "sub",aa "other",aa "counts"],.stmts (.cons (.assign 1 (.call (.bc (.obj 513)) (.cons (.var 0) .nil))) (.cons (.ite (.un .Not (.var 1)) (.cons (.ret (.lit .none)) .nil) .nil) (.cons (.assign 2 (.call (.bc (.obj 530)) (.cons (.var 0) .nil))) (.cons (.for [3] (.var 1) (.cons (.jm [4,5] (.cons (.eg (.user 23) (.var 0) (.cons (.var 3) .nil)) (.cons (.eg (.user 22) (.var 0) (.cons (.var 3) .nil)) .nil))) (.cons (.ite (.uG (.cons (.cmp .Eq (.var 5) (.var 4)) (.cons (.cmp .In (.var 4) (.idx (.var 2) (.var 5))) .nil))) (.cons .fail .nil) .nil) .nil))) (.cons (.assign 6 (.call (.bc (.obj 535)) (.cons (.var 0) .nil))) (.cons (.for [3] (.var 1) (.cons (.ite (.cmp .GtE (.idx (.var 6) (.eg (.user 23) (.var 0) (.cons (.var 3) .nil))) (.bc (.int 8))) (.cons .fail .nil) .nil) .nil)) .nil))))))⟩
noncomputable def sH:bw:=⟨2,[(.int 4096)],[aa "orders",aa "most",aa "program"],.stmts (.cons (.assign 2 (.call (.bc (.obj 490)) (.cons (.var 0) .nil))) (.cons (.ite (.cmp .Eq (.eg (.user 20) (.var 2) .nil) (.lit (.int 0))) (.cons .fail .nil) .nil) (.cons (.ite (.cmp .Gt (.attr (.var 2) 3) (.var 1)) (.cons .fail .nil) .nil) (.cons (.run (.call (.bc (.obj 542)) (.cons (.var 2) .nil))) (.cons (.run (.call (.bc (.obj 549)) (.cons (.var 2) .nil))) (.cons (.run (.call (.bc (.obj 556)) (.cons (.var 2) .nil))) (.cons (.run (.call (.bc (.obj 563)) (.cons (.var 2) .nil))) (.cons (.ret (.var 2)) .nil))))))))⟩
noncomputable def DM:bw:=⟨1,[],[aa "numbers",aa "mask",aa "number"],.stmts (.cons (.assign 1 (.lit (.int 0))) (.cons (.for [2] (.var 0) (.cons (.assign 1 (.bin .BitOr (.var 1) (.bin .LShift (.lit (.int 1)) (.var 2)))) .nil)) (.cons (.ret (.var 1)) .nil)))⟩
noncomputable def xI:bw:=⟨1,[],[aa "mask"],.stmts (.cons (.ret (.comp false 1 [0] (.bj .range false (.cons (.call (.bc (.obj 73)) (.cons (.var 0) .nil)) .nil)) [0] (.cons (.cmp .Eq (.bin .BitAnd (.bin .RShift (.var 1) (.var 0)) (.lit (.int 1))) (.lit (.int 1))) .nil) (.emit (.var 0)))) .nil)⟩
noncomputable def xN:bw:=⟨1,[],[aa "order",aa "helper",aa "count"],.stmts (.cons (.ite (.call (.bc (.obj 214)) (.cons (.var 0) .nil)) (.cons (.ret (.lit (.int 62))) .nil) .nil) (.cons (.assign 1 (.call (.bc (.obj 115)) (.cons (.attr (.var 0) 9) .nil))) (.cons (.assign 2 (.ite (.cmp .Is (.var 1) (.lit .none)) (.lit (.int 5)) (.bj .len false (.cons (.attr (.var 1) 13) .nil)))) (.cons (.ret (.call (.bc (.obj 578)) (.cons (.bj .range false (.cons (.lit (.int 1)) (.cons (.bin .Add (.var 2) (.lit (.int 1))) .nil))) .nil))) .nil))))⟩
noncomputable def rF:bw:=⟨1,[],[aa "order",aa "read",aa "written"],.stmts (.cons (.ite (.uG (.cons (.call (.bc (.obj 207)) (.cons (.var 0) .nil)) (.cons (.call (.bc (.obj 214)) (.cons (.var 0) .nil)) .nil))) (.cons (.ret (.tup (.cons (.call (.bc (.obj 590)) (.cons (.var 0) .nil)) (.cons (.bc (.int 63)) .nil)))) .nil) .nil) (.cons (.ite (.call (.bc (.obj 221)) (.cons (.var 0) .nil)) (.cons (.ret (.tup (.cons (.lit (.int 1)) (.cons (.lit (.int 0)) .nil)))) .nil) .nil) (.cons (.unpack [1,2] (.call (.bc (.obj 296)) (.cons (.var 0) .nil))) (.cons (.ret (.tup (.cons (.call (.bc (.obj 578)) (.cons (.var 1) .nil)) (.cons (.call (.bc (.obj 578)) (.cons (.var 2) .nil)) .nil)))) .nil))))⟩
noncomputable def jU:bw:=⟨4,[],[aa "program",aa "masks",aa "behind",aa "ahead",aa "is_changed",aa "at",aa "found",aa "other"],.stmts (.cons (.assign 4 (.lit (.bool true))) (.cons (.while (.var 4) (.cons (.assign 4 (.lit (.bool false))) (.cons (.for [5] (.bj .range false (.cons (.bin .Sub (.eg (.user 20) (.var 0) .nil) (.lit (.int 1))) (.cons (.un .USub (.lit (.int 1))) (.cons (.un .USub (.lit (.int 1))) .nil)))) (.cons (.assign 6 (.var 2)) (.cons (.for [7] (.call (.bc (.obj 508)) (.cons (.var 0) (.cons (.var 5) .nil))) (.cons (.assign 6 (.bin .BitOr (.var 6) (.idx (.var 1) (.var 7)))) .nil)) (.cons (.assign 6 (.call (.var 3) (.cons (.var 5) (.cons (.var 6) .nil)))) (.cons (.ite (.cmp .NotEq (.var 6) (.idx (.var 1) (.var 5))) (.cons (.fV (.v 1) (.var 5) (.var 6)) (.cons (.assign 4 (.lit (.bool true))) .nil)) .nil) .nil))))) .nil))) (.cons (.fz 1) (.cons (.ret (.var 1)) .nil))))⟩
noncomputable def rG:bw:=⟨1,[],[aa "program",aa "pairs",aa "registers_ahead"],.stmts (.cons (.assign 1 (.comp false 1 [] (.attr (.var 0) 0) [0] .nil (.emit (.call (.bc (.obj 597)) (.cons (.var 0) .nil))))) (.cons (.lock [1]) (.cons (.defn 2 0 [1]) (.cons (.ret (.call (.bc (.obj 604)) (.cons (.var 0) (.cons (.comp true 1 [] (.attr (.var 0) 0) [0] .nil (.emit (.lit (.int 0)))) (.cons (.lit (.int 0)) (.cons (.var 2) .nil)))))) .nil))))⟩
noncomputable def sE:bw:=⟨2,[],[aa "off",aa "width",aa "first",aa "last"],.stmts (.cons (.ite (.uG (.cons (.cmp .Lt (.var 0) (.un .USub (.lit (.int 512)))) (.cons (.cmp .Gt (.bin .Add (.var 0) (.var 1)) (.lit (.int 0))) .nil))) (.cons (.ret (.lit (.int 0))) .nil) .nil) (.cons (.jm [2,3] (.cons (.bin .FloorDiv (.bin .Sub (.un .USub (.var 0)) (.lit (.int 1))) (.lit (.int 8))) (.cons (.bin .FloorDiv (.bin .Sub (.un .USub (.var 0)) (.var 1)) (.lit (.int 8))) .nil))) (.cons (.ret (.call (.bc (.obj 578)) (.cons (.bj .range false (.cons (.var 3) (.cons (.bin .Add (.var 2) (.lit (.int 1))) .nil))) .nil))) .nil)))⟩
noncomputable def sF:bw:=⟨2,[],[aa "off",aa "width"],.stmts (.cons (.ret (.ig (.cons (.cmp .Eq (.var 1) (.lit (.int 8))) (.cons (.cmp .Eq (.bin .Mod (.var 0) (.lit (.int 8))) (.lit (.int 0))) .nil)))) .nil)⟩
noncomputable def xH:bw:=⟨1,[],[aa "order"],.stmts (.cons (.ite (.ig (.cons (.call (.bc (.obj 235)) (.cons (.var 0) .nil)) (.cons (.cmp .Eq (.attr (.var 0) 7) (.bc (.int 10))) .nil))) (.cons (.ret (.tup (.cons (.call (.bc (.obj 616)) (.cons (.attr (.var 0) 8) (.cons (.call (.bc (.obj 186)) (.cons (.var 0) .nil)) .nil))) (.cons (.lit (.int 0)) .nil)))) .nil) .nil) (.cons (.ite (.ig (.cons (.cmp .Eq (.attr (.var 0) 6) (.bc (.int 10))) (.cons (.call (.bc (.obj 249)) (.cons (.var 0) .nil)) .nil))) (.cons (.ret (.tup (.cons (.call (.bc (.obj 616)) (.cons (.attr (.var 0) 8) (.cons (.call (.bc (.obj 186)) (.cons (.var 0) .nil)) .nil))) (.cons (.lit (.int 0)) .nil)))) .nil) .nil) (.cons (.ite (.ig (.cons (.cmp .Eq (.attr (.var 0) 6) (.bc (.int 10))) (.cons (.call (.bc (.obj 242)) (.cons (.var 0) .nil)) (.cons (.call (.bc (.obj 623)) (.cons (.attr (.var 0) 8) (.cons (.call (.bc (.obj 186)) (.cons (.var 0) .nil)) .nil))) .nil)))) (.cons (.ret (.tup (.cons (.lit (.int 0)) (.cons (.call (.bc (.obj 616)) (.cons (.attr (.var 0) 8) (.cons (.lit (.int 8)) .nil))) .nil)))) .nil) .nil) (.cons (.ret (.tup (.cons (.lit (.int 0)) (.cons (.lit (.int 0)) .nil)))) .nil))))⟩
noncomputable def vY:bw:=⟨1,[],[aa "order"],.stmts (.cons (.ite (.uG (.cons (.call (.bc (.obj 207)) (.cons (.var 0) .nil)) (.cons (.call (.bc (.obj 214)) (.cons (.var 0) .nil)) (.cons (.call (.bc (.obj 221)) (.cons (.var 0) .nil)) .nil)))) (.cons (.ret (.lit (.bool false))) .nil) .nil) (.cons (.ite (.call (.bc (.obj 235)) (.cons (.var 0) .nil)) (.cons (.ret (.lit (.bool false))) .nil) .nil) (.cons (.ite (.uG (.cons (.call (.bc (.obj 242)) (.cons (.var 0) .nil)) (.cons (.call (.bc (.obj 249)) (.cons (.var 0) .nil)) .nil))) (.cons (.ret (.ig (.cons (.cmp .Eq (.call (.bc (.obj 151)) (.cons (.var 0) .nil)) (.lit (.str (aa "stx")))) (.cons (.cmp .Eq (.attr (.var 0) 7) (.bc (.int 10))) .nil)))) .nil) .nil) (.cons (.ret (.cmp .In (.bc (.int 10)) (.idx (.call (.bc (.obj 296)) (.cons (.var 0) .nil)) (.lit (.int 0))))) .nil))))⟩
noncomputable def iK:bw:=⟨1,[],[aa "program",aa "found",aa "at",aa "order",aa "sub"],.stmts (.cons (.assign 1 (.lst true .nil)) (.cons (.kS 2 3 (.attr (.var 0) 0) (.cons (.assign 4 (.eg (.user 23) (.var 0) (.cons (.var 2) .nil))) (.cons (.ite (.ig (.cons (.call (.bc (.obj 637)) (.cons (.var 3) .nil)) (.cons (.cmp .NotIn (.var 4) (.var 1)) .nil))) (.cons (.append (.v 1) (.var 4)) .nil) .nil) .nil))) (.cons (.fz 1) (.cons (.ret (.var 1)) .nil))))⟩
noncomputable def xK:bw:=⟨1,[],[aa "program",aa "pairs",aa "leaking",aa "open_ones",aa "slots_ahead"],.stmts (.cons (.assign 1 (.comp false 1 [] (.attr (.var 0) 0) [0] .nil (.emit (.call (.bc (.obj 630)) (.cons (.var 0) .nil))))) (.cons (.assign 2 (.call (.bc (.obj 644)) (.cons (.var 0) .nil))) (.cons (.assign 3 (.comp false 1 [2,0] (.bj .range false (.cons (.eg (.user 20) (.var 0) .nil) .nil)) [0] .nil (.emit (.cmp .In (.eg (.user 23) (.var 2) (.cons (.var 0) .nil)) (.var 1))))) (.cons (.lock [3,1]) (.cons (.defn 4 1 [3,1]) (.cons (.ret (.call (.bc (.obj 604)) (.cons (.var 0) (.cons (.comp true 1 [] (.attr (.var 0) 0) [0] .nil (.emit (.lit (.int 0)))) (.cons (.lit (.int 0)) (.cons (.var 4) .nil)))))) .nil))))))⟩
noncomputable def lB:bw:=⟨1,[],[aa "program",aa "masks",aa "found",aa "at",aa "order",aa "behind",aa "other"],.stmts (.cons (.jm [1,2] (.cons (.call (.bc (.obj 609)) (.cons (.var 0) .nil)) (.cons (.lst true .nil) .nil))) (.cons (.kS 3 4 (.attr (.var 0) 0) (.cons (.ite (.cmp .NotIn (.call (.bc (.obj 151)) (.cons (.var 4) .nil)) (.tup (.cons (.lit (.str (aa "alu"))) (.cons (.lit (.str (aa "alu64"))) .nil)))) (.cons .cont .nil) .nil) (.cons (.assign 5 (.lit (.int 0))) (.cons (.for [6] (.call (.bc (.obj 508)) (.cons (.var 0) (.cons (.var 3) .nil))) (.cons (.assign 5 (.bin .BitOr (.var 5) (.idx (.var 1) (.var 6)))) .nil)) (.cons (.ite (.cmp .Eq (.bin .BitAnd (.idx (.call (.bc (.obj 597)) (.cons (.var 4) .nil)) (.lit (.int 1))) (.var 5)) (.lit (.int 0))) (.cons (.append (.v 2) (.var 3)) .nil) .nil) .nil))))) (.cons (.fz 2) (.cons (.ret (.var 2)) .nil))))⟩
noncomputable def tM:bw:=⟨1,[],[aa "script",aa "whole",aa "cell"],.stmts (.cons (.assign 1 (.lit (.int 10007))) (.cons (.for [2] (.xw (.var 0) (.lit .none) (.lit (.int 63))) (.cons (.assign 1 (.bin .Add (.bin .Mult (.var 1) (.lit (.int 1000003))) (.bin .Mod (.bin .Add (.bin .Mult (.lit (.int 2)) (.bj .abs false (.cons (.bj .int false (.cons (.var 2) .nil)) .nil))) (.bj .int false (.cons (.cmp .Lt (.var 2) (.lit (.int 0))) .nil))) (.bin .Pow (.lit (.int 10)) (.lit (.int 90)))))) .nil)) (.cons (.ret (.vH (.ite (.cmp .GtE (.var 1) (.bin .Pow (.lit (.int 10)) (.lit (.int 40)))) (.var 1) (.bin .Pow (.var 1) (.lit (.int 11)))) (.lit (.int 0)))) .nil)))⟩
noncomputable def By:bw:=⟨2,[],[aa "well",aa "many",aa "figure"],.stmts (.cons (.ite (.cmp .Eq (.idx (.var 0) (.lit (.int 0))) (.lit (.int 0))) (.cons (.fV (.v 0) (.lit (.int 1)) (.bin .Add (.idx (.var 0) (.lit (.int 1))) (.lit (.int 1)))) (.cons (.fV (.v 0) (.lit (.int 0)) (.bin .Pow (.lit (.int 1000003)) (.bin .Add (.lit (.int 7)) (.idx (.var 0) (.lit (.int 1)))))) .nil)) .nil) (.cons (.assign 2 (.bin .Mod (.idx (.var 0) (.lit (.int 0))) (.var 1))) (.cons (.fV (.v 0) (.lit (.int 0)) (.bin .FloorDiv (.idx (.var 0) (.lit (.int 0))) (.var 1))) (.cons (.ret (.var 2)) .nil))))⟩
noncomputable def HD:bw:=⟨2,[],[aa "well",aa "some"],.stmts (.cons (.ret (.idx (.var 1) (.call (.bc (.obj 678)) (.cons (.var 0) (.cons (.bj .len false (.cons (.var 1) .nil)) .nil))))) .nil)⟩
noncomputable def DP:bw:=⟨3,[],[aa "well",aa "home",aa "width",aa "spot"],.stmts (.cons (.assign 3 (.call (.bc (.obj 685)) (.cons (.var 0) (.cons (.bc (.tup [(.int 4),(.int 8),(.int 0),(.int 12),(.int 16),(.int 7),(.int 8),(.int 1),(.int 13),(.int 0),(.int (-512)),(.int (-1))])) .nil)))) (.cons (.ite (.cmp .Eq (.var 3) (.un .USub (.lit (.int 512)))) (.cons (.ret (.var 3)) .nil) .nil) (.cons (.ret (.ite (.cmp .Lt (.var 3) (.lit (.int 0))) (.un .USub (.var 2)) (.bin .Sub (.bin .Sub (.bj .min false (.cons (.var 3) (.cons (.bin .Sub (.lit (.int 24)) (.var 2)) .nil))) (.bin .Mult (.lit (.int 8)) (.var 1))) (.lit (.int 24))))) .nil)))⟩
noncomputable def rH:bw:=⟨2,[],[aa "well",aa "home",aa "way",aa "base",aa "one",aa "width",aa "off",aa "own",aa "deed",aa "number",aa "asks"],.stmts (.cons (.jm [2,3,4,5] (.cons (.call (.bc (.obj 678)) (.cons (.var 0) (.cons (.lit (.int 8)) .nil))) (.cons (.call (.bc (.obj 685)) (.cons (.var 0) (.cons (.tup (.cons (.lit (.int 10)) (.cons (.lit (.int 10)) (.cons (.lit (.int 7)) (.cons (.lit (.int 10)) .nil))))) .nil))) (.cons (.call (.bc (.obj 678)) (.cons (.var 0) (.cons (.lit (.int 10)) .nil))) (.cons (.call (.bc (.obj 685)) (.cons (.var 0) (.cons (.tup (.cons (.lit (.int 8)) (.cons (.lit (.int 4)) (.cons (.lit (.int 8)) (.cons (.lit (.int 2)) (.cons (.lit (.int 1)) .nil)))))) .nil))) .nil))))) (.cons (.ite (.cmp .Gt (.var 2) (.lit (.int 5))) (.cons (.assign 5 (.bj .max false (.cons (.var 5) (.cons (.lit (.int 4)) .nil)))) .nil) .nil) (.cons (.assign 6 (.call (.bc (.obj 692)) (.cons (.var 0) (.cons (.var 1) (.cons (.var 5) .nil))))) (.cons (.assign 7 (.ite (.cmp .Eq (.var 3) (.lit (.int 10))) (.bj .list false (.cons (.bj .range false (.cons (.var 6) (.cons (.bin .Add (.var 6) (.var 5)) .nil))) .nil)) (.lst false .nil))) (.cons (.ite (.cmp .Lt (.var 2) (.lit (.int 2))) (.cons (.lock [3,6,4,5]) (.cons (.ret (.tup (.cons (.lit (.str (aa "on"))) (.cons (.lam 6 [3,6,4,5]) (.cons (.lst false (.cons (.var 3) .nil)) (.cons (.lst false (.cons (.var 4) .nil)) (.cons (.var 7) (.cons (.lst false .nil) (.cons (.lit (.int 0)) .nil))))))))) .nil)) .nil) (.cons (.ite (.cmp .Eq (.var 2) (.lit (.int 2))) (.cons (.lock [3,6,4,5]) (.cons (.ret (.tup (.cons (.lit (.str (aa "on"))) (.cons (.lam 5 [3,6,4,5]) (.cons (.lst false (.cons (.var 3) .nil)) (.cons (.lst false (.cons (.var 4) .nil)) (.cons (.xw (.var 7) (.lit .none) (.lit (.int 4))) (.cons (.lst false .nil) (.cons (.lit (.int 0)) .nil))))))))) .nil)) .nil) (.cons (.ite (.cmp .Lt (.var 2) (.lit (.int 5))) (.cons (.lock [3,6,4,5]) (.cons (.ret (.tup (.cons (.lit (.str (aa "on"))) (.cons (.lam 4 [3,6,4,5]) (.cons (.lst false (.cons (.var 3) (.cons (.var 4) .nil))) (.cons (.lst false .nil) (.cons (.lst false .nil) (.cons (.var 7) (.cons (.lit (.int 0)) .nil))))))))) .nil)) .nil) (.cons (.ite (.cmp .Eq (.var 2) (.lit (.int 5))) (.cons (.lock [3,6,5]) (.cons (.ret (.tup (.cons (.lit (.str (aa "on"))) (.cons (.lam 3 [3,6,5]) (.cons (.lst false (.cons (.var 3) .nil)) (.cons (.lst false .nil) (.cons (.lst false .nil) (.cons (.var 7) (.cons (.lit (.int 0)) .nil))))))))) .nil)) .nil) (.cons (.unpack [8,9] (.call (.bc (.obj 685)) (.cons (.var 0) (.cons (.tup (.cons (.tup (.cons (.lit (.str (aa "add"))) (.cons (.un .USub (.lit (.int 1))) .nil))) (.cons (.tup (.cons (.lit (.str (aa "fetch_or"))) (.cons (.var 4) .nil))) (.cons (.tup (.cons (.lit (.str (aa "cmpxchg"))) (.cons (.lit (.int 0)) .nil))) (.cons (.tup (.cons (.lit (.str (aa "xchg"))) (.cons (.var 4) .nil))) .nil))))) .nil)))) (.cons (.assign 10 (.ite (.cmp .Eq (.var 8) (.lit (.str (aa "cmpxchg")))) (.lst false (.cons (.var 3) (.cons (.var 4) (.cons (.lit (.int 0)) .nil)))) (.lst false (.cons (.var 3) (.cons (.var 4) .nil))))) (.cons (.lock [3,8,6,4,5]) (.cons (.ret (.tup (.cons (.lit (.str (aa "on"))) (.cons (.lam 2 [3,8,6,4,5]) (.cons (.var 10) (.cons (.ite (.cmp .Lt (.var 9) (.lit (.int 0))) (.lst false .nil) (.lst false (.cons (.var 9) .nil))) (.cons (.var 7) (.cons (.lst false .nil) (.cons (.lit (.int 0)) .nil))))))))) .nil))))))))))))⟩
noncomputable def rI:bw:=⟨1,[],[aa "well",aa "way",aa "one",aa "other",aa "number",aa "count",aa "deed"],.stmts (.cons (.jm [1,2,3] (.cons (.call (.bc (.obj 678)) (.cons (.var 0) (.cons (.lit (.int 5)) .nil))) (.cons (.call (.bc (.obj 678)) (.cons (.var 0) (.cons (.lit (.int 10)) .nil))) (.cons (.call (.bc (.obj 678)) (.cons (.var 0) (.cons (.lit (.int 10)) .nil))) .nil)))) (.cons (.ite (.cmp .Eq (.var 1) (.lit (.int 0))) (.cons (.unpack [4,5] (.call (.bc (.obj 685)) (.cons (.var 0) (.cons (.bc (.tup [(.tup [(.int 7),(.int 0)]),(.tup [(.int 87),(.int 3)]),(.tup [(.int 2),(.int 4)]),(.tup [(.int 132),(.int 2)]),(.tup [(.int 131),(.int 3)]),(.tup [(.int 89),(.int 2)])])) .nil)))) (.cons (.lock [4]) (.cons (.ret (.tup (.cons (.lit (.str (aa "on"))) (.cons (.lam 11 [4]) (.cons (.bj .list false (.cons (.bj .range false (.cons (.lit (.int 1)) (.cons (.bin .Add (.var 5) (.lit (.int 1))) .nil))) .nil)) (.cons (.lst false (.cons (.lit (.int 0)) (.cons (.lit (.int 1)) (.cons (.lit (.int 2)) (.cons (.lit (.int 3)) (.cons (.lit (.int 4)) (.cons (.lit (.int 5)) .nil))))))) (.cons (.lst false .nil) (.cons (.lst false .nil) (.cons (.lit (.int 0)) .nil))))))))) .nil))) .nil) (.cons (.ite (.cmp .Eq (.var 1) (.lit (.int 1))) (.cons (.lock [2,3]) (.cons (.ret (.tup (.cons (.lit (.str (aa "branch"))) (.cons (.lam 10 [2,3]) (.cons (.lst false (.cons (.var 2) (.cons (.var 3) .nil))) (.cons (.lst false .nil) (.cons (.lst false .nil) (.cons (.lst false .nil) (.cons (.call (.bc (.obj 678)) (.cons (.var 0) (.cons (.lit (.int 12)) .nil))) .nil))))))))) .nil)) .nil) (.cons (.ite (.cmp .Eq (.var 1) (.lit (.int 2))) (.cons (.lock [2]) (.cons (.ret (.tup (.cons (.lit (.str (aa "branch"))) (.cons (.lam 9 [2]) (.cons (.lst false (.cons (.var 2) .nil)) (.cons (.lst false .nil) (.cons (.lst false .nil) (.cons (.lst false .nil) (.cons (.call (.bc (.obj 678)) (.cons (.var 0) (.cons (.lit (.int 12)) .nil))) .nil))))))))) .nil)) .nil) (.cons (.ite (.cmp .Eq (.var 1) (.lit (.int 3))) (.cons (.lock [2]) (.cons (.ret (.tup (.cons (.lit (.str (aa "on"))) (.cons (.lam 8 [2]) (.cons (.lst false .nil) (.cons (.lst false (.cons (.var 2) .nil)) (.cons (.lst false .nil) (.cons (.lst false .nil) (.cons (.lit (.int 0)) .nil))))))))) .nil)) .nil) (.cons (.assign 6 (.call (.bc (.obj 685)) (.cons (.var 0) (.cons (.tup (.cons (.lit (.str (aa "add"))) (.cons (.lit (.str (aa "mov"))) (.cons (.lit (.str (aa "xor"))) .nil)))) .nil)))) (.cons (.lock [6,2,3]) (.cons (.ret (.tup (.cons (.lit (.str (aa "on"))) (.cons (.lam 7 [6,2,3]) (.cons (.ite (.cmp .Eq (.var 6) (.lit (.str (aa "mov")))) (.lst false (.cons (.var 3) .nil)) (.lst false (.cons (.var 2) (.cons (.var 3) .nil)))) (.cons (.lst false (.cons (.var 2) .nil)) (.cons (.lst false .nil) (.cons (.lst false .nil) (.cons (.lit (.int 0)) .nil))))))))) .nil))))))))⟩
noncomputable def rJ:bw:=⟨2,[],[aa "well",aa "home",aa "way",aa "one",aa "base",aa "off"],.stmts (.cons (.jm [2,3,4,5] (.cons (.call (.bc (.obj 678)) (.cons (.var 0) (.cons (.lit (.int 7)) .nil))) (.cons (.call (.bc (.obj 678)) (.cons (.var 0) (.cons (.lit (.int 10)) .nil))) (.cons (.call (.bc (.obj 685)) (.cons (.var 0) (.cons (.tup (.cons (.lit (.int 7)) (.cons (.lit (.int 10)) .nil))) .nil))) (.cons (.call (.bc (.obj 692)) (.cons (.var 0) (.cons (.var 1) (.cons (.lit (.int 8)) .nil)))) .nil))))) (.cons (.ite (.cmp .Eq (.var 2) (.lit (.int 0))) (.cons (.lock [3]) (.cons (.ret (.tup (.cons (.lit (.str (aa "on"))) (.cons (.lam 18 [3]) (.cons (.lst false (.cons (.var 3) (.cons (.lit (.int 10)) .nil))) (.cons (.lst false (.cons (.var 3) .nil)) (.cons (.lst false .nil) (.cons (.lst false .nil) (.cons (.lit (.int 0)) .nil))))))))) .nil)) .nil) (.cons (.ite (.cmp .Eq (.var 2) (.lit (.int 1))) (.cons (.lock [3]) (.cons (.ret (.tup (.cons (.lit (.str (aa "branch"))) (.cons (.lam 17 [3]) (.cons (.lst false (.cons (.var 3) (.cons (.lit (.int 10)) .nil))) (.cons (.lst false .nil) (.cons (.lst false .nil) (.cons (.lst false .nil) (.cons (.call (.bc (.obj 678)) (.cons (.var 0) (.cons (.lit (.int 12)) .nil))) .nil))))))))) .nil)) .nil) (.cons (.ite (.cmp .Eq (.var 2) (.lit (.int 2))) (.cons (.lock [3]) (.cons (.ret (.tup (.cons (.lit (.str (aa "branch"))) (.cons (.lam 16 [3]) (.cons (.lst false (.cons (.var 3) (.cons (.lit (.int 10)) .nil))) (.cons (.lst false .nil) (.cons (.lst false .nil) (.cons (.lst false .nil) (.cons (.call (.bc (.obj 678)) (.cons (.var 0) (.cons (.lit (.int 12)) .nil))) .nil))))))))) .nil)) .nil) (.cons (.ite (.cmp .Eq (.var 2) (.lit (.int 3))) (.cons (.ret (.tup (.cons (.lit (.str (aa "branch"))) (.cons (.lam 15 []) (.cons (.lst false (.cons (.lit (.int 10)) .nil)) (.cons (.lst false .nil) (.cons (.lst false .nil) (.cons (.lst false .nil) (.cons (.call (.bc (.obj 678)) (.cons (.var 0) (.cons (.lit (.int 12)) .nil))) .nil))))))))) .nil) .nil) (.cons (.ite (.cmp .Eq (.var 2) (.lit (.int 4))) (.cons (.lock [4,5]) (.cons (.ret (.tup (.cons (.lit (.str (aa "on"))) (.cons (.lam 14 [4,5]) (.cons (.lst false (.cons (.var 4) (.cons (.lit (.int 10)) .nil))) (.cons (.lst false .nil) (.cons (.lst false .nil) (.cons (.lst false .nil) (.cons (.lit (.int 0)) .nil))))))))) .nil)) .nil) (.cons (.ite (.cmp .Eq (.var 2) (.lit (.int 5))) (.cons (.lock [4,5]) (.cons (.ret (.tup (.cons (.lit (.str (aa "on"))) (.cons (.lam 13 [4,5]) (.cons (.lst false (.cons (.var 4) (.cons (.lit (.int 10)) .nil))) (.cons (.lst false .nil) (.cons (.lst false .nil) (.cons (.lst false .nil) (.cons (.lit (.int 0)) .nil))))))))) .nil)) .nil) (.cons (.lock [3]) (.cons (.ret (.tup (.cons (.lit (.str (aa "on"))) (.cons (.lam 12 [3]) (.cons (.lst false (.cons (.lit (.int 10)) .nil)) (.cons (.lst false (.cons (.var 3) .nil)) (.cons (.lst false .nil) (.cons (.lst false .nil) (.cons (.lit (.int 0)) .nil))))))))) .nil)))))))))⟩
noncomputable def km:bw:=⟨2,[],[aa "well",aa "is_calling",aa "home",aa "many",aa "is_loose",aa "spot",aa "gate",aa "found",aa "turn",aa "kind"],.stmts (.cons (.jm [2,3,4] (.cons (.call (.bc (.obj 678)) (.cons (.var 0) (.cons (.lit (.int 62)) .nil))) (.cons (.bin .Add (.lit (.int 2)) (.call (.bc (.obj 678)) (.cons (.var 0) (.cons (.lit (.int 3)) .nil)))) (.cons (.cmp .Eq (.call (.bc (.obj 678)) (.cons (.var 0) (.cons (.lit (.int 3)) .nil))) (.lit (.int 1))) .nil)))) (.cons (.jm [5,6,7] (.cons (.call (.bc (.obj 678)) (.cons (.var 0) (.cons (.var 3) .nil))) (.cons (.call (.bc (.obj 678)) (.cons (.var 0) (.cons (.var 3) .nil))) (.cons (.lst true .nil) .nil)))) (.cons (.for [8] (.bj .range false (.cons (.var 3) .nil)) (.cons (.ite (.ig (.cons (.var 1) (.cons (.cmp .Eq (.var 8) (.var 6)) .nil))) (.cons (.append (.v 7) (.tup (.cons (.lit (.str (aa "call"))) (.cons (.bc (.obj 426)) (.cons (.lst false (.cons (.lit (.int 1)) (.cons (.lit (.int 2)) (.cons (.lit (.int 3)) (.cons (.lit (.int 4)) (.cons (.lit (.int 5)) .nil)))))) (.cons (.lst false (.cons (.lit (.int 0)) (.cons (.lit (.int 1)) (.cons (.lit (.int 2)) (.cons (.lit (.int 3)) (.cons (.lit (.int 4)) (.cons (.lit (.int 5)) .nil))))))) (.cons (.lst false .nil) (.cons (.lst false .nil) (.cons (.lit (.int 0)) .nil))))))))) .nil) .nil) (.cons (.assign 9 (.call (.bc (.obj 678)) (.cons (.var 0) (.cons (.lit (.int 10)) .nil)))) (.cons (.ite (.ig (.cons (.var 4) (.cons (.cmp .Eq (.var 8) (.var 5)) .nil))) (.cons (.append (.v 7) (.call (.bc (.obj 713)) (.cons (.var 0) (.cons (.var 2) .nil)))) .nil) (.cons (.ite (.cmp .Lt (.var 9) (.lit (.int 6))) (.cons (.append (.v 7) (.call (.bc (.obj 699)) (.cons (.var 0) (.cons (.var 2) .nil)))) .nil) (.cons (.ite (.cmp .Lt (.var 9) (.lit (.int 9))) (.cons (.append (.v 7) (.call (.bc (.obj 706)) (.cons (.var 0) .nil))) .nil) (.cons (.append (.v 7) (.tup (.cons (.lit (.str (aa "branch"))) (.cons (.lam 20 []) (.cons (.lst false (.cons (.lit (.int 6)) .nil)) (.cons (.lst false .nil) (.cons (.lst false .nil) (.cons (.lst false .nil) (.cons (.bin .Add (.bj .len false (.cons (.var 7) .nil)) (.lit (.int 2))) .nil))))))))) (.cons (.append (.v 7) (.tup (.cons (.lit (.str (aa "jump"))) (.cons (.call (.bc (.obj 685)) (.cons (.var 0) (.cons (.tup (.cons (.bc (.obj 347)) (.cons (.bc (.obj 354)) .nil))) .nil))) (.cons (.lst false .nil) (.cons (.lst false .nil) (.cons (.lst false .nil) (.cons (.lst false .nil) (.cons (.call (.bc (.obj 678)) (.cons (.var 0) (.cons (.lit (.int 12)) .nil))) .nil))))))))) .nil))) .nil)) .nil)) .nil)))) (.cons (.ret (.tup (.cons (.bin .Add (.var 7) (.lst false (.cons (.tup (.cons (.lit (.str (aa "exit"))) (.cons (.lam 19 []) (.cons (.lst false (.cons (.lit (.int 0)) .nil)) (.cons (.lst false .nil) (.cons (.lst false .nil) (.cons (.lst false .nil) (.cons (.lit (.int 0)) .nil)))))))) .nil))) (.cons (.var 4) .nil)))) .nil))))⟩
noncomputable def zM:bw:=⟨2,[],[aa "rows",aa "at",aa "word",aa "aim"],.stmts (.cons (.jm [2,3] (.cons (.idx (.idx (.var 0) (.var 1)) (.lit (.int 0))) (.cons (.bin .Mod (.idx (.idx (.var 0) (.var 1)) (.lit (.int 6))) (.bj .len false (.cons (.var 0) .nil))) .nil))) (.cons (.ite (.cmp .Eq (.var 2) (.lit (.str (aa "exit")))) (.cons (.ret (.lst false .nil)) .nil) .nil) (.cons (.ite (.cmp .Eq (.var 2) (.lit (.str (aa "jump")))) (.cons (.ret (.lst false (.cons (.var 3) .nil))) .nil) .nil) (.cons (.ret (.ite (.cmp .Eq (.var 2) (.lit (.str (aa "branch")))) (.lst false (.cons (.bin .Add (.var 1) (.lit (.int 1))) (.cons (.var 3) .nil))) (.lst false (.cons (.bin .Add (.var 1) (.lit (.int 1))) .nil)))) .nil))))⟩
noncomputable def ml:bw:=⟨3,[],[aa "nexts",aa "asks",aa "lays",aa "found",aa "ahead",aa "waiting",aa "at",aa "thing"],.stmts (.cons (.assign 3 (.sU 1 [] (.var 0) 0)) (.cons (.assign 4 (.comp false 1 [0] (.bj .range false (.cons (.bj .len false (.cons (.var 0) .nil)) .nil)) [0] .nil (.emit (.comp false 1 [0,1] (.bj .range false (.cons (.bj .len false (.cons (.var 1) .nil)) .nil)) [0] (.cons (.cmp .In (.var 1) (.idx (.var 2) (.var 0))) .nil) (.emit (.var 0)))))) (.cons (.assign 5 (.comp true 2 [1] (.bj .range false (.cons (.bj .len false (.cons (.var 0) .nil)) .nil)) [0] .nil (.gen (.idx (.var 2) (.var 0)) [1] .nil (.emit (.tup (.cons (.var 0) (.cons (.var 1) .nil))))))) (.cons (.while (.cmp .NotEq (.var 5) (.lst false .nil)) (.cons (.pop [6,7] false 5) (.cons (.ite (.cmp .NotIn (.var 7) (.idx (.var 3) (.var 6))) (.cons (.append (.at 3 (.var 6)) (.var 7)) (.cons (.extend (.v 5) (.comp false 1 [2,7] (.idx (.var 4) (.var 6)) [0] (.cons (.cmp .NotIn (.var 2) (.idx (.var 1) (.var 0))) .nil) (.emit (.tup (.cons (.var 0) (.cons (.var 2) .nil)))))) .nil)) .nil) .nil))) (.cons (.fz 3) (.cons (.ret (.var 3)) .nil))))))⟩
noncomputable def zL:bw:=⟨2,[],[aa "rows",aa "nexts",aa "asks",aa "touched"],.stmts (.cons (.assign 2 (.comp false 1 [] (.var 0) [0] .nil (.emit (.comp false 1 [] (.idx (.var 0) (.lit (.int 4))) [0] .nil (.emit (.bin .FloorDiv (.bin .Sub (.un .USub (.var 0)) (.lit (.int 1))) (.lit (.int 8)))))))) (.cons (.assign 3 (.comp false 1 [] (.var 0) [0] .nil (.emit (.comp false 1 [] (.idx (.var 0) (.lit (.int 5))) [0] .nil (.emit (.bin .FloorDiv (.bin .Sub (.un .USub (.var 0)) (.lit (.int 1))) (.lit (.int 8)))))))) (.cons (.ret (.call (.bc (.obj 732)) (.cons (.var 1) (.cons (.var 2) (.cons (.comp false 1 [] (.var 3) [0] .nil (.emit (.comp false 1 [0] (.var 0) [0] (.cons (.cmp .Eq (.eg .count (.var 1) (.cons (.var 0) .nil)) (.lit (.int 8))) .nil) (.emit (.var 0))))) .nil))))) .nil)))⟩
noncomputable def DO:bw:=⟨1,[],[aa "things"],.stmts (.cons (.ret (.bj .sum false (.cons (.comp false 1 [] (.var 0) [0] .nil (.emit (.bin .Pow (.lit (.int 2)) (.var 0)))) .nil))) .nil)⟩
noncomputable def jq:bw:=⟨1,[],[aa "script",aa "well",aa "many",aa "parts",aa "found",aa "registers",aa "slots",aa "idle",aa "rows",aa "is_loose",aa "begin",aa "nexts",aa "counted",aa "at",aa "goal",aa "program",aa "mask",aa "numbers"],.stmts (.cons (.assign 1 (.call (.bc (.obj 671)) (.cons (.var 0) .nil))) (.cons (.assign 2 (.bin .Add (.lit (.int 1)) (.call (.bc (.obj 678)) (.cons (.var 1) (.cons (.lit (.int 3)) .nil))))) (.cons (.assign 3 (.comp false 1 [2,1] (.bj .range false (.cons (.var 2) .nil)) [0] .nil (.emit (.call (.bc (.obj 720)) (.cons (.var 2) (.cons (.cmp .Lt (.var 0) (.bin .Sub (.var 1) (.lit (.int 1)))) .nil)))))) (.cons (.jm [4,5,6,7] (.cons (.lst true .nil) (.cons (.lst true .nil) (.cons (.lst true .nil) (.cons (.lst true .nil) .nil))))) (.cons (.for [8,9] (.var 3) (.cons (.jm [10,11] (.cons (.bj .len false (.cons (.var 4) .nil)) (.cons (.comp false 1 [8] (.bj .range false (.cons (.bj .len false (.cons (.var 8) .nil)) .nil)) [0] .nil (.emit (.call (.bc (.obj 727)) (.cons (.var 1) (.cons (.var 0) .nil))))) .nil))) (.cons (.assign 12 (.call (.bc (.obj 732)) (.cons (.var 11) (.cons (.comp false 1 [] (.var 8) [0] .nil (.emit (.idx (.var 0) (.lit (.int 2))))) (.cons (.comp false 1 [] (.var 8) [0] .nil (.emit (.idx (.var 0) (.lit (.int 3))))) .nil))))) (.cons (.for [13] (.bj .range false (.cons (.bj .len false (.cons (.var 8) .nil)) .nil)) (.cons (.assign 14 (.ite (.cmp .Eq (.idx (.idx (.var 8) (.var 13)) (.lit (.int 0))) (.lit (.str (aa "call")))) (.bj .len false (.cons (.var 8) .nil)) (.bin .Mod (.idx (.idx (.var 8) (.var 13)) (.lit (.int 6))) (.bj .len false (.cons (.var 8) .nil))))) (.cons (.append (.v 4) (.call (.idx (.idx (.var 8) (.var 13)) (.lit (.int 1))) (.cons (.bin .Sub (.bin .Sub (.var 14) (.var 13)) (.lit (.int 1))) .nil))) (.cons (.ite (.ig (.cons (.cmp .In (.bin .BitAnd (.attr (.idx (.var 4) (.un .USub (.lit (.int 1)))) 5) (.lit (.int 7))) (.tup (.cons (.lit (.int 4)) (.cons (.lit (.int 7)) .nil)))) (.cons (.cmp .Eq (.comp false 1 [13,12,8] (.idx (.var 11) (.var 13)) [0] (.cons (.cmp .In (.idx (.idx (.idx (.var 3) (.var 1)) (.lit (.int 3))) (.lit (.int 0))) (.idx (.var 2) (.var 0))) .nil) (.emit (.var 0))) (.lst false .nil)) .nil))) (.cons (.append (.v 7) (.bin .Add (.var 10) (.var 13))) .nil) .nil) .nil)))) (.cons (.extend (.v 5) (.comp false 1 [] (.var 12) [0] .nil (.emit (.call (.bc (.obj 742)) (.cons (.var 0) .nil))))) (.cons (.extend (.v 6) (.comp false 1 [9] (.call (.bc (.obj 737)) (.cons (.var 8) (.cons (.var 11) .nil))) [0] .nil (.emit (.ite (.var 1) (.bin .Sub (.bin .Pow (.lit (.int 2)) (.lit (.int 64))) (.lit (.int 1))) (.call (.bc (.obj 742)) (.cons (.var 0) .nil)))))) .nil)))))) (.cons (.assign 15 (.call (.bc (.obj 571)) (.cons (.var 4) .nil))) (.cons (.ite (.uG (.cons (.cmp .NotEq (.call (.bc (.obj 609)) (.cons (.var 15) .nil)) (.var 5)) (.cons (.cmp .NotEq (.call (.bc (.obj 649)) (.cons (.var 15) .nil)) (.var 6)) (.cons (.cmp .NotEq (.call (.bc (.obj 656)) (.cons (.var 15) .nil)) (.var 7)) .nil)))) (.cons (.ret (.lit (.bool false))) .nil) .nil) (.cons (.for [16] (.lst false (.cons (.call (.bc (.obj 678)) (.cons (.var 1) (.cons (.bin .Pow (.lit (.int 2)) (.lit (.int 64))) .nil))) (.cons (.idx (.var 5) (.lit (.int 0))) (.cons (.idx (.var 6) (.lit (.int 0))) .nil)))) (.cons (.assign 17 (.comp false 1 [16] (.bj .range false (.cons (.lit (.int 64)) .nil)) [0] (.cons (.cmp .Eq (.bin .BitAnd (.bin .RShift (.var 1) (.var 0)) (.lit (.int 1))) (.lit (.int 1))) .nil) (.emit (.var 0)))) (.cons (.ite (.uG (.cons (.cmp .NotEq (.call (.bc (.obj 583)) (.cons (.var 16) .nil)) (.var 17)) (.cons (.cmp .NotEq (.call (.bc (.obj 578)) (.cons (.bin .Add (.rev (.var 17)) (.xw (.var 17) (.lit .none) (.lit (.int 1)))) .nil)) (.var 16)) .nil))) (.cons (.ret (.lit (.bool false))) .nil) .nil) .nil))) (.cons (.ret (.lit (.bool true))) .nil)))))))))⟩
noncomputable def We:bw:=⟨2,[],[aa "at",aa "mask",aa "pairs"],(.stmts (.cons (.ret (.bin .BitOr (.bin .BitAnd (.var 1) (.un .Invert (.idx (.idx (.var 2) (.var 0)) (.lit (.int 1))))) (.idx (.idx (.var 2) (.var 0)) (.lit (.int 0))))) .nil))⟩
noncomputable def Wd:bw:=⟨2,[],[aa "at",aa "mask",aa "open_ones",aa "pairs"],(.stmts (.cons (.ret (.ite (.idx (.var 2) (.var 0)) (.bc (.int 18446744073709551615)) (.bin .BitOr (.bin .BitAnd (.var 1) (.un .Invert (.idx (.idx (.var 3) (.var 0)) (.lit (.int 1))))) (.idx (.idx (.var 3) (.var 0)) (.lit (.int 0)))))) .nil))⟩
noncomputable def Wc:bw:=⟨1,[],[aa "away",aa "base",aa "deed",aa "off",aa "one",aa "width"],(.expr (.call (.bc (.obj 412)) (.cons (.var 2) (.cons (.var 5) (.cons (.var 1) (.cons (.var 3) (.cons (.var 4) .nil)))))))⟩
noncomputable def Wb:bw:=⟨1,[],[aa "away",aa "base",aa "off",aa "width"],(.expr (.call (.bc (.obj 398)) (.cons (.var 3) (.cons (.var 1) (.cons (.var 2) (.cons (.lit (.int 3)) .nil))))))⟩
noncomputable def Wa:bw:=⟨1,[],[aa "away",aa "base",aa "off",aa "one",aa "width"],(.expr (.call (.bc (.obj 391)) (.cons (.var 4) (.cons (.var 1) (.cons (.var 2) (.cons (.var 3) .nil))))))⟩
noncomputable def V_:bw:=⟨1,[],[aa "away",aa "base",aa "off",aa "one",aa "width"],(.expr (.call (.bc (.obj 384)) (.cons (.bj .min false (.cons (.var 4) (.cons (.lit (.int 4)) .nil))) (.cons (.var 3) (.cons (.var 1) (.cons (.var 2) .nil))))))⟩
noncomputable def V':bw:=⟨1,[],[aa "away",aa "base",aa "off",aa "one",aa "width"],(.expr (.call (.bc (.obj 377)) (.cons (.var 4) (.cons (.var 3) (.cons (.var 1) (.cons (.var 2) .nil))))))⟩
noncomputable def V9:bw:=⟨1,[],[aa "away",aa "deed",aa "one",aa "other"],(.expr (.call (.bc (.obj 332)) (.cons (.var 1) (.cons (.var 2) (.cons (.var 3) .nil)))))⟩
noncomputable def V8:bw:=⟨1,[],[aa "away",aa "one"],(.expr (.call (.bc (.obj 340)) (.cons (.lit (.str (aa "mov"))) (.cons (.var 1) (.cons (.lit (.int 5)) .nil)))))⟩
noncomputable def V7:bw:=⟨1,[],[aa "away",aa "one"],(.expr (.call (.bc (.obj 370)) (.cons (.lit (.str (aa "set"))) (.cons (.var 1) (.cons (.lit (.int 6)) (.cons (.var 0) .nil))))))⟩
noncomputable def S5:bw:=⟨1,[],[aa "away",aa "one",aa "other"],(.expr (.call (.bc (.obj 362)) (.cons (.lit (.str (aa "sgt"))) (.cons (.var 1) (.cons (.var 2) (.cons (.var 0) .nil))))))⟩
noncomputable def S4:bw:=⟨1,[],[aa "away",aa "number"],(.expr (.call (.bc (.obj 419)) (.cons (.var 1) .nil)))⟩
noncomputable def S3:bw:=⟨1,[],[aa "away",aa "one"],(.expr (.call (.bc (.obj 332)) (.cons (.lit (.str (aa "mov"))) (.cons (.var 1) (.cons (.lit (.int 10)) .nil)))))⟩
noncomputable def S2:bw:=⟨1,[],[aa "away",aa "base",aa "off"],(.expr (.call (.bc (.obj 412)) (.cons (.lit (.str (aa "xor"))) (.cons (.lit (.int 8)) (.cons (.var 1) (.cons (.var 2) (.cons (.lit (.int 10)) .nil)))))))⟩
noncomputable def S0:bw:=⟨1,[],[aa "away",aa "base",aa "off"],(.expr (.call (.bc (.obj 391)) (.cons (.lit (.int 8)) (.cons (.var 1) (.cons (.var 2) (.cons (.lit (.int 10)) .nil))))))⟩
noncomputable def SY:bw:=⟨1,[],[aa "away"],(.expr (.call (.bc (.obj 370)) (.cons (.lit (.str (aa "ne"))) (.cons (.lit (.int 10)) (.cons (.lit (.int 1)) (.cons (.var 0) .nil))))))⟩
noncomputable def SX:bw:=⟨1,[],[aa "away",aa "one"],(.expr (.call (.bc (.obj 362)) (.cons (.lit (.str (aa "lt"))) (.cons (.var 1) (.cons (.lit (.int 10)) (.cons (.var 0) .nil))))))⟩
noncomputable def SW:bw:=⟨1,[],[aa "away",aa "one"],(.expr (.call (.bc (.obj 362)) (.cons (.lit (.str (aa "ge"))) (.cons (.lit (.int 10)) (.cons (.var 1) (.cons (.var 0) .nil))))))⟩
noncomputable def SV:bw:=⟨1,[],[aa "away",aa "one"],(.expr (.call (.bc (.obj 332)) (.cons (.lit (.str (aa "add"))) (.cons (.var 1) (.cons (.lit (.int 10)) .nil)))))⟩
noncomputable def SU:bw:=⟨1,[],[aa "away"],(.expr (.call (.bc (.obj 433)) .nil))⟩
noncomputable def SS:bw:=⟨1,[],[aa "away"],(.expr (.call (.bc (.obj 370)) (.cons (.lit (.str (aa "eq"))) (.cons (.lit (.int 6)) (.cons (.lit (.int 0)) (.cons (.var 0) .nil))))))⟩
def LT:List bw:=[We,Wd,Wc,Wb,Wa,V_,V',V9,V8,V7,S5,S4,S3,S2,S0,SY,SX,SW,SV,SU,SS]
noncomputable def GT:List (bB×FV):=[(aa "bit_count",(.obj 73)),(aa "LOOKUP",(.int 1)),(aa "UPDATE",(.int 2)),(aa "DELETE",(.int 3)),(aa "CLOCK",(.int 5)),(aa "PRINT",(.int 6)),(aa "RANDOM",(.int 7)),(aa "PROCESSOR",(.int 8)),(aa "PUSH",(.int 87)),(aa "POP",(.int 88)),(aa "PEEK",(.int 89)),(aa "OUTPUT",(.int 130)),(aa "RESERVE",(.int 131)),(aa "SUBMIT",(.int 132)),(aa "DISCARD",(.int 133)),(aa "Helper",(.obj 97)),(aa "helper_rows",(.obj 108)),(aa "helper_of",(.obj 115)),(aa "LD",(.int 0)),(aa "LDX",(.int 1)),(aa "ST",(.int 2)),(aa "STX",(.int 3)),(aa "ALU",(.int 4)),(aa "JMP",(.int 5)),(aa "JMP32",(.int 6)),(aa "ALU64",(.int 7)),(aa "BY_REGISTER",(.int 8)),(aa "WIDE",(.int 24)),(aa "CALL",(.int 133)),(aa "EXIT",(.int 149)),(aa "MODE_MEM",(.int 96)),(aa "MODE_MEMSX",(.int 128)),(aa "MODE_ATOMIC",(.int 192)),(aa "FETCH",(.int 1)),(aa "XCHG",(.int 225)),(aa "CMPXCHG",(.int 241)),(aa "CLASSES",(.str (aa "ld   ldx  st   stx  alu  jmp  jmp32alu64"))),(aa "DEEDS",(.str (aa "add sub mul div or  and lsh rsh neg mod xor mov arshend "))),(aa "JUMPS",(.str (aa "ja  eq  gt  ge  set ne  sgt sge callexitlt  le  slt sle "))),(aa "KNOWN",(.int 14)),(aa "Order",(.obj 140)),(aa "class_of",(.obj 151)),(aa "is_alu",(.obj 158)),(aa "is_jumping",(.obj 165)),(aa "operation",(.obj 172)),(aa "is_register",(.obj 179)),(aa "width_of",(.obj 186)),(aa "is_wide",(.obj 193)),(aa "is_jump",(.obj 200)),(aa "is_call",(.obj 207)),(aa "is_local_call",(.obj 214)),(aa "is_exit",(.obj 221)),(aa "is_branch",(.obj 228)),(aa "is_load",(.obj 235)),(aa "is_store",(.obj 242)),(aa "is_atomic",(.obj 249)),(aa "distance",(.obj 256)),(aa "atomic_name",(.obj 263)),(aa "each_once",(.obj 268)),(aa "alu_uses",(.obj 275)),(aa "jump_uses",(.obj 282)),(aa "atomic_uses",(.obj 289)),(aa "uses",(.obj 296)),(aa "spot_of",(.obj 303)),(aa "deed_code",(.obj 310)),(aa "branch_code",(.obj 317)),(aa "width_code",(.obj 324)),(aa "alu_reg",(.obj 332)),(aa "alu_imm",(.obj 340)),(aa "jump",(.obj 347)),(aa "far_jump",(.obj 354)),(aa "branch_reg",(.obj 362)),(aa "branch_imm",(.obj 370)),(aa "load",(.obj 377)),(aa "load_sx",(.obj 384)),(aa "store",(.obj 391)),(aa "store_imm",(.obj 398)),(aa "atomic_code",(.obj 405)),(aa "atomic",(.obj 412)),(aa "call",(.obj 419)),(aa "local_call",(.obj 426)),(aa "leave",(.obj 433)),(aa "MOST_ORDERS",(.int 4096)),(aa "MOST_FRAMES",(.int 8)),(aa "Program",(.obj 490)),(aa "has_goal",(.obj 501)),(aa "successors",(.obj 508)),(aa "local_calls",(.obj 513)),(aa "reachable",(.obj 518)),(aa "calls_of",(.obj 525)),(aa "called_by",(.obj 530)),(aa "frame_counts",(.obj 535)),(aa "check_goals",(.obj 542)),(aa "check_ends",(.obj 549)),(aa "check_reached",(.obj 556)),(aa "check_calls",(.obj 563)),(aa "check_program",(.obj 571)),(aa "FRAME",(.int 10)),(aa "ALL_SLOTS",(.int 18446744073709551615)),(aa "WRITTEN_BY_CALLS",(.int 63)),(aa "mask_of",(.obj 578)),(aa "numbers_in",(.obj 583)),(aa "call_reads",(.obj 590)),(aa "register_masks",(.obj 597)),(aa "settle",(.obj 604)),(aa "live_registers",(.obj 609)),(aa "slots_touched",(.obj 616)),(aa "is_whole_slot",(.obj 623)),(aa "slot_masks",(.obj 630)),(aa "leaks_frame",(.obj 637)),(aa "leaking_subs",(.obj 644)),(aa "live_slots",(.obj 649)),(aa "dead_orders",(.obj 656)),(aa "_law_SPOTS",(.tup [(.int 4),(.int 8),(.int 0),(.int 12),(.int 16),(.int 7),(.int 8),(.int 1),(.int 13),(.int 0),(.int (-512)),(.int (-1))])),(aa "_law_CALLS",(.tup [(.tup [(.int 7),(.int 0)]),(.tup [(.int 87),(.int 3)]),(.tup [(.int 2),(.int 4)]),(.tup [(.int 132),(.int 2)]),(.tup [(.int 131),(.int 3)]),(.tup [(.int 89),(.int 2)])])),(aa "_law_well",(.obj 671)),(aa "_law_take",(.obj 678)),(aa "_law_of",(.obj 685)),(aa "_law_off",(.obj 692)),(aa "_law_touch",(.obj 699)),(aa "_law_plain",(.obj 706)),(aa "_law_loose",(.obj 713)),(aa "_law_part",(.obj 720)),(aa "_law_nexts",(.obj 727)),(aa "_law_spread",(.obj 732)),(aa "_law_slots",(.obj 737)),(aa "_law_sum",(.obj 742)),(aa "law",(.obj 747))]
def FT(a:Nat):Option bw:=
 if a<433 then(if a<275 then(if a<200 then(if a<165 then(if a<115 then(if a<108 then(if a=73 then some zT else ab)else(if a=108 then some v9 else ab))else(if a<151 then(if a=115 then some zQ else ab)else(if a<158 then(if a=151 then some BD else ab)else(if a=158 then some HE else ab))))else(if a<179 then(if a<172 then(if a=165 then some xM else ab)else(if a=172 then some zK else ab))else(if a<186 then(if a=179 then some vZ else ab)else(if a<193 then(if a=186 then some Bx else ab)else(if a=193 then some DQ else ab)))))else(if a<235 then(if a<214 then(if a<207 then(if a=200 then some DS else ab)else(if a=207 then some DU else ab))else(if a<221 then(if a=214 then some sG else ab)else(if a<228 then(if a=221 then some DT else ab)else(if a=228 then some zO else ab))))else(if a<256 then(if a<242 then(if a=235 then some DR else ab)else(if a<249 then(if a=242 then some Bz else ab)else(if a=249 then some zP else ab)))else(if a<263 then(if a=256 then some BC else ab)else(if a<268 then(if a=263 then some wb else ab)else(if a=268 then some zR else ab))))))else(if a<354 then(if a<310 then(if a<289 then(if a<282 then(if a=275 then some BE else ab)else(if a=282 then some zN else ab))else(if a<296 then(if a=289 then some wa else ab)else(if a<303 then(if a=296 then some OE else ab)else(if a=303 then some DL else ab))))else(if a<332 then(if a<317 then(if a=310 then some zS else ab)else(if a<324 then(if a=317 then some v_ else ab)else(if a=324 then some xF else ab)))else(if a<340 then(if a=332 then some DV else ab)else(if a<347 then(if a=340 then some DW else ab)else(if a=347 then some OH else ab)))))else(if a<391 then(if a<370 then(if a<362 then(if a=354 then some BB else ab)else(if a=362 then some xO else ab))else(if a<377 then(if a=370 then some xP else ab)else(if a<384 then(if a=377 then some OG else ab)else(if a=384 then some DN else ab))))else(if a<412 then(if a<398 then(if a=391 then some KG else ab)else(if a<405 then(if a=398 then some zJ else ab)else(if a=405 then some wc else ab)))else(if a<419 then(if a=412 then some HF else ab)else(if a<426 then(if a=419 then some OI else ab)else(if a=426 then some xJ else ab)))))))else(if a<604 then(if a<530 then(if a<482 then(if a<461 then(if a<454 then(if a=433 then some KH else ab)else(if a=454 then some sI else ab))else(if a<468 then(if a=461 then some oZ else ab)else(if a<475 then(if a=468 then some rK else ab)else(if a=475 then some gN else ab))))else(if a<513 then(if a<501 then(if a=482 then some gj else ab)else(if a<508 then(if a=501 then some BA else ab)else(if a=508 then some xG else ab)))else(if a<518 then(if a=513 then some vX else ab)else(if a<525 then(if a=518 then some jo else ab)else(if a=525 then some oY else ab)))))else(if a<563 then(if a<542 then(if a<535 then(if a=530 then some kQ else ab)else(if a=535 then some fp else ab))else(if a<549 then(if a=542 then some gW else ab)else(if a<556 then(if a=549 then some qo else ab)else(if a=556 then some mM else ab))))else(if a<583 then(if a<571 then(if a=563 then some jr else ab)else(if a<578 then(if a=571 then some sH else ab)else(if a=578 then some DM else ab)))else(if a<590 then(if a=583 then some xI else ab)else(if a<597 then(if a=590 then some xN else ab)else(if a=597 then some rF else ab))))))else(if a<685 then(if a<637 then(if a<616 then(if a<609 then(if a=604 then some jU else ab)else(if a=609 then some rG else ab))else(if a<623 then(if a=616 then some sE else ab)else(if a<630 then(if a=623 then some sF else ab)else(if a=630 then some xH else ab))))else(if a<656 then(if a<644 then(if a=637 then some vY else ab)else(if a<649 then(if a=644 then some iK else ab)else(if a=649 then some xK else ab)))else(if a<671 then(if a=656 then some lB else ab)else(if a<678 then(if a=671 then some tM else ab)else(if a=678 then some By else ab)))))else(if a<720 then(if a<699 then(if a<692 then(if a=685 then some HD else ab)else(if a=692 then some DP else ab))else(if a<706 then(if a=699 then some rH else ab)else(if a<713 then(if a=706 then some rI else ab)else(if a=713 then some rJ else ab))))else(if a<737 then(if a<727 then(if a=720 then some km else ab)else(if a<732 then(if a=727 then some zM else ab)else(if a=732 then some ml else ab)))else(if a<742 then(if a=737 then some zL else ab)else(if a<747 then(if a=742 then some DO else ab)else(if a=747 then some jq else ab)))))))
def CT(a:Nat):Option bw:=if a=97 then some hC else if a=140 then some iM else if a=490 then some dA else ab
def au(N:Nat):Nat->my
 |0=>λ_ _ _=>ab
 |k+1=>λf args wl=>match f with
  |.obj a=>(FT a).elim ((CT a).bind λg=>runC (au N k) N a g args wl) λg=>C4 (au N k) N g [] args wl
  |.mB j aX=>(LT[j]?).bind λg=>C4 (au N k) N g aX args wl
  |_=>ab
noncomputable def uU:Const->Option FV
 |.none=>some .none
 |.bool b=>some (.bool b)
 |.int i=>some (.int i)
 |.str s=>some (.str s)
 |_=>ab
noncomputable def BI.word:BI->bB
 |.len=>"len"|.range=>"range"|.list=>"list"|.set=>"set"|.abs=>"abs"|.int=>"int"|.max=>"max"|.min=>"min"|.sum=>"sum"|.sorted=>"sorted"
noncomputable def BI.val:BI->aB
 |.len=>.builtin "len"|.range=>.type "range"|.list=>.type "list"|.set=>.type "set"|.abs=>.builtin "abs"|.int=>.type "int"|.max=>.builtin "max"|.min=>.builtin "min"|.sum=>.builtin "sum"|.sorted=>.builtin "sorted"
def ME.word:ME->bB
 |.strip=>"strip"|.count=>"count"|.user k=>Ib k
where Ib (k:Nat):bB:=gA.getD k "?"
noncomputable def uA(e:af)(k:BoolOp->List af->dN->Bool):Bool:=if h:e.ctorIdx=0 then rW (motive_1:=λ_=>Bool) e h k else false
@[elab_as_elim] theorem FF{P:af->Prop}{k:BoolOp->List af->dN->Bool}(h:uA e k=true)(f:∀a b c,k a b c=true->P (.BoolOp a b c)):P e:=if c:e.ctorIdx=0 then rW (motive_1:=λe=>uA e k=true->P e) e c f h else ff ((dif_neg c).symm.trans h)
noncomputable def CM(e:af)(k:af->Operator->af->dN->Bool):Bool:=if h:e.ctorIdx=2 then tB (motive_1:=λ_=>Bool) e h k else false
@[elab_as_elim] theorem Ta{P:af->Prop}{k:af->Operator->af->dN->Bool}(h:CM e k=true)(f:∀a b c d,k a b c d=true->P (.BinOp a b c d)):P e:=if c:e.ctorIdx=2 then tB (motive_1:=λe=>CM e k=true->P e) e c f h else ff ((dif_neg c).symm.trans h)
noncomputable def rh(e:af)(k:UnaryOp->af->dN->Bool):Bool:=if h:e.ctorIdx=3 then qN (motive_1:=λ_=>Bool) e h k else false
@[elab_as_elim] theorem BJ{P:af->Prop}{k:UnaryOp->af->dN->Bool}(h:rh e k=true)(f:∀a b c,k a b c=true->P (.UnaryOp a b c)):P e:=if c:e.ctorIdx=3 then qN (motive_1:=λe=>rh e k=true->P e) e c f h else ff ((dif_neg c).symm.trans h)
noncomputable def zc(e:af)(k:Arguments->af->jF->dN->Bool):Bool:=if h:e.ctorIdx=4 then rV (motive_1:=λ_=>Bool) e h k else false
@[elab_as_elim] theorem OR{P:af->Prop}{k:Arguments->af->jF->dN->Bool}(h:zc e k=true)(f:∀a b c d,k a b c d=true->P (.Lambda a b c d)):P e:=if c:e.ctorIdx=4 then rV (motive_1:=λe=>zc e k=true->P e) e c f h else ff ((dif_neg c).symm.trans h)
noncomputable def CL(e:af)(k:af->af->af->dN->Bool):Bool:=if h:e.ctorIdx=5 then tx (motive_1:=λ_=>Bool) e h k else false
@[elab_as_elim] theorem S_{P:af->Prop}{k:af->af->af->dN->Bool}(h:CL e k=true)(f:∀a b c d,k a b c d=true->P (.IfExp a b c d)):P e:=if c:e.ctorIdx=5 then tx (motive_1:=λe=>CL e k=true->P e) e c f h else ff ((dif_neg c).symm.trans h)
noncomputable def Ja(e:af)(k:List (Option af)->List af->dN->Bool):Bool:=if h:e.ctorIdx=6 then uq (motive_1:=λ_=>Bool) e h k else false
@[elab_as_elim] theorem Wn{P:af->Prop}{k:List (Option af)->List af->dN->Bool}(h:Ja e k=true)(f:∀a b c,k a b c=true->P (.Dict a b c)):P e:=if c:e.ctorIdx=6 then uq (motive_1:=λe=>Ja e k=true->P e) e c f h else ff ((dif_neg c).symm.trans h)
noncomputable def RE(e:af)(k:List af->Nat->dN->Bool):Bool:=if h:e.ctorIdx=7 then xh (motive_1:=λ_=>Bool) e h k else false
@[elab_as_elim] theorem ZE{P:af->Prop}{k:List af->Nat->dN->Bool}(h:RE e k=true)(f:∀a b c,k a b c=true->P (.Set a b c)):P e:=if c:e.ctorIdx=7 then xh (motive_1:=λe=>RE e k=true->P e) e c f h else ff ((dif_neg c).symm.trans h)
noncomputable def pB(e:af)(k:af->List cP->jF->dN->Bool):Bool:=if h:e.ctorIdx=8 then qa (motive_1:=λ_=>Bool) e h k else false
@[elab_as_elim] theorem yz{P:af->Prop}{k:af->List cP->jF->dN->Bool}(h:pB e k=true)(f:∀a b c d,k a b c d=true->P (.ListComp a b c d)):P e:=if c:e.ctorIdx=8 then qa (motive_1:=λe=>pB e k=true->P e) e c f h else ff ((dif_neg c).symm.trans h)
noncomputable def sg(e:af)(k:af->af->List cP->jF->dN->Bool):Bool:=if h:e.ctorIdx=10 then qc (motive_1:=λ_=>Bool) e h k else false
@[elab_as_elim] theorem HH{P:af->Prop}{k:af->af->List cP->jF->dN->Bool}(h:sg e k=true)(f:∀a b c d e,k a b c d e=true->P (.DictComp a b c d e)):P e:=if c:e.ctorIdx=10 then qc (motive_1:=λe=>sg e k=true->P e) e c f h else ff ((dif_neg c).symm.trans h)
noncomputable def ri(e:af)(k:af->List CmpOp->List af->dN->Bool):Bool:=if h:e.ctorIdx=15 then qO (motive_1:=λ_=>Bool) e h k else false
@[elab_as_elim] theorem BK{P:af->Prop}{k:af->List CmpOp->List af->dN->Bool}(h:ri e k=true)(f:∀a b c d,k a b c d=true->P (.Compare a b c d)):P e:=if c:e.ctorIdx=15 then qO (motive_1:=λe=>ri e k=true->P e) e c f h else ff ((dif_neg c).symm.trans h)
noncomputable def rj(e:af)(k:af->List af->List Keyword->dN->Bool):Bool:=if h:e.ctorIdx=16 then ur (motive_1:=λ_=>Bool) e h k else false
@[elab_as_elim] theorem yB{P:af->Prop}{k:af->List af->List Keyword->dN->Bool}(h:rj e k=true)(f:∀a b c d,k a b c d=true->P (.Call a b c d)):P e:=if c:e.ctorIdx=16 then ur (motive_1:=λe=>rj e k=true->P e) e c f h else ff ((dif_neg c).symm.trans h)
noncomputable def pC(e:af)(k:Const->Nat->dN->Bool):Bool:=if h:e.ctorIdx=19 then qd (motive_1:=λ_=>Bool) e h k else false
@[elab_as_elim] theorem yA{P:af->Prop}{k:Const->Nat->dN->Bool}(h:pC e k=true)(f:∀a b c,k a b c=true->P (.Constant a b c)):P e:=if c:e.ctorIdx=19 then qd (motive_1:=λe=>pC e k=true->P e) e c f h else ff ((dif_neg c).symm.trans h)
noncomputable def gg(e:af)(k:af->bB->dN->Bool):Bool:=if h:e.ctorIdx=20 then pb (motive_1:=λ_=>Bool) e h k else false
@[elab_as_elim] theorem jV{P:af->Prop}{k:af->bB->dN->Bool}(h:gg e k=true)(f:∀a b c,k a b c=true->P (.Attribute a b c)):P e:=if c:e.ctorIdx=20 then pb (motive_1:=λe=>gg e k=true->P e) e c f h else ff ((dif_neg c).symm.trans h)
noncomputable def gT(e:af)(k:af->af->dN->Bool):Bool:=if h:e.ctorIdx=21 then o_ (motive_1:=λ_=>Bool) e h k else false
@[elab_as_elim] theorem iV{P:af->Prop}{k:af->af->dN->Bool}(h:gT e k=true)(f:∀a b c,k a b c=true->P (.Subscript a b c)):P e:=if c:e.ctorIdx=21 then o_ (motive_1:=λe=>gT e k=true->P e) e c f h else ff ((dif_neg c).symm.trans h)
noncomputable def j_(e:af)(k:bB->dN->Bool):Bool:=if h:e.ctorIdx=23 then mu (motive_1:=λ_=>Bool) e h k else false
@[elab_as_elim] theorem kL{P:af->Prop}{k:bB->dN->Bool}(h:j_ e k=true)(f:∀a b,k a b=true->P (.Name a b)):P e:=if c:e.ctorIdx=23 then mu (motive_1:=λe=>j_ e k=true->P e) e c f h else ff ((dif_neg c).symm.trans h)
noncomputable def AD(e:af)(k:List af->dN->Bool):Bool:=if h:e.ctorIdx=24 then uo (motive_1:=λ_=>Bool) e h k else false
@[elab_as_elim] theorem KP{P:af->Prop}{k:List af->dN->Bool}(h:AD e k=true)(f:∀a b,k a b=true->P (.List a b)):P e:=if c:e.ctorIdx=24 then uo (motive_1:=λe=>AD e k=true->P e) e c f h else ff ((dif_neg c).symm.trans h)
noncomputable def oE(e:af)(k:List af->Nat->dN->Bool):Bool:=if h:e.ctorIdx=25 then lK (motive_1:=λ_=>Bool) e h k else false
@[elab_as_elim] theorem sJ{P:af->Prop}{k:List af->Nat->dN->Bool}(h:oE e k=true)(f:∀a b c,k a b c=true->P (.Tuple a b c)):P e:=if c:e.ctorIdx=25 then lK (motive_1:=λe=>oE e k=true->P e) e c f h else ff ((dif_neg c).symm.trans h)
noncomputable def zb(e:af)(k:Option af->Option af->Option af->dN->Bool):Bool:=if h:e.ctorIdx=26 then tu (motive_1:=λ_=>Bool) e h k else false
@[elab_as_elim] theorem KO{P:af->Prop}{k:Option af->Option af->Option af->dN->Bool}(h:zb e k=true)(f:∀a b c d,k a b c d=true->P (.Slice a b c d)):P e:=if c:e.ctorIdx=26 then tu (motive_1:=λe=>zb e k=true->P e) e c f h else ff ((dif_neg c).symm.trans h)
noncomputable def nh(e:bU)(k:bB->Arguments->List bU->List af->Option af->List TypeParam->jF->Option jF->bB->dN->Bool):Bool:=if h:e.ctorIdx=0 then tr (motive_2:=λ_=>Bool) e h k else false
@[elab_as_elim] theorem zD{P:bU->Prop}{e:bU}{k:bB->Arguments->List bU->List af->Option af->List TypeParam->jF->Option jF->bB->dN->Bool}(h:nh e k=true)(f:∀a b c d e f g h i j,k a b c d e f g h i j=true->P (.FunctionDef a b c d e f g h i j)):P e:=if c:e.ctorIdx=0 then tr (motive_2:=λe=>nh e k=true->P e) e c f h else ff ((dif_neg c).symm.trans h)
noncomputable def y_(e:bU)(k:Option af->dN->Bool):Bool:=if h:e.ctorIdx=3 then Cp (motive_2:=λ_=>Bool) e h k else false
@[elab_as_elim] theorem OD{P:bU->Prop}{e:bU}{k:Option af->dN->Bool}(h:y_ e k=true)(f:∀a b,k a b=true->P (.Return a b)):P e:=if c:e.ctorIdx=3 then Cp (motive_2:=λe=>y_ e k=true->P e) e c f h else ff ((dif_neg c).symm.trans h)
noncomputable def lY(e:bU)(k:List af->af->dN->Bool):Bool:=if h:e.ctorIdx=5 then Cq (motive_2:=λ_=>Bool) e h k else false
@[elab_as_elim] theorem l_{P:bU->Prop}{e:bU}{k:List af->af->dN->Bool}(h:lY e k=true)(f:∀a b c,k a b c=true->P (.Assign a b c)):P e:=if c:e.ctorIdx=5 then Cq (motive_2:=λe=>lY e k=true->P e) e c f h else ff ((dif_neg c).symm.trans h)
noncomputable def M6(e:bU)(k:af->af->List bU->List bU->dN->Bool):Bool:=if h:e.ctorIdx=9 then Mj (motive_2:=λ_=>Bool) e h k else false
@[elab_as_elim] theorem Wh{P:bU->Prop}{e:bU}{k:af->af->List bU->List bU->dN->Bool}(h:M6 e k=true)(f:∀a b c d e,k a b c d e=true->P (.For a b c d e)):P e:=if c:e.ctorIdx=9 then Mj (motive_2:=λe=>M6 e k=true->P e) e c f h else ff ((dif_neg c).symm.trans h)
noncomputable def CK(e:bU)(k:af->List bU->List bU->dN->Bool):Bool:=if h:e.ctorIdx=11 then EH (motive_2:=λ_=>Bool) e h k else false
@[elab_as_elim] theorem S6{P:bU->Prop}{e:bU}{k:af->List bU->List bU->dN->Bool}(h:CK e k=true)(f:∀a b c d,k a b c d=true->P (.While a b c d)):P e:=if c:e.ctorIdx=11 then EH (motive_2:=λe=>CK e k=true->P e) e c f h else ff ((dif_neg c).symm.trans h)
noncomputable def Y7(e:bU)(k:af->List bU->List bU->dN->Bool):Bool:=if h:e.ctorIdx=12 then P6 (motive_2:=λ_=>Bool) e h k else false
@[elab_as_elim] theorem jIf{P:bU->Prop}{e:bU}{k:af->List bU->List bU->dN->Bool}(h:Y7 e k=true)(f:∀a b c d,k a b c d=true->P (.If a b c d)):P e:=if c:e.ctorIdx=12 then P6 (motive_2:=λe=>Y7 e k=true->P e) e c f h else ff ((dif_neg c).symm.trans h)
noncomputable def wExpr(e:bU)(k:af->dN->Bool):Bool:=if h:e.ctorIdx=24 then Io (motive_2:=λ_=>Bool) e h k else false
@[elab_as_elim] theorem QB{P:bU->Prop}{e:bU}{k:af->dN->Bool}(h:wExpr e k=true)(f:∀a b,k a b=true->P (.Expr a b)):P e:=if c:e.ctorIdx=24 then Io (motive_2:=λe=>wExpr e k=true->P e) e c f h else ff ((dif_neg c).symm.trans h)
noncomputable def sf(e:bU)(k:dN->Bool):Bool:=if h:e.ctorIdx=27 then x7 (motive_2:=λ_=>Bool) e h k else false
@[elab_as_elim] theorem Hy{P:bU->Prop}{e:bU}{k:dN->Bool}(h:sf e k=true)(f:∀a,k a=true->P (.Continue a)):P e:=if c:e.ctorIdx=27 then x7 (motive_2:=λe=>sf e k=true->P e) e c f h else ff ((dif_neg c).symm.trans h)
noncomputable def gp(e:af):Bool:= !c5 e.ctorIdx 26
noncomputable def gV(e:af):Bool:= !c5 e.ctorIdx 7
noncomputable def notAttr(e:af):Bool:= !c5 e.ctorIdx 20
def mJ(e:af):Bool:= !rj e λf a k _=>j_ f (λx _=>x==("super":bB))&&a.isEmpty&&k.isEmpty
def zz(ns:List bB)(i:Nat)(e:af):Bool:=j_ e λx _=>ns[i]?==some x
noncomputable def UC{α:Type}(l:List α)(k:α->List α->Bool):Bool:=match l with|a::r=>k a r|_=>false
@[elab_as_elim] theorem BM{α:Type}{l:List α}{k:α->List α->Bool}{P:List α->Prop}(h:UC l k=true)(f:∀a r,k a r=true->P (a::r)):P l:=match l,h with|a::r,h=>f a r h
def ly(ns:List bB):List Nat->List af->Bool
 |[],es=>es.isEmpty
 |i::is,es=>UC es λe es=>zz ns i e&&ly ns is es
def cY(ns:List bB)(e:af)(is:List Nat):Bool:=match is with
 |[i]=>zz ns i e
 |is=>decide (2<=is.length)&&oE e λes _ _=>ly ns is es
theorem g_{n:Nat}:∀{is:List Nat},cY ns (.Tuple es n p) is=true->2<=is.length/\ly ns is es=true
 |[],h=>ff h
 |[_],h=>ff h
 |_::_::_,h=>⟨ji _ _,h⟩
theorem sv:∀{is:List Nat}{es:List af},ly ns is es=true->es.length=is.length
 |[],es,h=>l0 h rfl
 |i::is,es,h=>BM h λe es h=>an h λ_ h2=>congrArg (·+1) (sv h2)
@[elab_as_elim] theorem vc{P:af->List Nat->Prop}(h:cY ns e is=true)(f:∀x p i,ns[i]?=some x->P (.Name x p) [i])(g:∀es n p,cY ns (.Tuple es n p) is=true->P (.Tuple es n p) is):P e is:=match is,h,g with
  |[],h,_=>ff h
  |[i],h,_=>kL h λx p h=>f x p i (eq_of_beq h)
  |_::_::_,h,g=>sJ h g
noncomputable def i7(sc dD:jF)(ns iw:List bB)(m:Nat)(aX:List Nat):Bool:=
 dD.kind==.function&&decide (iw.Nodup)&&iw.length==m+aX.length&& !iw.contains (".0":bB)&&
 ((iw.take m).all λx=>dD.names.lookup x==some .local||dD.names.lookup x==some .cell)&&
 (((iw.drop m).zip aX).all λp=>ns[p.2]?==some p.1&&dD.names.lookup p.1==some .free&&(sc.names.lookup p.1==some .cell||sc.names.lookup p.1==some .free))&&
 (dD.names.all λp=>p.2 !=.free||(iw.drop m).contains p.1)&&
 (dD.names.all λp=>dD.names.lookup p.1==some p.2)&&decide ((dD.names.map (·.1)).Nodup)&&(dD.names.all λp=>p.2==.local||p.2==.cell||p.2==.free||p.2==.globalImplicit)
noncomputable def sV(ns:List bB)(ts:List bB)(aX:List Nat):List bB:=ts++aX.filterMap λi=>ns[i]?
noncomputable def nameOf(e:af):List bB:=if h:e.ctorIdx=23 then mu (motive_1:=λ_=>List bB) e h (λx _=>[x])else[]
def targetNames(e:af):List bB:=if h:e.ctorIdx=25 then lK (motive_1:=λ_=>List bB) e h (λes _ _=>es.flatMap nameOf)else nameOf e
def K1(gs:List cP):List bB:=gs.flatMap λg=>targetNames g.target
noncomputable def C1(sc:jF):Bool:=sc.kind==.function&& !sc.isGenerator&& !sc.isCoroutine
def rN(sc:jF)(f:bw)(aX:Nat):Bool:=
 C1 sc&&decide (f.names.Nodup)&&decide (f.params+aX<=f.names.length)&&
 ((f.names.take (f.names.length-aX)).all λx=>sc.names.lookup x==some .local||sc.names.lookup x==some .cell)&&
 ((f.names.drop (f.names.length-aX)).all λx=>sc.names.lookup x==some .free)&&
 (sc.names.all λp=>p.2 !=.free||(f.names.drop (f.names.length-aX)).contains p.1)&&
 (sc.names.all λp=>sc.names.lookup p.1==some p.2)&&decide ((sc.names.map (·.1)).Nodup)&&(sc.names.all λp=>p.2==.local||p.2==.cell||p.2==.free||p.2==.globalImplicit)
noncomputable def jS(a:Arguments)(f:bw):Bool:=
 a.posonlyargs.isEmpty&&a.vararg.isNone&&a.kwonlyargs.isEmpty&&a.kwarg.isNone&&a.args.map (·.arg)==f.names.take f.params&&a.args.length==f.params&&a.args.all (·.annotation.isNone)
noncomputable def uB(e:FV)(k:Bool->Bool):Bool:=if h:e.ctorIdx=1 then FV.bool.elim (motive_1:=λ_=>Bool) e h k else false
noncomputable def uI(e:FV)(k:Int->Bool):Bool:=if h:e.ctorIdx=2 then FV.int.elim (motive_1:=λ_=>Bool) e h k else false
noncomputable def uS(e:FV)(k:bB->Bool):Bool:=if h:e.ctorIdx=3 then FV.str.elim (motive_1:=λ_=>Bool) e h k else false
noncomputable def uT(e:FV)(k:List FV->Bool):Bool:=if h:e.ctorIdx=4 then FV.tup.elim (motive_1:=λ_=>Bool) e h k else false
noncomputable def uO(e:FV)(k:Nat->Bool):Bool:=if h:e.ctorIdx=9 then FV.obj.elim (motive_1:=λ_=>Bool) e h k else false
@[elab_as_elim] theorem uBi{P:FV->Prop}{e:FV}{k:Bool->Bool}(h:uB e k=true)(f:∀a,k a=true->P (.bool a)):P e:=if c:e.ctorIdx=1 then FV.bool.elim (motive_1:=λe=>uB e k=true->P e) e c f h else ff ((dif_neg c).symm.trans h)
@[elab_as_elim] theorem uIi{P:FV->Prop}{e:FV}{k:Int->Bool}(h:uI e k=true)(f:∀a,k a=true->P (.int a)):P e:=if c:e.ctorIdx=2 then FV.int.elim (motive_1:=λe=>uI e k=true->P e) e c f h else ff ((dif_neg c).symm.trans h)
@[elab_as_elim] theorem uSi{P:FV->Prop}{e:FV}{k:bB->Bool}(h:uS e k=true)(f:∀a,k a=true->P (.str a)):P e:=if c:e.ctorIdx=3 then FV.str.elim (motive_1:=λe=>uS e k=true->P e) e c f h else ff ((dif_neg c).symm.trans h)
@[elab_as_elim] theorem uTi{P:FV->Prop}{e:FV}{k:List FV->Bool}(h:uT e k=true)(f:∀a,k a=true->P (.tup a)):P e:=if c:e.ctorIdx=4 then FV.tup.elim (motive_1:=λe=>uT e k=true->P e) e c f h else ff ((dif_neg c).symm.trans h)
@[elab_as_elim] theorem uOi{P:FV->Prop}{e:FV}{k:Nat->Bool}(h:uO e k=true)(f:∀a,k a=true->P (.obj a)):P e:=if c:e.ctorIdx=9 then FV.obj.elim (motive_1:=λe=>uO e k=true->P e) e c f h else ff ((dif_neg c).symm.trans h)
mutual
def sj:FV->FV->Bool
 |.none,e=>c5 e.ctorIdx 0
 |.bool a,e=>uB e λb=>a==b
 |.int a,e=>uI e λb=>a==b
 |.str a,e=>uS e λb=>a==b
 |.obj a,e=>uO e λb=>a==b
 |.tup xs,e=>uT e λys=>uD xs ys
 |_,_=>false
def uD:List FV->List FV->Bool
 |[],ys=>ys.isEmpty
 |x::xs,ys=>ys.any (λ_=>true)&&sj x (ys.headD .none)&&uD xs ys.tail
end
@[elab_as_elim] theorem any_cons{α:Type}{l:List α}{P:List α->Prop}(h:l.any (λ_=>true)=true)(k:∀a r,P (a::r)):P l:=match l,h with|a::r,_=>k a r
mutual
theorem si:∀a b,sj a b=true->a=b
 |.none,e,h=>FV.none.elim (motive_1:=λe=>FV.none=e) e (bN h) rfl
 |.bool a,e,h=>uBi h λ_ h=>congrArg _ (eq_of_beq h)
 |.int a,e,h=>uIi h λ_ h=>congrArg _ (eq_of_beq h)
 |.str a,e,h=>uSi h λ_ h=>congrArg _ (eq_of_beq h)
 |.obj a,e,h=>uOi h λ_ h=>congrArg _ (eq_of_beq h)
 |.tup xs,e,h=>uTi h λ_ h=>congrArg _ (vn xs _ h)
 |.list _,_,h|.dict _,_,h|.set _,_,h|.inst _ _,_,h|.mB _ _,_,h|.range _ _ _,_,h|.well,_,h=>ff h
theorem vn:∀a b,uD a b=true->a=b
 |[],_,h=>l0 h rfl
 |x::xs,ys,h=>rT h λh0=>any_cons (P:=λys=>sj x (ys.headD .none)=true->uD xs ys.tail=true->x::xs=ys) h0 λy r h1 h2=>congr (congrArg _ (si x y h1)) (vn xs r h2)
end
def KX(x:bB)(d:FV):Bool:=(GT.lookup x).any λe=>sj d e
structure Sc where
 s:jF
 iU:Option bB
 lv:Nat
noncomputable def Ds(x:bB):Bool:=x !=("__debug__":bB)&&x !=("__classdict__":bB)
noncomputable def k0(e:af):Bool:= !c5 e.ctorIdx 16
noncomputable def qC(e:af):Bool:=c5 e.ctorIdx 8||c5 e.ctorIdx 10||c5 e.ctorIdx 9
noncomputable def notTuple(e:af):Bool:= !c5 e.ctorIdx 25
def jT(i:IE):Bool:=i.SO.any λd=>c5 d.ctorIdx 0
theorem lit_none{i:IE}(h:jT i=true):i=.lit .none:=oP h λ_ h1 h2=>IE.SN h1 (FV.vz (P:=λd=>IE.lit d=.lit .none) (bN h2) rfl)
def A7(e:af):Bool:=zb e λa b c _=>a.isNone&&b.isNone&&c.any λe=>rh e λo e _=>o==.USub&&pC e λc _ _=>c==.int 1
noncomputable def one{α:Type}(l:List α)(k:α->Bool):Bool:=match l with|[a]=>k a|_=>false
@[elab_as_elim] theorem pW{α:Type}{l:List α}{k:α->Bool}{P:List α->Prop}(h:one l k=true)(f:∀a,k a=true->P [a]):P l:=match l,h with|[a],h=>f a h
noncomputable def two{α:Type}(l:List α)(k:α->α->Bool):Bool:=match l with|[a,b]=>k a b|_=>false
@[elab_as_elim] theorem RH{α:Type}{l:List α}{k:α->α->Bool}{P:List α->Prop}(h:two l k=true)(f:∀a b,k a b=true->P [a,b]):P l:=match l,h with|[a,b],h=>f a b h
noncomputable def X_(n:Nat)(k:Nat->Bool):Bool:=match n with|m+1=>k m|0=>false
theorem RP{n:Nat}{k:Nat->Bool}(h:X_ n k=true)(f:∀m,n=m+1->k m=true->P):P:=match n,h,f with|m+1,h,f=>f m rfl h
@[elab_as_elim] theorem aaC{n:Nat}{P:Nat->Prop}(h:c5 n m=true)(k:P m):P n:=bN h▸k
def sY(sc:Sc)(ns:List bB)(k:Nat)(aX:List Nat):Bool:=(LT[k]?).any λf=>((f.names.drop (f.names.length-aX.length)).zip aX).all λp=>ns[p.2]?==some p.1&&(sc.s.names.lookup p.1==some .cell)
abbrev y5:=Nat->Arguments->FuncBody->jF->Nat->Bool
section
variable (lo:y5)
def vE(ns:List bB)(i:Nat)(x:bB):Bool:=ns[i]?==some x&&Ds x
mutual
def eB:IE->Sc->List bB->af->Bool
 |.var i,_,ns,e=>j_ e λx _=>vE ns i x
 |.lit d,_,_,e=>pC e λc _ _=>(uU c).any λd'=>sj d' d
 |.bc d,sc,_,e=>j_ e λx _=>sc.s.names.lookup x==some .globalImplicit&&KX x d&&x !=("__debug__":bB)
 |.bin op a b,sc,ns,e=>CM e λl o r _=>o==op&&eB a sc ns l&&eB b sc ns r
 |.un op a,sc,ns,e=>rh e λo x _=>o==op&&eB a sc ns x
 |.ig il,sc,ns,e=>uA e λo es _=>o==.And&&qF il sc ns es
 |.uG il,sc,ns,e=>uA e λo es _=>o==.Or&&qF il sc ns es
 |.cmp op a b,sc,ns,e=>ri e λl os rs _=>one os (λo=>o==op)&&eB a sc ns l&&one rs λr=>eB b sc ns r&&gV r
 |.chain o1 o2 a b c,sc,ns,e=>ri e λl os rs _=>two os (λp q=>p==o1&&q==o2)&&eB a sc ns l&&two rs λr1 r2=>eB b sc ns r1&&eB c sc ns r2&&gV r2
 |.ite t a b,sc,ns,e=>CL e λx y z _=>eB t sc ns x&&eB a sc ns y&&eB b sc ns z
 |.idx a i,sc,ns,e=>gT e λv s _=>eB a sc ns v&&eB i sc ns s&&gp s
 |.xw a l h,sc,ns,e=>gT e λv s _=>eB a sc ns v&&zb s λx y z _=>z.isNone&&x.elim (jT l) (λx=>eB l sc ns x)&&y.elim (jT h) λy=>eB h sc ns y
 |.rev a,sc,ns,e=>gT e λv s _=>eB a sc ns v&&A7 s
 |.attr a k,sc,ns,e=>gg e λv x _=>eB a sc ns v&&gA[k]?==some x&&decide (k<15)&&mJ v
 |.tup il,sc,ns,e=>oE e λes _ _=>qF il sc ns es&&decide (es.length<1000)
 |.lst _ il,sc,ns,e=>AD e λes _=>qF il sc ns es&&decide (es.length<1000)
 |.GO il,sc,ns,e=>RE e λes n _=>c5 n 0&&one es λx=>qF il sc ns [x]
 |.BZ,_,_,e=>Ja e λa b _=>a.isEmpty&&b.isEmpty
 |.vH a b,sc,ns,e=>AD e λes _=>two es λx y=>eB a sc ns x&&eB b sc ns y
 |.call f il,sc,ns,e=>rj e λg args kw _=>kw.isEmpty&&eB f sc ns g&&notAttr g&&qF il sc ns args
 |.bj b _ il,sc,ns,e=>rj e λg args kw _=>kw.isEmpty&&qF il sc ns args&&j_ g λx _=>sc.s.names.lookup x==some .globalImplicit&&x==b.word&&(GT.lookup x).isNone
 |.eg m o il,sc,ns,e=>rj e λg args kw pos=>kw.isEmpty&&qF il sc ns args&&gg g λv x p=>eB o sc ns v&&x==m.word&&mJ v&&p.endLine==pos.line&&decide (args.length<29)&&
   (match m with|.strip=>k0 v&&args.isEmpty|.count=>k0 v&&one args λ_=>true|.user _=>true)
 |.comp _ m aX it f6 il g,sc,ns,e=>pB e λelt gs dD _=>UC gs λc gs=>X_ sc.lv λlv=>(λiw=>c.is_async==0&&eB it sc ns c.iter&&gV c.iter&&i7 sc.s dD ns iw m aX&&cY iw c.target f6&&qF il ⟨dD,none,lv⟩ iw c.ifs&&(TQ g ⟨dD,none,lv⟩ iw gs elt&&gs.all (·.is_async==0))) (sV ns (K1 (c::gs)) aX)
 |.sU m aX it f6,sc,ns,e=>pB e λelt gs dD _=>AD elt λes _=>one gs λc=>X_ sc.lv λlv=>(λiw=>es.isEmpty&&(c.is_async==0&&c.ifs.isEmpty)&&eB it sc ns c.iter&&gV c.iter&&i7 sc.s dD ns iw m aX&&cY iw c.target [f6]) (sV ns (targetNames c.target) aX)
 |.rO _ m aX it f6 v,sc,ns,e=>sg e λke w gs dD _=>j_ ke λx _=>one gs λc=>X_ sc.lv λlv=>(λiw=>(c.is_async==0&&c.ifs.isEmpty)&&eB it sc ns c.iter&&gV c.iter&&i7 sc.s dD ns iw m aX&&cY iw c.target [f6]&&vE iw f6 x&&eB v ⟨dD,none,lv⟩ iw w) (sV ns (targetNames c.target) aX)
 |.lam k aX,sc,ns,e=>zc e λargs body dD _=>sc.iU==some ("<lambda>":bB)&&lo k args (.expr body) dD aX.length&&sY sc ns k aX
def qF:IL->Sc->List bB->List af->Bool
 |.nil,_,_,es=>es.isEmpty
 |.cons a il,sc,ns,es=>UC es λe es=>eB a sc ns e&&qF il sc ns es
def TQ:IG->Sc->List bB->List cP->af->Bool
 |.emit a,sc,ns,gs,elt=>gs.isEmpty&&eB a sc ns elt
 |.gen it f6 il g,sc,ns,gs,elt=>UC gs λc gs=>c.is_async==0&&eB it sc ns c.iter&&gV c.iter&&cY ns c.target f6&&qF il sc ns c.ifs&&TQ g sc ns gs elt
end
def z6(p:Path)(sc:Sc)(ns:List bB)(e:af):Bool:=match p with
 |.v i=>j_ e λx _=>vE ns i x
 |.at i a=>gT e λo j _=>j_ o λx _=>vE ns i x&&eB lo a sc ns j&&gp j
 |.fld i k=>gg e λo y _=>j_ o λx _=>vE ns i x&&gA[k]?==some y&&decide (k<15)
def LH(m:bB)(s:bU)(k:af->af->Bool):Bool:=wExpr s λe _=>rj e λf args kw pos=>kw.isEmpty&&one args λe=>gg f λo x p=>x==m&&p.endLine==pos.line&&k o e
@[elab_as_elim] theorem Xl{m:bB}{s:bU}{k:af->af->Bool}{P:bU->Prop}(h:LH m s k=true)(f:∀o e p pos pos',(p.endLine==pos.line)=true->k o e=true->P (.Expr (.Call (.Attribute o m p) [e] [] pos) pos')):P s:=
by
 exact QB h λe q h=>yB h λg as kw q2 h=>an h λh0 h=>l0 h0<|pW h λe h=>jV h λo x p h=>rT h λh1 h2 h3=>CD h1 (f o e p q2 q h2 h3)
mutual
def TP:IS->Sc->List bB->bU->Bool
 |.assign i a,sc,ns,s=>lY s λts e _=>one ts λt=>zz ns i t&&eB lo a sc ns e
 |.unpack is a,sc,ns,s=>lY s λts e _=>one ts λt=>oE t λes k p=>cY ns (.Tuple es k p) is&&eB lo a sc ns e&&notTuple e
 |.jm is il,sc,ns,s=>lY s λts e _=>one ts λt=>oE t λes k p=>oE e λvs _ _=>cY ns (.Tuple es k p) is&&decide is.Nodup&&qF lo il sc ns vs&&vs.length==es.length&&decide (vs.length<1000)&&(vs.all (constantsAlone 8)==false||vs.all (foldedForSure 8))
 |.fV q b a,sc,ns,s=>lY s λts e _=>one ts λt=>gT t λo i _=> !c5 q.ctorIdx 1&&z6 lo q sc ns o&&eB lo b sc ns i&&eB lo a sc ns e
 |.setAttr i k a,sc,ns,s=>lY s λts e _=>one ts λt=>gg t λo y _=>j_ o λx _=>vE ns i x&&gA[k]?==some y&&decide (k<15)&&eB lo a sc ns e
 |.append q a,sc,ns,s=>LH "append" s λo e=>z6 lo q sc ns o&&eB lo a sc ns e
 |.extend q a,sc,ns,s=>LH "extend" s λo e=>z6 lo q sc ns o&&eB lo a sc ns e
 |.add q a,sc,ns,s=>LH "add" s λo e=>z6 lo q sc ns o&&eB lo a sc ns e
 |.pop is single i,sc,ns,s=>lY s λts e _=>one ts λt=>rj e λf args kw p3=>gg f λo m p2=>j_ o λx _=>args.isEmpty&&kw.isEmpty&&m==("pop":bB)&&cY ns t is&&single==(is.length==1)&&vE ns i x&&p2.endLine==p3.line
 |.run a,sc,ns,s=>wExpr s λe _=>eB lo a sc ns e&& !qC e
 |.ite t x y,sc,ns,s=>Y7 s λe b o _=>eB lo t sc ns e&&wM x sc ns b&&wM y sc ns o
 |.while t x,sc,ns,s=>CK s λe b o _=>o.isEmpty&&eB lo t sc ns e&&wM x sc ns b
 |.for is a x,sc,ns,s=>M6 s λt i b o _=>o.isEmpty&&cY ns t is&&eB lo a sc ns i&&gV i&&wM x sc ns b
 |.kS i j a x,sc,ns,s=>M6 s λt c b o _=>oE t λes k p=>rj c λf args kw _=>j_ f λf _=>one args λe=>(o.isEmpty&&kw.isEmpty)&&f==aa "enumerate"&&cY ns (.Tuple es k p) [i,j]&&sc.s.names.lookup f==some .globalImplicit&&eB lo a sc ns e&&wM x sc ns b
 |.ret a,sc,ns,s=>y_ s λe _=>e.elim (jT a) λe=>eB lo a sc ns e
 |.cont,_,_,s=>sf s λ_=>true
 |.fail,_,_,_=>true
 |.fz _,_,_,_=>false
 |.lock _,_,_,_=>false
 |.defn i k aX,sc,ns,s=>nh s λname args body Xi ret tps dD sc3 Qw _=>(Xi.isEmpty&&ret.isNone&&tps.isEmpty&&sc3.isNone)&&Qw==name&&sc.iU==some name&&lo k args (.stmts body) dD aX.length&&sY sc ns k aX&&ns[i]?==some name
def wM:IB->Sc->List bB->List bU->Bool
 |.nil,_,_,ss=>ss.isEmpty
 |.cons s r,sc,ns,ss=>s.fz?.elim (s.Kn.elim (UC ss λst ss=>TP s sc ns st&&wM r sc ns ss) λaX=>
   (aX.all λi=>(ns[i]?).any λx=>sc.s.names.lookup x==some .cell)&&wM r sc ns ss) λ_=>wM r sc ns ss
end
def uV(sc:Sc)(ns:List bB)(fb:FuncBody)(b:Body):Bool:=match b with
 |.stmts ib=>(match fb with|.stmts ss=>wM lo ib sc ns ss|.expr _=>false)
 |.expr ie=>(match fb with|.expr e=>eB lo ie sc ns e|.stmts _=>false)
end
noncomputable def Wf:y5:=λ_ _ _ _ _=>false
def Bu:y5:=λk args fb dD n=>(LT[k]?).any λf=>f.dflt.isEmpty&&jS args f&&args.defaults.isEmpty&&args.kw_defaults.isEmpty&&rN dD f n&&uV Wf ⟨dD,none,4⟩ f.names fb f.body
def Ky:Option bB->y5
 |some _=>Bu
 |none=>Wf
structure CF(f:bw)(aX:Nat)(iU:Option bB)(fd:iX):Prop where
 params:jS fd.params f=true
 scope:rN fd.scope f aX=true
 body:uV (Ky iU) ⟨fd.scope,iU,4⟩ f.names fd.body f.body=true
variable{sc:Sc}
structure Cx where
 w:gK
 B:eu
 mg:bB->Option aB
 mb:bB->Option aB
 tabs:List (aO×aO)
 K:Frag
 tq:aO->bB
abbrev pw:Program:=Ug
abbrev Cx.M(C:Cx):Model:=model pw C.w
noncomputable def gi(m:Nat):Array Nat:=((ae 8).filter m.testBit).toArray
def tabOf(m:Nat)(led:Bool):SetTable:=⟨7,gi m,#[],0,led,0,true⟩
noncomputable def eX(w:gK):Bool:= !(w.params.followText "set-order")
def mc(w:gK)(h:eu)(a:aO):Prop:=∃o es ep m,h.get? a=some o/\o.data=.set es ep (tabOf m (eX w))/\m<256/\es.size<=4
theorem mc.at_{w:gK}(e:∀o,h.get? a=some o->h'.get? a=some o)(x:mc w h a):mc w h' a:=let⟨o,es,ep,m,q,r⟩:=x;⟨o,es,ep,m,e _ q,r⟩
set_option genInjectivity true in
inductive Role where
 |loc|cell (x:bB)|own (i k:Nat)|kj
 deriving DecidableEq
structure Gh where
 F:aO->Option jY
 aw:Option aO
structure Ext(G G':Gh):Prop where
 f:∀a o,G.F a=some o->G'.F a=some o
 a:∀a,G.aw=some a->G'.aw=some a
theorem Ext.refl(G:Gh):Ext G G:=⟨λ_ _ h=>h,λ_ h=>h⟩
theorem Ext.trans{G G' ES:Gh}(x:Ext G G')(y:Ext G' ES):Ext G ES:=⟨λa o h=>y.f a o (x.f a o h),λa h=>y.a a (x.a a h)⟩
def y8(G:Gh)(h:eu):Prop:=∀a o,G.F a=some o->h.get? a=some o
def mW(F:aO->Option jY)(cv:aB)(q:bB):Prop:=∃c o vs t,cv=.ref c/\F c=some o/\o.data=.fields vs/\vs[1]?=some (.str q t)
theorem mW.recIn{G:Gh}{q:bB}(x:mW G.F cv q)(b:y8 G h):h.CodeRec cv q:=
 jG x λc o vs t x=>fA x λe f d r=>⟨c,o,vs,t,e,b _ _ f,d,r⟩
theorem mW.mono{F':aO->Option jY}{q:bB}(x:mW F cv q)(k:∀a o,F a=some o->F' a=some o):mW F' cv q:=
 jG x λc o vs t x=>jP x λe f r=>⟨c,o,vs,t,e,k _ _ f,r⟩
def attrName(k:Nat):bB:=gA.getD k (aa "?")
abbrev ik(C:Cx):=intKind pw C.w
structure FnAt(C:Cx)(F:aO->Option jY)(a:aO)(f:bw)(vs:List aB)(fd:iX):Prop where
 obj:∃o,F a=some o/\o.data=.func fd
 cf:∃iU,CF f vs.length iU fd/\∀nm,iU=some nm->∃c P,fd.code=.ref c/\(c,P)∈C.tabs/\fd.qualname++".<locals>."++nm=C.tq P
 glob:fd.globals=bM
 bi:fd.builtins=dq
 code:mW F fd.code fd.qualname
 TO:∀(j:Nat)(x:bB),(f.names.drop (f.names.length-vs.length))[j]?=some x->∃(c:aO)(o:jY)(v:aB),fd.closure.lookup x=some c/\F c=some o/\o.data=.cell (some v)/\vs[j]?=some v
 Sx:vs=[]->fd.closure=[]
theorem FnAt.mono{C:Cx}{F':aO->Option jY}(x:FnAt C F a f vs fd)(k:∀a o,F a=some o->F' a=some o):FnAt C F' a f vs fd:=
 ⟨let⟨o,e,r⟩:=x.obj;⟨o,k _ _ e,r⟩,x.cf,x.glob,x.bi,x.code.mono k,λj y hy=>let⟨c,o,v,e1,e2,r⟩:=x.TO j y hy;⟨c,o,v,e1,k _ _ e2,r⟩,x.Sx⟩
def KeysAre:List b0->List Nat->Prop
 |[],[]=>True
 |e::r,k::r'=>(∃t,e.key=.str (attrName k) t)/\k<15/\KeysAre r r'
 |_,_=>False
mutual
inductive Rep(C:Cx)(G:Gh):aB->FV->Prop
 |none:Rep C G .none .none
 |bool (b:Bool):Rep C G (.bool b) (.bool b)
 |int (i:Int) (t:Tok):Rep C G (.int i t) (.int i)
 |str (x:bB) (t:Tok):Rep C G (.str x t) (.str x)
 |tup {a:aO} {vs:List aB} {n:Nat} {xs:List FV}:G.F a=some {cls:=.type "tuple",data:=.seq vs.toArray n}->bA C G vs xs->Rep C G (.ref a) (.tup xs)
 |list {a:aO} {vs:List aB} {n:Nat} {xs:List FV}:G.F a=some {cls:=.type "list",data:=.seq vs.toArray n}->bA C G vs xs->Rep C G (.ref a) (.list xs)
 |dict {a:aO} {o:jY} {f:Int->Option aB} {vs:List aB} {es:List (Int×FV)}:G.F a=some o->(∀h:eu,h.get? a=some o->h.MapOf (ik C) a f)->(a==sysModules)=false->
   bA C G vs (es.map (·.2))->(∀k,f k=((es.map (·.1)).zip vs).lookup k)->Rep C G (.ref a) (.dict es)
 |set {a:aO} {o:jY} {xs:List Int}:G.F a=some o->(∀h:eu,h.get? a=some o->h.SetOf (ik C) a (λk=>xs.contains k) xs.length)->Rep C G (.ref a) (.set xs)
 |inst {x dx:aO} {c:Nat} {i5:List b0} {n:Nat} {fs:List (Nat×FV)}:(CT c).isSome=true->G.F x=some (instObj c dx)->G.F dx=some (dictOf i5 n)->
   bA C G (i5.map (·.val)) (fs.map (·.2))->KeysAre i5 (fs.map (·.1))->Rep C G (.ref x) (.inst c fs)
 |obj {a:aO} {o:jY}:C.B.get? a=some o->Rep C G (.ref a) (.obj a)
 |mB {a:aO} {k:Nat} {f:bw} {fd:iX} {vs:List aB} {aX:List FV}:LT[k]?=some f->f.dflt=[]->fd.defaults=.none->FnAt C G.F a f vs fd->bA C G vs aX->Rep C G (.ref a) (.mB k aX)
 |range {a:aO} {lo hi st:Int} {t u v:Tok}:G.F a=some {cls:=.type "range",dict:=none,data:=.fields #[.int lo t,.int hi u,.int st v],slots:=#[]}->Rep C G (.ref a) (.range lo hi st)
 |well {a:aO}:G.aw=some a->Rep C G (.ref a) .well
inductive bA(C:Cx)(G:Gh):List aB->List FV->Prop
 |nil:bA C G [] []
 |cons {v:aB} {d:FV} {vs:List aB} {ds:List FV}:Rep C G v d->bA C G vs ds->bA C G (v::vs) (d::ds)
end
section
variable {C:Cx}{G G':Gh}{es:List FV}
@[elab_as_elim] theorem bA.ind{P:List aB->List FV->Prop}(h:bA C G vs ds)(h0:P [] [])(h1:∀v d vs ds,Rep C G v d->bA C G vs ds->P vs ds->P (v::vs) (d::ds)):P vs ds:=
  bA.rec (motive_1:=λ_ _ _=>True) (motive_2:=λvs ds _=>P vs ds) trivial (λ_=>trivial) (λ_ _=>trivial) (λ_ _=>trivial) (λ_ _ _=>trivial) (λ_ _ _=>trivial) (λ_ _ _ _ _ _=>trivial) (λ_ _=>trivial) (λ_ _ _ _ _ _=>trivial) (λ_=>trivial) (λ_ _ _ _ _ _=>trivial) (λ_=>trivial) (λ_=>trivial)
   h0 (λa r _ i=>h1 _ _ _ _ a r i) h
def XA(C:Cx)(G:Gh):List aB->List FV->Prop
 |[],ds=>ds=[]
 |v::vs,ds=>∃d r,ds=d::r/\Rep C G v d/\bA C G vs r
theorem bA.inv(h:bA C G vs ds):XA C G vs ds:=h.ind rfl λ_ _ _ _ a r _=>⟨_,_,rfl,a,r⟩
@[elab_as_elim] theorem bA.rP{P:List aB->Prop}(h:bA C G vs (d::ds))(k:∀v vs,Rep C G v d->bA C G vs ds->P (v::vs)):P vs:=match vs,h.inv with
  |[],e=>nomatch e
  |v::vs,e=>cM e λ_ _ e a b=>k v vs ((aK e).1▸a) ((aK e).2▸b)
theorem bA.both(h:bA C G (v::vs) (d::ds)):Rep C G v d/\bA C G vs ds:=cM h.inv λ_ _ e a b=>⟨(aK e).1▸a,(aK e).2▸b⟩
theorem bA.length(h:bA C G vs ds):vs.length=ds.length:=h.ind rfl λ_ _ _ _ _ _ e=>congrArg (·+1) e
theorem bA.get(h:bA C G vs ds)(e:ds[i]?=some d):∃v,vs[i]?=some v/\Rep C G v d:=
 h.ind (P:=λvs ds=>∀i,ds[i]?=some d->∃v,vs[i]?=some v/\Rep C G v d) (λ_ e=>nn e) (λ_ _ _ _ a _ ih i=>match i with
  |0=>λe=>⟨_,rfl,ag e▸a⟩
  |i+1=>ih i) i e
theorem bA.append(h:bA C G vs ds)(k:bA C G us es):bA C G (vs++us) (ds++es):=h.ind k λ_ _ _ _ a _ ih=>.cons a ih
theorem bA.one(h:Rep C G v d):bA C G [v] [d]:=.cons h .nil
theorem bA.set(i:Nat)(h:bA C G vs ds)(k:Rep C G v d):bA C G (vs.set i v) (ds.set i d):=
 h.ind (P:=λvs ds=>∀i,bA C G (vs.set i v) (ds.set i d)) (λ_=>.nil) (λ_ _ _ _ a r ih i=>match i with
  |0=>.cons k r
  |i+1=>.cons a (ih i)) i
theorem bA.take(n:Nat)(h:bA C G vs ds):bA C G (vs.take n) (ds.take n):=
 h.ind (P:=λvs ds=>∀n,bA C G (vs.take n) (ds.take n)) (λn=>match n with|0=>.nil|_+1=>.nil) (λ_ _ _ _ a _ ih n=>match n with
  |0=>.nil
  |n+1=>.cons a (ih n)) n
theorem bA.dropLast(h:bA C G vs ds):bA C G vs.dropLast ds.dropLast:=by
 exact eW EP<|eW EP<|eW h.length<|h.take _
theorem bA.drop(n:Nat)(h:bA C G vs ds):bA C G (vs.drop n) (ds.drop n):=
 h.ind (P:=λvs ds=>∀n,bA C G (vs.drop n) (ds.drop n)) (λn=>match n with|0=>.nil|_+1=>.nil) (λ_ _ _ _ a r ih n=>match n with
  |0=>.cons a r
  |n+1=>ih n) n
theorem bA.reverse(h:bA C G vs ds):bA C G vs.reverse ds.reverse:=
 h.ind .nil λ_ _ _ _ a _ ih=>dX.symm▸dX.symm▸ih.append (.one a)
theorem Bn(k:Ext G G'):(∀{v:aB}{d:FV},Rep C G v d->Rep C G' v d)/\∀{vs:List aB}{ds:List FV},bA C G vs ds->bA C G' vs ds:=
 have f:∀{v:aB}{d:FV},Rep C G v d->Rep C G' v d:=λh=>Rep.rec (motive_1:=λv d _=>Rep C G' v d) (motive_2:=λvs ds _=>bA C G' vs ds) .none .bool .int .str (λa _ r=>.tup (k.f _ _ a) r) (λa _ r=>.list (k.f _ _ a) r) (λa b c _ e r=>.dict (k.f _ _ a) b c r e)
  (λa b=>.set (k.f _ _ a) b) (λz a b _ e r=>.inst z (k.f _ _ a) (k.f _ _ b) r e) .obj (λa b c d _ r=>.mB a b c (d.mono k.f) r) (λa=>.range (k.f _ _ a)) (λa=>.well (k.a _ a)) .nil (λ_ _ a r=>.cons a r) h
 ⟨f,λh=>h.ind .nil λ_ _ _ _ a _ ih=>.cons (f a) ih⟩
theorem Rep.mono(k:Ext G G')(h:Rep C G v d):Rep C G' v d:=(Bn k).1 h
theorem bA.mono(k:Ext G G')(h:bA C G vs ds):bA C G' vs ds:=(Bn k).2 h
def XB(C:Cx)(G:Gh)(v:aB):FV->Prop
 |.none=>v=.none
 |.bool b=>v=.bool b
 |.int i=>∃t,v=.int i t
 |.str x=>∃t,v=.str x t
 |.tup xs=>∃a vs n,v=.ref a/\G.F a=some {cls:=.type "tuple",data:=.seq vs.toArray n}/\bA C G vs xs
 |.list xs=>∃a vs n,v=.ref a/\G.F a=some {cls:=.type "list",data:=.seq vs.toArray n}/\bA C G vs xs
 |.dict es=>∃a f vs,v=.ref a/\(∃o,G.F a=some o/\∀h:eu,h.get? a=some o->h.MapOf (ik C) a f)/\(a==sysModules)=false/\bA C G vs (es.map (·.2))/\∀k,f k=((es.map (·.1)).zip vs).lookup k
 |.set xs=>∃a,v=.ref a/\∃o,G.F a=some o/\∀h:eu,h.get? a=some o->h.SetOf (ik C) a (λk=>xs.contains k) xs.length
 |.inst c fs=>∃x dx i5 n,v=.ref x/\(CT c).isSome=true/\G.F x=some (instObj c dx)/\G.F dx=some (dictOf i5 n)/\bA C G (i5.map (·.val)) (fs.map (·.2))/\KeysAre i5 (fs.map (·.1))
 |.obj a=>v=.ref a/\∃o,C.B.get? a=some o
 |.mB k aX=>∃a f fd vs,v=.ref a/\LT[k]?=some f/\f.dflt=[]/\fd.defaults=.none/\FnAt C G.F a f vs fd/\bA C G vs aX
 |.range lo hi st=>∃a t u w,v=.ref a/\G.F a=some {cls:=.type "range",dict:=none,data:=.fields #[.int lo t,.int hi u,.int st w],slots:=#[]}
 |.well=>∃a,v=.ref a/\G.aw=some a
theorem Rep.inv(h:Rep C G v d):XB C G v d:=
 Rep.casesOn (motive_1:=λv d _=>XB C G v d) h rfl (λ_=>rfl) (λ_ t=>⟨t,rfl⟩) (λ_ t=>⟨t,rfl⟩) (λa r=>⟨_,_,_,rfl,a,r⟩) (λa r=>⟨_,_,_,rfl,a,r⟩) (λa b c r e=>⟨_,_,_,rfl,⟨_,a,b⟩,c,r,e⟩) (λa b=>⟨_,rfl,_,a,b⟩)
  (λz a b r e=>⟨_,_,_,_,rfl,z,a,b,r,e⟩) (λa=>⟨rfl,_,a⟩) (λa b c d r=>⟨_,_,_,_,rfl,a,b,c,d,r⟩) (λa=>⟨_,_,_,_,rfl,a⟩) (λa=>⟨_,rfl,a⟩)
end
def eQ(C:Cx)(G:Gh)(a:aO):Prop:=(∀q∈C.tabs,q.2≠a)/\G.aw≠some a
def dJ(C:Cx)(G:Gh)(O:aO->Option Role)(h:eu)(r:Option Role)(v:aB)(o:OB):Prop:=
 ∃a,v=.ref a/\O a=r/\eQ C G a/\G.F a=none/\match o with
  |.list xs=>∃vs n,h.get? a=some {cls:=.type "list",data:=.seq vs n}/\bA C G vs.toList xs
  |.dict es=>(a==sysModules)=false/\∃f vs,h.MapOf (ik C) a f/\bA C G vs (es.map (·.2))/\(∀k,f k=((es.map (·.1)).zip vs).lookup k)/\h.DictLe a es.length/\(es.map (·.1)).Nodup
  |.set xs=>h.SetOf (ik C) a (λk=>xs.contains k) xs.length/\xs.Nodup/\mc C.w h a
def f5(C:Cx)(G:Gh)(O:aO->Option Role)(h:eu)(r:Option Role)(v:aB):OF->Prop
 |.fv d=>Rep C G v d
 |.ob o=>dJ C G O h r v o
def gv(C:Cx)(G:Gh)(O:aO->Option Role)(h:eu)(ρ:Nat->Option Role):Nat->List aB->List (List FV)->Prop
 |_,[],[]=>True
 |k,v::vs,xs::r=>dJ C G O h (ρ k) v (.list xs)/\gv C G O h ρ (k+1) vs r
 |_,_,_=>False
def f_(C:Cx)(G:Gh)(O:aO->Option Role)(h:eu)(ρ:Nat->Option Role):List b0->List (Nat×OF)->Prop
 |[],[]=>True
 |e::r,(k,x)::r'=>(∃t,e.key=.str (attrName k) t)/\k<15/\f5 C G O h (ρ (k+2)) e.val x/\f_ C G O h ρ r r'
 |_,_=>False
@[elab_as_elim] theorem gv.ind{C:Cx}{G:Gh}{O:aO->Option Role}{ρ:Nat->Option Role}{P:Nat->List aB->List (List FV)->Prop}(y:gv C G O h ρ k vs iH)(h0:∀k,P k [] [])
   (h1:∀k v vs xs r,dJ C G O h (ρ k) v (.list xs)->gv C G O h ρ (k+1) vs r->P (k+1) vs r->P k (v::vs) (xs::r)):P k vs iH:=
  l2 (P:=λvs iH=>∀k,gv C G O h ρ k vs iH->P k vs iH) vs iH (λk _=>h0 k) (λv vs xs r ih k y=>h1 k v vs xs r y.1 y.2 (ih (k+1) y.2)) (λ_ _ _ y=>dW y) (λ_ _ _ y=>dW y) k y
@[elab_as_elim] theorem f_.ind{C:Cx}{G:Gh}{O:aO->Option Role}{ρ:Nat->Option Role}{P:List b0->List (Nat×OF)->Prop}{es:List b0}(y:f_ C G O h ρ es fs)(h0:P [] [])
   (h1:∀e es p fs,(∃t,e.key=.str (attrName p.1) t)->p.1<15->f5 C G O h (ρ (p.1+2)) e.val p.2->f_ C G O h ρ es fs->P es fs->P (e::es) (p::fs)):P es fs:=
  l2 (P:=λes fs=>f_ C G O h ρ es fs->P es fs) es fs (λ_=>h0) (λe es p fs ih y=>h1 e es p fs y.1 y.2.1 y.2.2.1 y.2.2.2 (ih y.2.2.2)) (λ_ _ y=>dW y) (λ_ _ y=>dW y) y
noncomputable def nZ:Nat:=1073741824
def dO(C:Cx)(G:Gh)(O:aO->Option Role)(h:eu)(ρ:Nat->Option Role)(v:aB):OT->Prop
 |.ob o=>dJ C G O h (ρ 0) v o
 |.gr iH=>∃a vs n,v=.ref a/\O a=ρ 0/\eQ C G a/\G.F a=none/\h.get? a=some {cls:=.type "list",data:=.seq vs n}/\gv C G O h ρ 1 vs.toList iH
 |.inst c fs=>(CT c).isSome=true/\∃a d i5 n,v=.ref a/\O a=ρ nZ/\eQ C G a/\G.F a=none/\h.get? a=some (instObj c d)/\O d=ρ 1/\eQ C G d/\G.F d=none/\d≠a/\h.get? d=some (dictOf i5 n)/\f_ C G O h ρ i5 fs/\(fs.map (·.1)).Nodup
def cT(C:Cx)(G:Gh)(O:aO->Option Role)(h:eu)(i:Nat):Slot->Option aB->Prop
 |.unset,ov=>ov=none
 |.val d,ov=>∃v,ov=some v/\Rep C G v d
 |.ro d,ov=>∃v,ov=some v/\Rep C G v d
 |.own t,ov=>∃v,ov=some v/\dO C G O h (λk=>some (.own i k)) v t
 |.bor t,ov=>∃v,ov=some v/\dO C G O h (λ_=>some .kj) v t
def gH(C:Cx)(G:Gh)(h:eu):Option aO->WL->Prop
 |some a,some ds=>G.F a=none/\∃vs n,h.get? a=some {cls:=.type "list",data:=.seq vs n}/\bA C G vs.toList ds
 |none,none=>True
 |_,_=>False
structure bz(C:Cx)(G:Gh)(wl:WL)(h:eu):Prop where
 sub:y8 G h
 base:∀a o,C.B.get? a=some o->G.F a=some o
 tabs:∀q∈C.tabs,G.F q.2=none/\G.aw≠some q.2/\∃ps,h.get? q.2=some (tabObj ps)/\TriplesOk ps.toList/\∀pos cv,codeAmong pos ps.toList=some cv->mW G.F cv (C.tq q.2)
 well:gH C G h G.aw wl
structure cJ(C:Cx)(G:Gh)(O:aO->Option Role)(sc:Sc)(ns:List bB)(env:qZ)(fr:List Slot)(h:eu):Prop where
 fn:env.scope.kind=.function
 glob:env.globals=bM
 bi:env.builtins=dq
 nodup:ns.Nodup
 len:fr.length=ns.length
 iN:∀a r,O a=some r->G.F a=none/\eQ C G a/\∃o,h.get? a=some o
 gl:∀x,sc.s.names.lookup x=some .globalImplicit->env.kindOf x=some .globalImplicit
 cl:∀x,(sc.s.names.lookup x==some .cell||sc.s.names.lookup x==some .free)=true->env.kindOf x=some .cell\/env.kindOf x=some .free
 lN:O env.locals=some .loc
 loc:∃m,h.Ns env.locals m/\∀i x s,ns[i]?=some x->fr[i]?=some s->env.kindOf x=some .local->cT C G O h i s (m x)
 pY:∀i x s,ns[i]?=some x->fr[i]?=some s->env.kindOf x≠some .local->(env.kindOf x=some .cell\/env.kindOf x=some .free)/\
  ∃c ov,env.cells.lookup x=some c/\h.IsCell c ov/\cT C G O h i s ov/\O c=(if s.writable then some (.cell x)else none)/\eQ C G c/\(s.writable=true->env.kindOf x=some .cell)
 iU:∀nm,sc.iU=some nm->∃c P,env.code=.ref c/\(c,P)∈C.tabs/\env.qual++nm=C.tq P
 code:env.code=.none\/∃q,mW G.F env.code q
 ro:sc.iU.isSome=true->∀(i:Nat)(x:bB)(d:FV),ns[i]?=some x->fr[i]?=some (.ro d)->∃c o,env.cells.lookup x=some c/\G.F c=some o
def Dflts(B:eu)(fd:iX)(vs:List aB):Prop:=
 (fd.defaults=.none/\vs=[])\/∃T o n,fd.defaults=.ref T/\B.get? T=some o/\o.data=.seq vs.toArray n
structure Base(C:Cx):Prop where
 QA:C.K.In C.B
 wK:∀c,(CT c).isSome=true->findIn C.K (.ref c) "__getattribute__"=some (some (.builtin "object.__getattribute__"))/\findIn C.K (.ref c) "__getattr__"=some none/\hasDictIn C.K c=true
 LD:∀c,(CT c).isSome=true->findIn C.K (.ref c) "__setattr__"=some (some (.builtin "object.__setattr__"))/\plainOver C.K c=true
 F7:∀c k,(CT c).isSome=true->k<15->takerIn C.K c (attrName k)=some none
 z5:∀c k,(CT c).isSome=true->k<15->∃attr,findIn C.K (.ref c) (attrName k)=some attr/\noGet C.K attr=true
 eg:∀c k f,oU c k=some f->findIn C.K (.ref c) (attrName k)=some (some (.ref f))/\typeIn C.K (.ref f)=some (.type "function")/\∃o,C.B.get? f=some o
 fn:∀a f,FT a=some f->∃fd vs,FnAt C C.B.get? a f [] fd/\(∀G,(∀b o,C.B.get? b=some o->G.F b=some o)->bA C G vs f.dflt)/\Dflts C.B fd vs/\f.dflt.length<=f.params
 cls:∀a f,CT a=some f->makesIn C.K a=true/\keepIn C.K (.ref a)=true/\(∃o,C.B.get? a=some o)/\
  ∃i fd vs,findIn C.K (.ref a) "__init__"=some (some (.ref i))/\typeIn C.K (.ref i)=some (.type "function")/\FnAt C C.B.get? i f [] fd/\(∀G,(∀b o,C.B.get? b=some o->G.F b=some o)->bA C G vs f.dflt)/\Dflts C.B fd vs/\f.dflt.length<=f.params
 g:C.B.Ns bM C.mg
 b:C.B.Ns dq C.mb
 nolimit:C.B.NoLimit
 gt:∀x d,GT.lookup x=some d->∃v,C.mg x=some v/\∀G:Gh,(∀b o,C.B.get? b=some o->G.F b=some o)->Rep C G v d
 free:∀b:BI,GT.lookup b.word=none->C.mg b.word=none
 bi:∀b:BI,C.mb b.word=some b.val
 enum:C.mg (aa "enumerate")=none/\C.mb (aa "enumerate")=some (.type "enumerate")
 hd:∀q∈C.tabs,CodeHd C.B q.1 q.2
 bm:∃bm o,C.mg "__builtins__"=some (.ref bm)/\bm≠dq/\bm≠bM/\C.B.get? bm=some o/\o.cls=.type "module"/\o.dict=some dq/\o.data=.plain
 nod:C.tabs.Pairwise (λp q=>p.2≠q.2)
 tg:∀q∈C.tabs,C.B.get? q.2=none
structure Mg(k d:Nat)(A:fF):Prop where
 handled:A.handled=none
 depth:A.depth+8*k+d+20<900
 units:A.units+24*k+3*d+60<9000
structure Step(C:Cx)(G G':Gh)(s s':aN):Prop where
 ext:Ext G G'
 keep:∀a o,eQ C G a->s.heap.get? a=some o->s'.heap.get? a=some o
 alive:∀a o,s.heap.get? a=some o->∃o',s'.heap.get? a=some o'
 lx:∀a o,G'.F a=some o->G.F a=some o\/s.heap.get? a=none
 kC:∀a,G'.aw=some a->G.aw=some a\/s.heap.get? a=none
 gens:s'.gens=s.gens
 os:s'.os=s.os
theorem Step.refl(C:Cx)(G:Gh)(s:aN):Step C G G s s:=⟨.refl G,λ_ _ _ e=>e,λ_ o e=>⟨o,e⟩,λ_ _ e=>.inl e,λ_ e=>.inl e,rfl,rfl⟩
theorem Step.tok(C:Cx)(G:Gh)(s:aN)(t:Nat):Step C G G s {s with toks:=t}:=⟨.refl G,λ_ _ _ e=>e,λ_ o e=>⟨o,e⟩,λ_ _ e=>.inl e,λ_ e=>.inl e,rfl,rfl⟩
variable{r:Option Role}{C:Cx}{G G' ES G1 G2:Gh}{O O' bq O'' O0:aO->Option Role}{ρ:Nat->Option Role}
theorem Oc{u:Unit}(h:Dr wl=some u):wl=none:=match wl,h with|none,_=>rfl
theorem lz{f:Int->Option aB}(e:∀o,h.get? a=some o->h'.get? a=some o)(x:h.MapOf (ik C) a f):h'.MapOf (ik C) a f:=j9 x λo es ep ho r=>⟨o,es,ep,e _ ho,r⟩
theorem oI{f:Int->Bool}{n:Nat}(e:∀o,h.get? a=some o->h'.get? a=some o)(x:h.SetOf (ik C) a f n):h'.SetOf (ik C) a f n:=m7 x λo es ep t ho r=>⟨o,es,ep,t,e _ ho,r⟩
theorem lh{n:Nat}{Zr:jY}(e:∀o,h.get? a=some o->h'.get? a=some o)(h0:h.get? a=some Zr)(x:h.DictLe a n):h'.DictLe a n:=
 λo es ep ho hd=>x o es ep (h0.trans ((e _ h0).symm.trans ho)) hd
theorem fY{f:Int->Option aB}(x:h.MapOf (ik C) a f):∃o,h.get? a=some o:=j9 x λo _ _ ho _=>⟨o,ho⟩
theorem mH{f:Int->Bool}{n:Nat}(x:h.SetOf (ik C) a f n):∃o,h.get? a=some o:=m7 x λo _ _ _ ho _=>⟨o,ho⟩
theorem gone{α:Type}{x:Option α}{a:α}(h:x=none)(e:x=some a):P:=nn (h.symm.trans e)
theorem none_of{α β:Type}{x:Option α}{y:Option β}(k:∀a,x=some a->∃b,y=some b)(h:y=none):x=none:=match x,k with
 |none,_=>rfl
 |some a,k=>xE (k a rfl) λ_ e=>gone h e
theorem Step.trans(x:Step C G G' s s')(y:Step C G' ES s' qm):Step C G ES s qm where
 ext:=x.ext.trans y.ext
 keep:=λa o f e=>y.keep a o ⟨f.1,λq=>(x.kC a q).elim f.2 λq=>gone q e⟩ (x.keep a o f e)
 alive:=λa o e=>xE (x.alive a o e) (y.alive a)
 lx:=λa o e=>(y.lx a o e).elim (x.lx a o) λq=>.inr (none_of (x.alive a) q)
 kC:=λa e=>(y.kC a e).elim (x.kC a) λq=>.inr (none_of (x.alive a) q)
 gens:=y.gens.trans x.gens
 os:=y.os.trans x.os
theorem Step.free(x:Step C G G' s s')(f:eQ C G a){o:jY}(e:s.heap.get? a=some o):eQ C G' a:=⟨f.1,λq=>(x.kC a q).elim f.2 λq=>gone q e⟩
theorem Step.An(x:Step C G G' s s')(f:G.F a=none){o:jY}(e:s.heap.get? a=some o):G'.F a=none:=
 none_of (y:=(none:Option jY)) (λo' q=>(x.lx a o' q).elim (gone f) λq=>gone q e) rfl
theorem Step.at_(x:Step C G G' s s')(f:eQ C G a):∀o,s.heap.get? a=some o->s'.heap.get? a=some o:=λo e=>x.keep a o f e
theorem dJ.step(x:Step C G G' s s'){o:OB}(y:dJ C G O s.heap r v o):dJ C G' O s'.heap r v o:=
 m8 y λa hv hO lC hF c=>match o,c with
  |.list xs,c=>gf c λvs n e q=>⟨a,hv,hO,x.free lC e,x.An hF e,vs,n,x.keep _ _ lC e,q.mono x.ext⟩
  |.dict es,c=>Ay c λhs f vs e q1 q2 q3 q4=>xE (fY e) λo ho=>⟨a,hv,hO,x.free lC ho,x.An hF ho,hs,f,vs,lz (x.at_ lC) e,q1.mono x.ext,q2,lh (x.at_ lC) ho q3,q4⟩
  |.set xs,c=>xE (mH c.1) λo ho=>⟨a,hv,hO,x.free lC ho,x.An hF ho,oI (x.at_ lC) c.1,c.2.1,c.2.2.at_ (x.at_ lC)⟩
theorem gv.step(x:Step C G G' s s')(y:gv C G O s.heap ρ k vs iH):gv C G' O s'.heap ρ k vs iH:=y.ind (λ_=>trivial) λ_ _ _ _ _ a _ ih=>⟨a.step x,ih⟩
theorem f5.step(x:Step C G G' s s'){o:OF}(y:f5 C G O s.heap r v o):f5 C G' O s'.heap r v o:=match o,y with
 |.fv d,y=>Rep.mono x.ext y
 |.ob o,y=>dJ.step x y
theorem f_.step(x:Step C G G' s s'){es:List b0}(y:f_ C G O s.heap ρ es fs):f_ C G' O s'.heap ρ es fs:=y.ind trivial λ_ _ _ _ a b c _ ih=>⟨a,b,c.step x,ih⟩
theorem dO.step(x:Step C G G' s s')(y:dO C G O s.heap ρ v t):dO C G' O s'.heap ρ v t:=match t,y with
 |.ob o,y=>dJ.step x y
 |.gr iH,y=>fR y λa vs n hv hO lC hF e q=>⟨a,vs,n,hv,hO,x.free lC e,x.An hF e,x.keep _ _ lC e,q.step x⟩
 |.inst c fs,y=>xA y λhc y=>jG y λa d i5 n y=>iS y λhv hO lC hF e y=>uy y λuM O5 QQ BL ed q hn=>
  ⟨hc,a,d,i5,n,hv,hO,x.free lC e,x.An hF e,x.keep _ _ lC e,uM,x.free O5 ed,x.An QQ ed,BL,x.keep _ _ O5 ed,q.step x,hn⟩
theorem cT.step(x:Step C G G' s s')(y:cT C G O s.heap i sl ov):cT C G' O s'.heap i sl ov:=match sl,y with
 |.unset,y=>y
 |.val d,y=>bS y λv e q=>⟨v,e,q.mono x.ext⟩
 |.ro d,y=>bS y λv e q=>⟨v,e,q.mono x.ext⟩
 |.own t,y=>bS y λv e q=>⟨v,e,q.step x⟩
 |.bor t,y=>bS y λv e q=>⟨v,e,q.step x⟩
theorem cJ.step(x:Step C G G' s s')(y:cJ C G O sc ns env fr s.heap):cJ C G' O sc ns env fr s'.heap where
 fn:=y.fn
 glob:=y.glob
 bi:=y.bi
 nodup:=y.nodup
 len:=y.len
 iN:=λa r e=>mF (y.iN a r e) λh1 h2 o ho=>⟨x.An h1 ho,x.free h2 ho,o,x.keep _ _ h2 ho⟩
 gl:=y.gl
 cl:=y.cl
 lN:=y.lN
 loc:=bS y.loc λm hm q=>⟨m,hm.at' (x.at_ (y.iN _ _ y.lN).2.1),λi z sl h1 h2 h3=>(q i z sl h1 h2 h3).step x⟩
 pY:=λi z sl h1 h2 h3=>xA (y.pY i z sl h1 h2 h3) λhk y=>iI y λc ov e1 e2 e3 e4 y=>bS e2 λoc e2 Ln=>⟨hk,c,ov,e1,⟨oc,x.keep _ _ y.1 e2,Ln⟩,e3.step x,e4,x.free y.1 e2,y.2⟩
 iU:=y.iU
 code:=y.code.imp id λy=>xE y λq c=>⟨q,c.mono x.ext.f⟩
 ro:=λhm i z d h1 h2=>gf (y.ro hm i z d h1 h2) λc o h3 h4=>⟨c,o,h3,x.ext.f _ _ h4⟩
def mx(C:Cx)(G:Gh)(h₀ h:eu)(v:aB)(t:OT):Prop:=
 ∃O:aO->Option Role,(∀a r,O a=some r->h₀.get? a=none/\(∃k,r=.own 0 k/\k≠nZ)/\G.F a=none/\eQ C G a/\∃o,h.get? a=some o)/\dO C G O h (λk=>some (.own 0 k)) v t
def cD(C:Cx)(G:Gh)(O:aO->Option Role)(h₀ h:eu)(v:aB):EV->Prop
 |.fv d=>Rep C G v d
 |.bor t=>∃ρ:Nat->Role,dO C G O h (λk=>some (ρ k)) v t
 |.own t=>mx C G h₀ h v t
theorem mx.step(x:Step C G G' s s')(y:mx C G h₀ s.heap v t):mx C G' h₀ s'.heap v t:=bS y λO h1 h2=>
 ⟨O,λa r e=>m_ (h1 a r e) λq1 q2 q3 q4 o q5=>⟨q1,q2,x.An q3 q5,x.free q4 q5,o,x.keep _ _ q4 q5⟩,h2.step x⟩
theorem mx.vt(k:∀a o,h₀.get? a=some o->∃o',kq.get? a=some o')(y:mx C G kq h v t):mx C G h₀ h v t:=bS y λO h1 h2=>
 ⟨O,λa r e=>⟨none_of (k a) (h1 a r e).1,(h1 a r e).2⟩,h2⟩
theorem cD.step{e:EV}(x:Step C G G' s s')(y:cD C G O h₀ s.heap v e):cD C G' O h₀ s'.heap v e:=match e,y with
 |.fv d,y=>Rep.mono x.ext y
 |.bor t,y=>xE y λρ q=>⟨ρ,q.step x⟩
 |.own t,y=>mx.step x y
theorem cD.vt{e:EV}(k:∀a o,h₀.get? a=some o->∃o',kq.get? a=some o')(y:cD C G O kq h v e):cD C G O h₀ h v e:=match e,y with
 |.fv d,y=>y
 |.bor t,y=>y
 |.own t,y=>mx.vt k y
def PE(C:Cx)(G:Gh)(O:aO->Option Role)(s:aN)(e:EV)(wl:WL)(v:aB)(s':aN):Prop:=
 ∃G',Step C G G' s s'/\bz C G' wl s'.heap/\cD C G' O s.heap s'.heap v e
abbrev ef:aB->aN->Prop:=λ_ _=>False
theorem PE.after{e:EV}(x:Step C G G' s s')(y:PE C G' O s' e wl v qm):PE C G O s e wl v qm:=dU y λG2 h1 h2 h3=>⟨G2,x.trans h1,h2,h3.vt λa o q=>x.alive a o q⟩
theorem cX{α:Type}{M:Model}{t:Sem α}{P Q:α->aN->Prop}(h:aJ M A t P ef s)(k:∀a s',P a s'->Q a s'):aJ M A t Q E s:=
 dR h k λ_ _ q=>q.elim
theorem Step.grow(h:eu)(t:Nat)(k:∀a o,s.heap.get? a=some o->h.get? a=some o):Step C G G s {s with heap:=h,toks:=t}:=
 ⟨.refl G,λa o _ e=>k a o e,λa o e=>⟨o,k a o e⟩,λ_ _ e=>.inl e,λ_ e=>.inl e,rfl,rfl⟩
theorem gH.grow(W:gH C G h ow wl)(x:Ext G G')(f:∀a,(G.F a=none/\∃o,h.get? a=some o)->G'.F a=none)(k:∀a o,h.get? a=some o->h'.get? a=some o):gH C G' h' ow wl:=match ow,wl,W with
 |some a,some ds,W=>nW W λh1 vs n h2 r=>⟨f _ ⟨h1,_,h2⟩,vs,n,k _ _ h2,r.mono x⟩
 |none,none,_=>trivial
theorem bz.grow(W:bz C G wl h)(k:∀a o,h.get? a=some o->h'.get? a=some o):bz C G wl h' where
 sub:=λa o e=>k a o (W.sub a o e)
 base:=W.base
 tabs:=λq hq=>qk (W.tabs q hq) λh1 h2 ps h3 r=>⟨h1,h2,ps,k _ _ h3,r⟩
 well:=W.well.grow (.refl G) (λ_ h=>h.1) k
noncomputable def Gh.with(G:Gh)(h:eu)(P:aO->Prop)[DecidablePred P]:Gh:=⟨λa=>if P a then h.get? a else G.F a,G.aw⟩
theorem fS{P:aO->Prop}[DecidablePred P](q:P a):(G.with h P).F a=h.get? a:=if_pos q
theorem oC{P:aO->Prop}[DecidablePred P](q:¬P a):(G.with h P).F a=G.F a:=if_neg q
theorem ju{P:aO->Prop}[DecidablePred P](B:y8 G h₀)(hP:∀a,P a->h₀.get? a=none):Ext G (G.with h P):=
 ⟨λa o e=>(oC λq=>gone (hP a q) (B a o e)).trans e,λ_ e=>e⟩
theorem yi{t:Nat}{P:aO->Prop}[DecidablePred P](B:y8 G s.heap)(hP:∀a,P a->s.heap.get? a=none)(k:∀a o,s.heap.get? a=some o->h.get? a=some o):
 Step C G (G.with h P) s {s with heap:=h,toks:=t}:=
 ⟨ju B hP,λa o _ e=>k a o e,λa o e=>⟨o,k a o e⟩,λa o e=>if q:P a then .inr (hP a q)else .inl ((oC q).symm.trans e),λ_ e=>.inl e,rfl,rfl⟩
theorem yd{P:aO->Prop}[DecidablePred P](W:bz C G wl h)(hP:∀a,P a->h.get? a=none)(k:∀a o,h.get? a=some o->h'.get? a=some o):bz C (G.with h' P) wl h' where
 sub:=λa o e=>if q:P a then(fS q).symm.trans e else k a o (W.sub a o ((oC q).symm.trans e))
 base:=λa o e=>(ju W.sub hP).f a o (W.base a o e)
 tabs:=λq hq=>u9 (W.tabs q hq) λh1 h2 ps h3 h4 h5=>⟨(oC λhp=>gone (hP _ hp) h3).trans h1,h2,ps,k _ _ h3,h4,λpos cv e=>(h5 pos cv e).mono (ju W.sub hP).f⟩
 well:=W.well.grow (ju W.sub hP) (λa h1=>Up h1 λh1 o h2=>(oC λhp=>gone (hP _ hp) h2).trans h1) k
theorem eP{e:EV}(t:Nat)(W:bz C G wl s.heap)(h:cD C G O s.heap s.heap v e):PE C G O s e wl v {s with toks:=t}:=
 ⟨G,.tok C G s t,W,h⟩
theorem mj{e:EV}(W:bz C G wl s.heap)(h:cD C G O s.heap s.heap v e):PE C G O s e wl v s:=
 ⟨G,.refl C G s,W,h⟩
theorem l8(o:jY)(t:Nat)(hf:o.isFreed=false)(W:bz C G wl s.heap)(h:∀G':Gh,Ext G G'->G'.F s.heap.objs.size=some o->Rep C G' v d):
 PE C G O s (.fv d) wl v {s with heap:=s.heap.push o,toks:=t}:=by
 have hn:s.heap.get? s.heap.objs.size=none:=by
  induction q:s.heap.get? s.heap.objs.size using aA with
  |none=>rfl
  |some o'=>exact absurd (bb q) (b8 _)
 have hP:∀a,a=s.heap.objs.size->s.heap.get? a=none:=λa e=>by exact eW e<|hn
 have hk:∀a o',s.heap.get? a=some o'->(s.heap.push o).get? a=some o':=λa o' e=>a_ o e;refine⟨G.with (s.heap.push o) (λa=>a=s.heap.objs.size),yi W.sub hP hk,yd W hP hk,h _ (ju W.sub hP) ?_⟩;exact(fS (P:=λa=>a=s.heap.objs.size) rfl).trans (bH _ hf)
theorem dP{n:Nat}(h:cc n=true):n<=2^20:=of_decide_eq_true h
theorem NF{i:Int}(h:Rep C G v (.int i)):∃t,v=.int i t:=h.inv
theorem ND(h:Rep C G v (.str x)):∃t,v=.str x t:=h.inv
theorem JJ(h:Rep C G v (.bool b)):v=.bool b:=h.inv
theorem JI(h:Rep C G v .none):v=.none:=h.inv
@[elab_as_elim] theorem uc{P:aB->Prop}{i:Int}(h:Rep C G v (.int i))(k:∀t,P (.int i t)):P v:=xE (NF h) λt e=>e▸k t
@[elab_as_elim] theorem RR{P:aB->Prop}(h:Rep C G v (.str x))(k:∀t,P (.str x t)):P v:=xE (ND h) λt e=>e▸k t
@[elab_as_elim] theorem Q3{P:aB->Prop}(h:Rep C G v (.bool b))(k:P (.bool b)):P v:=JJ h▸k
@[elab_as_elim] theorem Fq{P:aB->Prop}(h:Rep C G v .none)(k:P .none):P v:=JI h▸k
@[elab_as_elim] theorem iB{P:aB->Prop}{e:EV}{i:Int}(R:cD C G O h₀ kq v e)(h:pN e=some i)(k:∀t,P (.int i t)):P v:=(n6 (P:=λe=>cD C G O h₀ kq v e->P v) h λR=>uc R k) R
@[elab_as_elim] theorem yO{P:aB->Prop}{e:EV}(R:cD C G O h₀ kq v e)(h:LU e=some x)(k:∀t,P (.str x t)):P v:=(Xu (P:=λe=>cD C G O h₀ kq v e->P v) h λR=>RR R k) R
theorem zB{e:EV}(W:bz C G wl s.heap)(R:cD C G O h₀ s.heap v e)(h:e.ei=some xs):
 ∃a vs n,v=.ref a/\s.heap.get? a=some {cls:=.type "list",data:=.seq vs.toArray n}/\bA C G vs xs:=
 (EV.Aa (P:=λe=>cD C G O h₀ s.heap v e->_) h (λd h R=>(FV.xD (P:=λd=>Rep C G v d->_) h λR=>jO R.inv λa vs n e f r=>⟨a,vs,n,e,W.sub _ _ f,r⟩) R)
   λt h R=>ob h λo h1 h2=>xE R λρ R=>(OT.zt (P:=λt=>dO C G O s.heap (λk=>some (ρ k)) v t->_) h1 (OB.xD (P:=λo=>dJ C G O s.heap (some (ρ 0)) v o->_) h2 λR=>m8 R λa hv _ _ _ R=>gf R λvs n e q=>⟨a,vs.toList,n,hv,e,q⟩)) R) R
@[elab_as_elim] theorem listI{P:aB->Prop}{e:EV}(W:bz C G wl s.heap)(R:cD C G O h₀ s.heap v e)(h:e.ei=some xs)
   (k:∀a vs n,s.heap.get? a=some {cls:=.type "list",data:=.seq vs.toArray n}->bA C G vs xs->P (.ref a)):P v:=jO (zB W R h) λa vs n e f r=>e▸k a vs n f r
theorem Wm{a:Int}(h:a.natAbs<2^63):dy a<=64:=
 have k:∀b:Int,b.natAbs=a.natAbs->b<2^64:=λb e=>Int.lt_of_le_of_lt Int.le_natAbs (Mv (dn.mpr (e▸h)) (by decide))
 intBits_le_64 (Int.neg_lt_of_neg_lt (k (-a) (Int.natAbs_neg a))) (k a rfl)
theorem VI{op:Operator}{x y r:Int}{t t':Tok}(e:LR op x y=some r)(h:∀u tk,Q (.int r u) {s with toks:=tk}):
 aJ C.M A (binaryOp op (.int x t) (.int y t')) Q ef s:=
 have H:∀{z:Int},some z=some r->∀u tk,Q (.int z u) {s with toks:=tk}:=λe=>(ag e).symm▸h
 match op,e with
 |.Add,e=>YU (H e _ _)
 |.Sub,e=>YA (H e _ _)
 |.Mult,e=>dV e λhb e=>YG (H e _ _) (hb.elim (λq=>.of_left (Wm q)) λq=>.of_right (Wm q))
 |.Mod,e=>dV e λhb e=>YH hb (H e _ _)
 |.Pow,e=>dV e λhb e=>YC hb.1 hb.2 (H e _ _)
 |.LShift,e=>dV e λhb e=>YJ hb.1 hb.2.1 hb.2.2 (H e _ _)
 |.RShift,e=>dV e λhb e=>YB hb (H e _ _)
 |.BitOr,e=>YD (H e _ _)
 |.BitAnd,e=>YS (H e _ _)
 |.FloorDiv,e=>dV e λhb e=>YO hb.1 (H e _ _) (.inl (PyProof.noPylong_of_log2 (az ((YX λq=>hb.1 (Int.natAbs_eq_zero.mp q)).mpr hb.2) (by decide+kernel))))
 |.MatMult,e=>nn e
 |.Div,e=>nn e
 |.BitXor,e=>nn e
theorem VM{op:Operator}{a b x:EV}(W:bz C G wl s.heap)(Ra:cD C G O h₀ s.heap v a)(Rb:cD C G O kq s.heap u b)(e:i9 op a b=some x):
 aJ C.M A (binaryOp op v u) (PE C G O s x wl) ef s:=
 oe e (λ_ e=>dV e λho e=>ho▸oe e
  (λ_ e=>ob e λxs ha e=>ob e λys hb e=>dV e λhz e=>listI W Ra ha λa vs n h1 r1=>listI W Rb hb λb us n' h2 r2=>sk e (by
    refine P.add_list h1 h2 (l8 _ s.toks rfl W λG' x1 x2=>?_) (by have:=dP hz;refine eW dp<|eW cg<|eW cg<|eW r1.length<|eW r2.length ?_;lia);refine .list (vs:=vs++us) (n:=0) ?_ ((r1.append r2).mono x1);refine eW x2 ?_;simp))
  λx h1 e=>ob e λy h2 e=>dV e λhz e=>yO Ra h1 λt=>yO Rb h2 λt'=>sk e (YT (λt' tk=>eP tk W (.str _ _)) (by have:=dP hz;refine eW dp ?_;unfold aaY;lia)))
  λx h1 e=>ob e λy h2 e=>om e λr e1=>iB Ra h1 λt=>iB Rb h2 λt'=>VI e1 λu tk=>eP tk W (.int _ _)
theorem fE{is:List Int}(h:bA C G vs xs)(e:eZ xs=some is):IntsAre vs is:=
 h.ind (P:=λvs xs=>∀is,eZ xs=some is->IntsAre vs is) (λis e=>sk e .nil) (λv d vs ds a r ih is e=>ob e λi h1 e=>om e λjs e1=>(FV.DZ (P:=λd=>Rep C G v d->_) h1 λa=>uc a λt=>.cons _ _ (ih js e1)) a) is e
theorem wX{is:List bB}(h:bA C G vs xs)(e:Ad xs=some is):StrsAre vs is:=
 h.ind (P:=λvs xs=>∀is,Ad xs=some is->StrsAre vs is) (λis e=>sk e .nil) (λv d vs ds a r ih is e=>ob e λi h1 e=>om e λjs e1=>(FV.Sa (P:=λd=>Rep C G v d->_) h1 λa=>RR a λt=>.cons _ _ (ih js e1)) a) is e
theorem uE{a:EV}{Q:Bool->aN->Prop}(W:bz C G wl s.heap)(R:cD C G O h₀ s.heap v a)(e:iT a=some b)(h:∀tk,Q b {s with toks:=tk}):
 aJ C.M A (truthy v) Q ef s:=
 have lst:∀xs,a.ei=some xs->CQ xs=some b->aJ C.M A (truthy v) Q ef s:=λxs ha e=>dV e λhz e=>listI W R ha λa vs n h1 r1=>by
  refine wpAny_truthy_list ⟨_,h1,rfl,n,rfl⟩ (by have:=dP hz;have:=r1.length;simp only[cg];lia) ?_
  have:(!vs.toArray.isEmpty)= !xs.isEmpty:=r1.ind rfl λ_ _ _ _ _ _ _=>rfl;exact eW this<|eW (ag e)<|h _
 match a,R,e,lst with
 |.fv d,R,e,lst=>r8 e (λc e=>(FV.vz (P:=λd=>Rep C G v d->_) c λR=>Fq R (truthy_none ((ag e).symm▸h s.toks))) R)
   λ_ e=>oe e (λ_ e=>ob e lst) λb' h1 e=>(FV.Xt (P:=λd=>Rep C G v d->_) h1 λR=>Q3 R (kE ((ag e).symm▸h s.toks))) R
 |.bor t,R,e,lst=>ob e lst
 |.own t,R,e,lst=>nn e
theorem Zp{op:UnaryOp}{a x:EV}(W:bz C G wl s.heap)(R:cD C G O h₀ s.heap v a)(e:Nc op a=some x):
 aJ C.M A (unaryOp op v) (PE C G O s x wl) ef s:=match op,e with
 |.USub,e=>om e λi h1=>iB R h1 λt=>xt (eP _ W (.int _ _))
 |.Invert,e=>om e λi h1=>iB R h1 λt=>YL (eP _ W (.int _ _))
 |.Not,e=>om e λb e1=>not_of (uE W R e1 λtk=>eP tk W (.bool _))
 |.UAdd,e=>nn e
theorem tN(i:Int)(t:Tok):(ik C).is i (.int i t)=true:=intKind_is pw C.w i t
theorem nA:∀{es:List (Int×FV)}{vs:List aB}{i:Int},bA C G vs (es.map (·.2))->(∀d,es.lookup i=some d->∃w,((es.map (·.1)).zip vs).lookup i=some w/\Rep C G w d)/\(es.lookup i=none->((es.map (·.1)).zip vs).lookup i=none)
 |[],_,_,h=>⟨λ_ e=>nn e,λ_=>rfl⟩
 |(j,d)::r,vs,i,h=>by
  have h:bA C G vs (d::r.map (·.2)):=h;refine h.rP λv vs a h'=>?_;simp only[bK,bT,gD];induction i==j using ax with
  |true=>exact⟨λd e=>sk e ⟨_,rfl,a⟩,λe=>nomatch e⟩
  |false=>exact nA h'
theorem Pn{e:EV}{es:List (Int×FV)}(W:bz C G wl s.heap)(R:cD C G O h₀ s.heap v e)(h:e.wY=some es):
 ∃a f vs,v=.ref a/\(a==sysModules)=false/\s.heap.MapOf (ik C) a f/\bA C G vs (es.map (·.2))/\∀k,f k=((es.map (·.1)).zip vs).lookup k:=
 (EV.Aa (P:=λe=>cD C G O h₀ s.heap v e->_) h (λd h R=>(FV.Lw (P:=λd=>Rep C G v d->_) h λR=>jO R.inv λa f vs e b q=>bS b λo b1 b2=>⟨a,f,vs,e,q.1,b2 _ (W.sub _ _ b1),q.2⟩) R)
   λt h R=>ob h λo h1 h2=>xE R λρ R=>(OT.zt (P:=λt=>dO C G O s.heap (λk=>some (ρ k)) v t->_) h1 (OB.Lw (P:=λo=>dJ C G O s.heap (some (ρ 0)) v o->_) h2 λR=>m8 R λa hv _ _ _ R=>nW R λhs f vs e q=>⟨a,f,vs,hv,hs,e,q.1,q.2.1⟩)) R) R
theorem RT{e:EV}{xs:List Int}(W:bz C G wl s.heap)(R:cD C G O h₀ s.heap v e)(h:e.LS=some xs):
 ∃a,v=.ref a/\s.heap.SetOf (ik C) a (λk=>xs.contains k) xs.length:=
 (EV.Aa (P:=λe=>cD C G O h₀ s.heap v e->_) h (λd h R=>(FV.AP (P:=λd=>Rep C G v d->_) h λR=>bS R.inv λa e b=>bS b λo b1 b2=>⟨a,e,b2 _ (W.sub _ _ b1)⟩) R)
   λt h R=>ob h λo h1 h2=>xE R λρ R=>(OT.zt (P:=λt=>dO C G O s.heap (λk=>some (ρ k)) v t->_) h1 (OB.AP (P:=λo=>dJ C G O s.heap (some (ρ 0)) v o->_) h2 λR=>m8 R λa hv _ _ _ R=>⟨a,hv,R.1⟩)) R) R
theorem RJ(W:bz C G wl s.heap)(R:Rep C G v (.tup xs)):∃a vs n,v=.ref a/\s.heap.get? a=some {cls:=.type "tuple",data:=.seq vs.toArray n}/\bA C G vs xs:=jO R.inv λa vs n e f r=>⟨a,vs,n,e,W.sub _ _ f,r⟩
@[elab_as_elim] theorem QZ{P:aB->Prop}{e:EV}{es:List (Int×FV)}(W:bz C G wl s.heap)(R:cD C G O h₀ s.heap v e)(h:e.wY=some es)
   (k:∀a f vs,(a==sysModules)=false->s.heap.MapOf (ik C) a f->bA C G vs (es.map (·.2))->(∀k,f k=((es.map (·.1)).zip vs).lookup k)->P (.ref a)):P v:=IX (Pn W R h) λa f vs e h1 h2 h3 h4=>e▸k a f vs h1 h2 h3 h4
@[elab_as_elim] theorem Y_{P:aB->Prop}{e:EV}{xs:List Int}(W:bz C G wl s.heap)(R:cD C G O h₀ s.heap v e)(h:e.LS=some xs)
   (k:∀a,s.heap.SetOf (ik C) a (λk=>xs.contains k) xs.length->P (.ref a)):P v:=bS (RT W R h) λa e h=>e▸k a h
@[elab_as_elim] theorem tupI{P:aB->Prop}(W:bz C G wl s.heap)(R:Rep C G v (.tup xs))
   (k:∀a vs n,s.heap.get? a=some {cls:=.type "tuple",data:=.seq vs.toArray n}->bA C G vs xs->P (.ref a)):P v:=jO (RJ W R) λa vs n e f r=>e▸k a vs n f r
@[elab_as_elim] theorem QY{P:aB->Prop}{e:EV}(W:bz C G wl s.heap)(R:cD C G O h₀ s.heap v e)(h:e.t?=some xs)
   (k:∀a vs n,s.heap.get? a=some {cls:=.type "tuple",data:=.seq vs.toArray n}->bA C G vs xs->P (.ref a)):P v:=
  ob h λd h1 h2=>(eh (P:=λe=>cD C G O h₀ s.heap v e->P v) h1 (FV.CV (P:=λd=>Rep C G v d->P v) h2 λR=>tupI W R k)) R
theorem J5{b:EV}{r:Bool}(W:bz C G wl s.heap)(Ra:Rep C G v d)(Rb:cD C G O h₀ s.heap u b)(e:FZ d b=some r):
 (∀Q:aB->aN->Prop,(∀tk,Q (.bool r) {s with toks:=tk})->aJ C.M A (compareOp .In v u) Q ef s)/\
 (∀Q:aB->aN->Prop,(∀tk,Q (.bool (!r)) {s with toks:=tk})->aJ C.M A (compareOp .NotIn v u) Q ef s):=
 oe e (λ_ e=>ob e λx h1 e=>ob e λds h2 e=>om e λis e1=>(FV.Sa (P:=λd=>Rep C G v d->_) h1 λRa=>RR Ra λt=>QY W Rb h2 λa vs n h3 r1=>
  ⟨λQ h=>in_tuple_strs ⟨_,h3,rfl,n,rfl⟩ (wX r1 e1) (h s.toks),λQ h=>ai (contains_tuple_strs ⟨_,h3,rfl,n,rfl⟩ (wX r1 e1) (ar (h s.toks)))⟩) Ra)
  λi h1 e=>(FV.DZ (P:=λd=>Rep C G v d->_) h1 λRa=>uc Ra λt=>oe e
   (λ_ e=>oe e (λ_ e=>oe e
     (λ_ e=>ob e λes h2 e=>sk e (QZ W Rb h2 λa f vs hs h3 r1 q=>
       have e3:(f i).isSome=(es.lookup i).isSome:=(q i).symm▸(match hq:es.lookup i with
        |none=>((nA r1).2 hq).symm▸rfl
        |some d=>bS ((nA r1).1 d hq) λw e _=>e.symm▸rfl)
       ⟨λQ h=>wpAny_in_of (tN _ _) hs h3 (e3.symm▸h _),λQ h=>wpAny_notIn_of (tN _ _) hs h3 (e3.symm▸h _)⟩))
     λxs h2 e=>sk e (Y_ W Rb h2 λa h3=>⟨λQ h=>wpAny_inSet_of (tN _ _) rfl h3 (h _),λQ h=>wpAny_notInSet_of (tN _ _) rfl h3 (h _)⟩))
     λxs h2 e=>om e λis e1=>listI W Rb h2 λa vs n h3 r1=>⟨λQ h=>in_list_ints ⟨_,h3,rfl,n,rfl⟩ (fE r1 e1) (h s.toks),λQ h=>notin_list_ints ⟨_,h3,rfl,n,rfl⟩ (fE r1 e1) (h s.toks)⟩)
   λxs h2 e=>om e λis e1=>QY W Rb h2 λa vs n h3 r1=>⟨λQ h=>in_tuple_ints ⟨_,h3,rfl,n,rfl⟩ (fE r1 e1) (h s.toks),λQ h=>notin_tuple_ints ⟨_,h3,rfl,n,rfl⟩ (fE r1 e1) (h s.toks)⟩) Ra
section
variable {d:Nat}
theorem oG(Rm:Mg k d A):A.units+64<cLine:=az (Nat.add_lt_add_of_lt_of_le (aQ (ak (ak (aP _ (24*k)) (aP _ (3*d))) (aP _ 60)) Rm.units) (aT 64)) (by decide)
theorem VL{a b:EV}{r:Bool}(Rm:Mg k d A)(W:bz C G wl s.heap)(Ra:cD C G O h₀ s.heap v a)(Rb:cD C G O kq s.heap u b)(e:UH a b=some r):
 (∀Q:aB->aN->Prop,(∀tk,Q (.bool r) {s with toks:=tk})->aJ C.M A (compareOp .Eq v u) Q ef s)/\
 (∀Q:aB->aN->Prop,(∀tk,Q (.bool (!r)) {s with toks:=tk})->aJ C.M A (compareOp .NotEq v u) Q ef s):=
 oe e (λ_ e=>oe e
  (λ_ e=>ob e λxs ha e=>ob e λys hb e=>ob e λis hi e=>ob e λjs hj e=>listI W Ra ha λa vs n h1 r1=>listI W Rb hb λb us n' h2 r2=>sk e
    ⟨λQ h=>eq_intsK ⟨_,h1,rfl,n,rfl⟩ (fE r1 hi) ⟨_,h2,rfl,n',rfl⟩ (fE r2 hj) (oG Rm) (h s.toks),
      λQ h=>ne_intsK ⟨_,h1,rfl,n,rfl⟩ (fE r1 hi) ⟨_,h2,rfl,n',rfl⟩ (fE r2 hj) (oG Rm) (h s.toks)⟩)
  λx h1 e=>om e λy h2=>yO Ra h1 λt=>yO Rb h2 λt'=>⟨λQ h=>YQ (h s.toks),λQ h=>YE (h s.toks)⟩)
  λx h1 e=>om e λy h2=>iB Ra h1 λt=>iB Rb h2 λt'=>⟨λQ h=>YR (h s.toks),λQ h=>YF (h s.toks)⟩
theorem NU{a b:EV}(Rm:Mg k d A)(W:bz C G wl s.heap)(Ra:cD C G O h₀ s.heap v a)(Rb:cD C G O kq s.heap u b)(e:Qu a b=true)
 (h:Q (.bool true) s):aJ C.M A (compareOp .NotEq v u) Q ef s:=
 an e λe1 e2=>oP e1 λxs ha e1=>oP e2 λys hb e2=>listI W Ra ha λa vs n h1 r1=>listI W Rb hb λb us n' h2 r2=>
  MN ⟨_,h1,rfl,n,rfl⟩ ⟨_,h2,rfl,n',rfl⟩ (by
   have l1:=r1.length;have l2:=r2.length;rw[fe.mp e2]at l2;exact eW cg<|eW cg<|eW l1<|eW l2<|bne_iff_ne.mpr λc=>by rw[n9.mp c]at e1;exact ff e1) (aQ (aP _ 64) (oG Rm)) _ _ _ _ h
theorem yo{a b:EV}{r:Bool}(Rm:Mg k d A)(W:bz C G wl s.heap)(Ra:cD C G O h₀ s.heap v a)(Rb:cD C G O kq s.heap u b)(e:mR op a b=some r)
 (h:∀tk,Q (.bool r) {s with toks:=tk}):aJ C.M A (compareOp op v u) Q ef s:=
 have H:∀{z:Bool},some z=some r->∀tk,Q (.bool z) {s with toks:=tk}:=λe=>(ag e).symm▸h
 match op,e with
 |.Eq,e=>(VL Rm W Ra Rb e).1 Q h
 |.NotEq,e=>oe e (λ_ e=>dV e λhl e=>NU Rm W Ra Rb hl (H e s.toks)) λr' h1 e=>(VL Rm W Ra Rb h1).2 Q (H e)
 |.Lt,e=>ob e λx h1 e=>ob e λy h2 e=>iB Ra h1 λt=>iB Rb h2 λt'=>YI (H e s.toks)
 |.LtE,e=>ob e λx h1 e=>ob e λy h2 e=>iB Ra h1 λt=>iB Rb h2 λt'=>YK (H e s.toks)
 |.Gt,e=>ob e λx h1 e=>ob e λy h2 e=>iB Ra h1 λt=>iB Rb h2 λt'=>YM (H e s.toks)
 |.GtE,e=>ob e λx h1 e=>ob e λy h2 e=>iB Ra h1 λt=>iB Rb h2 λt'=>YN (H e s.toks)
 |.In,e=>ob e λd h1 e=>(eh (P:=λa=>cD C G O h₀ s.heap v a->_) h1 λRa=>(J5 W Ra Rb e).1 Q h) Ra
 |.NotIn,e=>ob e λd h1 e=>Am e λr' h2 e=>(eh (P:=λa=>cD C G O h₀ s.heap v a->_) h1 λRa=>(J5 W Ra Rb h2).2 Q (H e)) Ra
 |.Is,e=>ob e λd h1 e=>dV e λhn e=>(eh (P:=λb=>cD C G O kq s.heap u b->_) h1 (FV.vz (P:=λd=>Rep C G u d->_) (bN hn) λRb=>Fq Rb
   (ob e λd' h2 e=>(eh (P:=λa=>cD C G O h₀ s.heap v a->_) h2 λRa=>r8 e (λhn e=>(FV.vz (P:=λd=>Rep C G v d->_) (bN hn) λRa=>Fq Ra (is_none_none (H e s.toks))) Ra)
     λ_ e=>Am e λx h3 e=>(FV.rL (P:=λd=>Rep C G v d->_) h3 λRa=>m7 Ra.inv λx dx i5 n e' _=>e'▸is_none_ne (λq=>nomatch q) (H e s.toks)) Ra) Ra))) Rb
 |.IsNot,e=>nn e
theorem N_{α:Type}{xs:List α}{i:Int}{x:α}(h:Fn xs i=some x):∃j,seqIndex? i xs.length=some j/\xs[j]?=some x:=
 have lt:∀{j:Nat},xs[j]?=some x->j<xs.length:=λh=>(c9.mp h).1
 r8 h (λh0 h=>⟨i.toNat,by simp only[seqIndex?,if_neg (pj.mpr h0)];have:=lt h;rw[if_pos];simp;lia,h⟩)
  λh0 h=>dV h λh1 h=>⟨(i+xs.length).toNat,by
   have:=lt h;simp only[seqIndex?,if_pos (Mu.mp h0)];rw[if_pos];simp;lia,h⟩
theorem Fm{vs:List aB}{xs:List FV}{i:Int}{d:FV}(R:bA C G vs xs)(h:Fn xs i=some d):∃w,Fn vs i=some w/\Rep C G w d:=by
 delta Fn at h⊢;exact eW R.length<|r8 h (λh0 h=>by exact eW (if_pos h0)<|R.get h) λh0 h=>dV h λh1 h=>by exact eW (if_neg h0)<|eW (if_pos h1)<|R.get h
theorem item_list{n:Nat}{i:Int}{t:Tok}{w:aB}(hl:s.heap.get? l=some {cls:=.type "list",data:=.seq vs.toArray n})(hi:BH i=true)(h:Fn vs i=some w)(hQ:Q w s):
 aJ C.M A (getItem (.ref l) (.int i t)) Q ef s:=
 have hb: -(2^62)<=i/\i<2^62:=of_decide_eq_true hi
 r8 h (λh0 h=>wpAny_getItem_list ⟨_,hl,rfl,n,rfl⟩ h0 (XQ hb.2 (by decide)) (by simpa using h) hQ)
  λh0 h=>dV h λh1 h=>wpAny_getItem_list_neg ⟨_,hl,rfl,n,rfl⟩ (Mu.mp h0) (by simpa using h1) (by lia) (by simpa using h) hQ
theorem gv.get(y:gv C G O h ρ k vs iH)(e:iH[j]?=some xs):∃w,vs[j]?=some w/\dJ C G O h (ρ (k+j)) w (.list xs):=
 y.ind (P:=λk vs iH=>∀j,iH[j]?=some xs->∃w,vs[j]?=some w/\dJ C G O h (ρ (k+j)) w (.list xs)) (λ_ _ e=>nn e)
  (λk v _ _ _ a _ ih j=>j.casesOn (λe=>⟨v,rfl,ag e▸a⟩) λj e=>dc k 1 j▸ih j e) j e
theorem gv.length(y:gv C G O h ρ k vs iH):vs.length=iH.length:=y.ind (λ_=>rfl) λ_ _ _ _ _ _ _ ih=>congrArg (·+1) ih
theorem jl(hs:gp slice=true)(o i:aB):subscripted slice false o i=operate [o,i] (getItem o i):=by
 induction slice using bE<;>first|rfl|exact ff hs
theorem Et{o:OB}(h2:t.o?=some o)(h3:o.l?=some xs):(EV.bor t).ei=some xs:=bs (f:=OB.l?) h2 h3
theorem Eu{o:OB}{xs:List (Int×FV)}(h2:t.o?=some o)(h3:o.d?=some xs):(EV.bor t).wY=some xs:=bs (f:=OB.d?) h2 h3
theorem J2{n:Nat}{i:Int}{t:Tok}{x:EV}(hs:gp slice=true)(W:bz C G wl s.heap)(hl:s.heap.get? l=some {cls:=.type "list",data:=.seq vs.toArray n})
 (r:bA C G vs xs)(e:pick xs i=some x):aJ C.M A (subscriptTail value slice (.ref l) (.int i t)) (PE C G O s x wl) ef s:=
 dV e λhk e=>om e λd e1=>bS (Fm r e1) λw e2 r2=>qg ⟨_,hl,rfl⟩ kG.lookup (item_list hl hk e2 (mj W r2)) (jl hs _ _)
theorem J4{a x:EV}{es:List (Int×FV)}{k:Int}{t:Tok}(hs:gp slice=true)(W:bz C G wl s.heap)(Ra:cD C G O h₀ s.heap v a)(ha:a.wY=some es)(e:(es.lookup k).map EV.fv=some x):
 aJ C.M A (subscriptTail value slice v (.int k t)) (PE C G O s x wl) ef s:=
 om e λd e1=>QZ W Ra ha λa f vs yC h1 r1 q=>bS ((nA r1).1 d e1) λw e2 r2=>qg h1.typeIs slot_dict_getitem.lookup (wpAny_getItem_of (tN _ _) h1 ((q k).trans e2) (eP _ W r2)) (jl hs _ _)
theorem J3{a x:EV}{k:Int}{t:Tok}(hs:gp slice=true)(W:bz C G wl s.heap)(Ra:cD C G O h₀ s.heap v a)(ha:a.ei=some xs)(e:pick xs k=some x):
 aJ C.M A (subscriptTail value slice v (.int k t)) (PE C G O s x wl) ef s:=listI W Ra ha λa vs n h1 r1=>J2 hs W h1 r1 e
theorem NW{value slice:af}{x:EV}{h₀:eu}{d:FV}{k:Int}{t:Tok}(hs:gp slice=true)(W:bz C G wl s.heap)(Ra:Rep C G v d)(e:QE wl k d=some x):aJ C.M A (subscriptTail value slice v (.int k t)) (PE C G O s x wl) ef s:=
 have Re:cD C G O h₀ s.heap v (.fv d):=Ra
 oe e (λh0 e=>oe e
  (λ_ e=>dV e λhw e=>(FV.I3 (P:=λd=>Rep C G v d->_) hw λRa=>bS Ra.inv λaw ea haw=>ob e λxs hx e=>by
    subst ea;subst hx
    have hw:=W.well;rw[haw]at hw;exact nW hw λ_ vs n h1 r1=>J2 hs W (vs:=vs.toList) h1 r1 e) Ra)
  λes h2 e=>J4 hs W Re h2 e)
  λxs h2 e=>oe h2 (λ_ h2=>J3 hs W Re h2 e) λys h3 h2=>(FV.CV (P:=λd=>Rep C G v d->_) h3 λRa=>dV e λhk e=>om e λd e1=>tupI W Ra λa vs n h1 r1=>bS (Fm r1 (ag h2▸e1)) λw e2 r2=>bS (N_ e2) λj e3 e4=>
   have hb: -(2^62)<=k/\k<2^62:=of_decide_eq_true hk
   have ht:IsTup s.heap a vs.toArray:=⟨_,h1,rfl,n,rfl⟩
   qg ht.typeIs slot_tuple_getitem.lookup (getItem_tuple ht (XR (by decide) hb.1) (XQ hb.2 (by decide)) e3 (by simpa using e4) (mj W r2)) (jl hs _ _)) Ra
theorem Kb{k:Int}(q:gv C G O h ρ 1 vs iH)(e1:Fn iH k=some ys):∃j w,Fn vs k=some w/\dJ C G O h (ρ (1+j)) w (.list ys):=by
 delta Fn at e1⊢;exact eW q.length<|r8 e1 (λh0 h=>by exact eW (if_pos h0)<|bS (q.get h) λw e2 e3=>⟨_,w,e2,e3⟩) λh0 h=>dV h λh1 h=>by exact eW (if_neg h0)<|eW (if_pos h1)<|bS (q.get h) λw e2 e3=>⟨_,w,e2,e3⟩
theorem NV{x:EV}{b:OT}{k:Int}{t:Tok}(hs:gp slice=true)(W:bz C G wl s.heap)(Ra:cD C G O h₀ s.heap v (.bor b))(e:QD k b=some x):aJ C.M A (subscriptTail value slice v (.int k t)) (PE C G O s x wl) ef s:=
 oe e (λ_ e=>ob e λiH h2 e=>dV e λhk e=>om e λys e1=>xE Ra λρ Ra=>(OT.Kp (P:=λb=>dO C G O s.heap (λk=>some (ρ k)) v b->_) h2 λRa=>j9 Ra λl vs n hv q=>kI q λ_ _ _ h1 q=>by
  subst hv;exact gf (Kb q e1) λj w e2 e3=>qg ⟨_,h1,rfl⟩ kG.lookup (item_list (vs:=vs.toList) h1 hk e2 (mj W ⟨λ_=>ρ (1+j),e3⟩)) (jl hs _ _)) Ra)
  λo h2 e=>oe e (λ_ e=>ob e λes h3 e=>J4 hs W Ra (Eu h2 h3) e) λxs h3 e=>J3 hs W Ra (Et h2 h3) e
theorem VJ{value slice:af}{a i x:EV}{h₀ kq:eu}(hs:gp slice=true)(W:bz C G wl s.heap)(Ra:cD C G O h₀ s.heap v a)(Ri:cD C G O kq s.heap u i)(e:jt a i wl=some x):
 aJ C.M A (subscriptTail value slice v u) (PE C G O s x wl) ef s:=
 ob e λk h1 e=>iB Ri h1 λt=>(EV.Aa (P:=λa=>cD C G O h₀ s.heap v a->_) e (λd e Ra=>NW (h₀:=h₀) hs W Ra e) λb e Ra=>NV hs W Ra e) Ra
theorem Ff{e:EV}{p:Option Int}(R:cD C G O h₀ s.heap v e)(h:Fg e=some p):IsPart v p/\∃q:Option (Int×Tok),v=partValue q/\q.map (·.1)=p:=
 ob h λd h1 h=>(eh (P:=λe=>cD C G O h₀ s.heap v e->_) h1 λR=>r8 h (λhn h=>(FV.vz (P:=λd=>Rep C G v d->_) (bN hn) λR=>Fq R (sk h ⟨.none,ab,rfl,rfl⟩)) R)
  λ_ h=>ob h λi h2 h=>dV h λ_ h=>(FV.DZ (P:=λd=>Rep C G v d->_) h2 λR=>uc R λt=>sk h ⟨.int _ _,some (_,t),rfl,rfl⟩) R) R
theorem NT{e:EV}{p:Int}(h:Fg e=some (some p)):0<=p:=
 ob h λd h1 h=>r8 h (λ_ h=>nn (ag h)) λ_ h=>ob h λi _ h=>dV h λq h=>ag (ag h)▸q.1
theorem VG{a lo hi x:EV}{vl vu:aB}{sl:aO}{wh:eu}(W:bz C G wl s.heap)(Ra:cD C G O h₀ s.heap v a)(Rl:cD C G O kq s.heap vl lo)(Rh:cD C G O wh s.heap vu hi)
 (eE:s.heap.get? sl=some {cls:=.type "slice",data:=.fields #[vl,vu,.none]})(hs:∀o,subscripted slice false o (.ref sl)=operate [.ref sl,o] (getItem o (.ref sl)))(e:AU a lo hi=some x):
 aJ C.M A (subscriptTail value slice v (.ref sl)) (PE C G O s x wl) ef s:=by
 refine ob e λl hl e=>ob e λu hu e=>?_
 (refine Up (Ff Rl hl) λpl ql q1=>?_;refine xA q1 ?_;clear q1;intro q2;subst q2;intro ql')
 (refine Up (Ff Rh hu) λpu qu q3=>?_;refine xA q3 ?_;clear q3;intro q4;subst q4;intro qu')
 refine oe e (λ_ e=>ob e λxs ha e=>dV e λhN e=>ob e λk hk e=>dV e λhz e9=>?_) λy hy e=>dV e λhz e=>?_
 . subst hk;obtain rfl:=ee.mp hN
   have IA:=dP hz
   have h0:=NT hu;refine listI W Ra ha λa vs n h1 r1=>sk e9 ?_;refine qg (T:="list") ⟨_,h1,rfl⟩ kG.lookup (Ik ⟨_,h1,rfl,n,rfl⟩ ⟨_,eE,rfl,rfl⟩ pl pu .none (by simp) ?_ (by refine eW dp<|eW cg<|eW r1.length ?_;lia)) (hs _);refine l8 _ s.toks rfl W λG' x1 x2=>?_;refine .list (vs:=vs.take k.toNat) (n:=0) ?_ ((r1.take _).mono x1);refine eW x2 ?_
   have:=slicePick_upto' vs.toArray k.toNat;rw[show((k.toNat:Nat):Int)=k by lia]at this;exact eW this rfl
 . have IA:=dP hz
   refine yO Ra hy λt=>sk e ?_;refine qg (typeIs_str s _ t) PySem.F.slot_str_getitem.lookup (wpAny_getItem_str_slice (l:=ql) (u:=qu) (st:=none) ⟨_,eE,rfl,rfl⟩ rfl ?_) (hs _)
   have e1:slicePicked y ql qu none=slicePicked y (l.map λi=>(i,0)) (u.map λi=>(i,0)) none:=by
    delta slicePicked;refine eW ql'<|eW qu' ?_;induction l using aA<;>induction u using aA<;>rfl
   unfold vf sliceMade at IA
   show(sliceMade y t ql qu none).post (PE C G O s (.fv (.str (vf y l u))) wl) s;delta sliceMade vf sliceMade;refine eW e1 ?_;split
   . rename_i hc
     exact mj W (by simp only[hc,if_true];exact .str _ _)
   . rename_i hc
     simp only[hc,if_false]at IA⊢;refine⟨?_,eP _ W (.str _ _)⟩;refine eW dp ?_;delta aaY;exact ak IA (by decide)
theorem VH{a x:EV}{U2:Tok}{sl:aO}(W:bz C G wl s.heap)(Ra:cD C G O h₀ s.heap v a)
 (eE:s.heap.get? sl=some {cls:=.type "slice",data:=.fields #[.none,.none,.int (-1) U2]})(hs:∀o,subscripted slice false o (.ref sl)=operate [o,.ref sl] (getItem o (.ref sl)))(e:JH a=some x):
 aJ C.M A (subscriptTail value slice v (.ref sl)) (PE C G O s x wl) ef s:=by
 refine ob e λxs ha e=>dV e λhz e=>listI W Ra ha λa vs n h1 r1=>sk e ?_
 have IA:=dP hz;refine qg (T:="list") ⟨_,h1,rfl⟩ kG.lookup (Ik ⟨_,h1,rfl,n,rfl⟩ ⟨_,eE,rfl,rfl⟩ .none .none (.int (-1) U2) (by simp) ?_ (by refine eW dp<|eW cg<|eW r1.length ?_;lia)) (hs _);refine l8 _ s.toks rfl W λG' x1 x2=>?_;refine .list (vs:=vs.reverse) (n:=0) ?_ (r1.reverse.mono x1);exact eW x2<|eW (krv_pick ..) rfl
end
theorem o7:∀i<25,∀j<25,(attrName i==attrName j)=(i==j):=by decide+kernel
theorem wo{e:b0}(h:e.key.isStr name=true):getL name (e::i5)=some (some e.val):=by
 unfold getL;exact eW Qa<|eW h rfl
theorem sM{e:b0}{w:aB}(h:e.key.isStr name=false)(q:getL name i5=some (some w)):getL name (e::i5)=some (some w):=by
 unfold getL at q⊢;refine eW Qa<|eW h ?_;induction hf:i5.find? (λx=>x.key.isStr name)using aA with
 |some e'=>rw[hf]at q;exact q
 |none=>rw[hf]at q;simp only at q;split at q<;>cases q
theorem DJ{t:Tok}(hi:i<15)(hj:j<15):(Value.str (attrName i) t).isStr (attrName j)=(i==j):=o7 i (by lia) j (by lia)
theorem key_is{e:b0}{t:Tok}(ht:e.key=.str (attrName i) t)(hi:i<15)(hj:j<15)(hb:(i==j)=b):e.key.isStr (attrName j)=b:=ht▸(DJ hi hj).trans hb
theorem BR:∀{i5:List b0}{fs:List (Nat×FV)}{j:Nat}{d:FV},j<15->bA C G (i5.map (·.val)) (fs.map (·.2))->KeysAre i5 (fs.map (·.1))->fs.lookup j=some d->
 ∃w,getL (attrName j) i5=some (some w)/\Rep C G w d
 |_,[],_,_,_,_,_,h=>nn h
 |[],_::_,_,_,_,_,h,_=>h.elim
 |e::i5,(i,x)::fs,j,d,hj,r,q,h=>jP q λht hi q'=>xE ht λt ht=>V3 h (λej ex=>⟨e.val,wo (key_is ht hi hj (ej▸beq_self_eq_true _)),ex▸(bA.both r).1⟩)
  λhb h=>bS (BR hj (bA.both r).2 q' h) λw e1 e2=>⟨w,sM (key_is ht hi hj (BEq.comm.trans hb)) e1,e2⟩
theorem sO{x:OF}(hj:j<15)(y:f_ C G O h ρ i5 fs)(q:fs.lookup j=some x):
 ∃w,getL (attrName j) i5=some (some w)/\f5 C G O h (ρ (j+2)) w x:=
 y.ind (P:=λi5 fs=>fs.lookup j=some x->∃w,getL (attrName j) i5=some (some w)/\f5 C G O h (ρ (j+2)) w x) (λh=>nn h)
  (λe _ _ _ ht hi a _ ih h=>xE ht λt ht=>V3 h (λej ex=>⟨e.val,wo (key_is ht hi hj (ej▸beq_self_eq_true _)),ej▸ex▸a⟩)
    λhb h=>bS (ih h) λw e1 e2=>⟨w,sM (key_is ht hi hj (BEq.comm.trans hb)) e1,e2⟩) q
theorem wm(h:Rep C G v d):handedIn v=true:=Rep.casesOn (motive_1:=λv _ _=>handedIn v=true) h rfl (λ_=>rfl) (λ_ _=>rfl) (λ_ _=>rfl) (λ_ _=>rfl) (λ_ _=>rfl) (λ_ _ _ _ _=>rfl) (λ_ _=>rfl) (λ_ _ _ _ _=>rfl) (λ_=>rfl) (λ_ _ _ _ _=>rfl) (λ_=>rfl) (λ_=>rfl)
theorem BO{o:OB}(x:dJ C G O h r v o):handedIn v=true:=bS x λa e _=>e▸rfl
theorem QA(B:Base C)(W:bz C G wl s.heap):C.K.In s.heap:=λa o e=>W.sub _ _ (W.base _ _ (B.QA a o e))
theorem OK{e x:EV}(hk:k<15)(W:bz C G wl s.heap)(R:cD C G O h₀ s.heap v e)(h:mr e k=some x):
 ∃a c d i5 n w,v=.ref a/\(CT c).isSome=true/\InstAt s.heap a (instObj c d) c (some (dictOf i5 n))/\getL (attrName k) i5=some (some w)/\handedIn w=true/\cD C G O s.heap s.heap w x:=by
 refine(EV.Aa (P:=λe=>cD C G O h₀ s.heap v e->_) h (λd h R=>ob h λx' h1 h=>om h λd' e1=>(FV.rL (P:=λd=>Rep C G v d->_) h1 λR=>?_) R) λt h R=>ob h λcf h1 h=>om h λf e1=>xE R λρ R=>(OT.rL (P:=λt=>dO C G O s.heap (λk=>some (ρ k)) v t->_) h1 λR=>?_) R) R
 . exact m7 R.inv λa dx i5 n hv q=>kI q λz a b r q=>bS (BR hk r q e1) λw e2 r2=>⟨_,_,_,_,_,w,hv,z,⟨W.sub _ _ a,rfl,rfl,W.sub _ _ b⟩,e2,wm r2,r2⟩
 . exact xA R λhc R=>jG R λa d i5 n R=>iS R λhv _ _ _ h1 R=>uy R λ_ _ _ _ h2 q _=>bS (sO hk q e1) λw e2 r2=>match f,r2 with
    |.fv d',r2=>⟨_,_,_,_,_,w,hv,hc,⟨h1,rfl,rfl,h2⟩,e2,wm r2,r2⟩
    |.ob o,r2=>⟨_,_,_,_,_,w,hv,hc,⟨h1,rfl,rfl,h2⟩,e2,BO r2,λ_=>ρ (k+2),r2⟩
theorem Sn{e x:EV}{expr:Bool}(B:Base C)(hk:k<15)(W:bz C G wl s.heap)(R:cD C G O h₀ s.heap v e)(h:mr e k=some x):
 aJ C.M A (getAttr v (attrName k) expr) (PE C G O s x wl) ef s:=
 jG (OK hk W R h) λa c d i5 h=>IY h λn w e hc I e2 hh r2=>e▸jP (B.wK c hc) λg1 g2 g3=>bS (B.z5 c k hc hk) λattr ha hn=>
  get_value (QA B W) I g1 (findObj_own g3 ha hn e2) hh (eP _ W r2)
theorem Cg{o:af}{attr:bB}{whole:Sem aB}{M:Model}(hn:mJ o=true)(h:aJ M A whole Q E s):aJ M A (attributeBase o attr env whole) Q E s:=by
 induction o using bE with
 |Call f a k p=>
  induction f using bE with
  |Name id q=>induction a using bP with
   |nil=>induction k using bP with
    |nil=>
     have e:(!(id==("super":bB)&&true&&true))=true:=hn;rw[mZ,mZ]at e
     have e2:attributeBase (.Call (.Name id q) [] [] p) attr env whole=whole:=if_pos (by exact eW (show(id !=("super":bB))=true from e) rfl);exact eW e2<|h
    |cons _ _=>exact h
   |cons _ _=>exact h
  |_=>exact h
 |_=>exact h
theorem Lm{attr:bB}{pos:dN}(hn:mJ value=true)
 (h:aJ C.M A (eval value env) (λo aM=>aJ C.M A (getAttr o attr true) Q E aM) E s):aJ C.M A (eval (.Attribute value attr pos) env) Q E s:=by
 show aJ C.M A (do
  let o<-attributeBase value attr env (eval value env)
  standAt pos.atName
  let r<-holding [o] (getAttr o attr true)
  letTemporaryGo value o r
  pure r) Q E s
 refine ai (dR (Cg hn h) (λo aM kq=>?_) λ_ _ q=>q);refine ai (b_ (ai (bL (dR kq (λr bZ wh=>?_) λ_ _ q=>q))));exact ai (wpAny_letTemporaryGo (ar wh))
section
variable
 {r':Option Role}{MZ:Nat->Option Role}
theorem dJ.relabel{o:OB}(q:∀a,O a=r->O' a=r')(x:dJ C G O h r v o):dJ C G O' h r' v o:=dU x λa h1 h2 h3=>⟨a,h1,q a h2,h3⟩
theorem gv.relabel(q:∀a k,O a=ρ k->O' a=MZ k)(y:gv C G O h ρ k vs iH):gv C G O' h MZ k vs iH:=y.ind (λ_=>trivial) λk _ _ _ _ a _ ih=>⟨a.relabel (q · k),ih⟩
theorem f5.relabel{o:OF}(q:∀a,O a=r->O' a=r')(x:f5 C G O h r v o):f5 C G O' h r' v o:=match o,x with
 |.fv d,x=>x
 |.ob o,x=>dJ.relabel q x
theorem f_.relabel(q:∀a k,O a=ρ k->O' a=MZ k){es:List b0}(y:f_ C G O h ρ es fs):f_ C G O' h MZ es fs:=y.ind trivial λ_ _ _ _ a b c _ ih=>⟨a,b,c.relabel (q · _),ih⟩
theorem dO.relabel(q:∀a k,O a=ρ k->O' a=MZ k)(y:dO C G O h ρ v t):dO C G O' h MZ v t:=match t,y with
 |.ob o,y=>dJ.relabel (q · 0) y
 |.gr iH,y=>j9 y λa vs n hv y=>kI y λhO h1 h2 h3 h4=>⟨a,vs,n,hv,q _ _ hO,h1,h2,h3,h4.relabel q⟩
 |.inst c fs,y=>xA y λhc y=>jG y λa d i5 n y=>iS y λhv hO h1 h2 h3 y=>kI y λuM h4 h5 h6 y=>⟨hc,a,d,i5,n,hv,q _ _ hO,h1,h2,h3,q _ _ uM,h4,h5,h6,y.1,y.2.1.relabel q,y.2.2⟩
def nV(C:Cx)(G:Gh)(O bq:aO->Option Role)(h:eu)(i:Nat)(v:aB):EV->Prop
 |.fv d=>Rep C G v d
 |.bor t=>∃ρ:Nat->Role,dO C G O h (λk=>some (ρ k)) v t
 |.own t=>dO C G bq h (λk=>some (.own i k)) v t
def dC(C:Cx)(G:Gh)(O bq:aO->Option Role)(h:eu):Nat->List aB->List EV->Prop
 |_,[],[]=>True
 |i,v::vs,e::es=>nV C G O bq h i v e/\dC C G O bq h (i+1) vs es
 |_,_,_=>False
@[elab_as_elim] theorem dC.ind{P:Nat->List aB->List EV->Prop}{es:List EV}(y:dC C G O bq h i vs es)(h0:∀i,P i [] [])
   (h1:∀i v vs e es,nV C G O bq h i v e->dC C G O bq h (i+1) vs es->P (i+1) vs es->P i (v::vs) (e::es)):P i vs es:=
  l2 (P:=λvs es=>∀i,dC C G O bq h i vs es->P i vs es) vs es (λi _=>h0 i) (λv vs e es ih i y=>h1 i v vs e es y.1 y.2 (ih (i+1) y.2)) (λ_ _ _ y=>dW y) (λ_ _ _ y=>dW y) i y
@[elab_as_elim] theorem Xg{P:List aB->Prop}{e:EV}(y:dC C G O bq h i vs [e])(k:∀v,nV C G O bq h i v e->P [v]):P vs:=
  vs.casesOn (motive:=λvs=>dC C G O bq h i vs [e]->P vs) (λy=>dW y) (λv r=>r.casesOn (motive:=λr=>dC C G O bq h i (v::r) [e]->P (v::r)) (λy=>k v y.1) λ_ _ y=>dW y.2) y
def nU(C:Cx)(G:Gh)(h₀ h:eu)(i:Nat)(bq:aO->Option Role):Prop:=
 ∀a r,bq a=some r->h₀.get? a=none/\(∃j k,r=.own j k/\i<=j/\k≠nZ)/\G.F a=none/\eQ C G a/\∃o,h.get? a=some o
def Ct(C:Cx)(G:Gh)(h₀ h:eu)(bq:aO->Option Role):Prop:=
 ∀a r,bq a=some r->h₀.get? a=none/\(∃j k,r=.own j k)/\G.F a=none/\eQ C G a/\∃o,h.get? a=some o
theorem nU.w(m:nU C G h₀ h i bq):Ct C G h₀ h bq:=λa r e=>jP (m a r e) λq1 q2 q3=>⟨q1,gf q2 λj k q _=>⟨j,k,q⟩,q3⟩
def uZ(C:Cx)(G:Gh)(O:aO->Option Role)(h₀ h:eu)(i:Nat)(vs:List aB)(es:List EV):Prop:=
 ∃bq,nU C G h₀ h i bq/\dC C G O bq h i vs es
theorem uZ.nil:uZ C G O h₀ h i [] []:=⟨λ_=>none,λ_ _ e=>(nomatch e),trivial⟩
theorem nV.relabel{nT:aO->Option Role}{e:EV}(q:∀a k,bq a=some (.own i k)->nT a=some (.own j k))(x:nV C G O bq h i v e):nV C G O nT h j v e:=match e,x with
 |.fv _,x=>x
 |.bor _,x=>x
 |.own _,x=>dO.relabel q x
theorem dC.relabel{nT:aO->Option Role}{es:List EV}(q:∀a j k,i<=j->bq a=some (.own j k)->nT a=some (.own j k))(y:dC C G O bq h i vs es):dC C G O nT h i vs es:=
 y.ind (P:=λi vs es=>(∀a j k,i<=j->bq a=some (.own j k)->nT a=some (.own j k))->dC C G O nT h i vs es) (λ_ _=>trivial) (λi _ _ _ _ x _ ih q=>⟨x.relabel λa k e=>q a i k (aT _) e,ih λa j k hj e=>q a j k (fN hj) e⟩) q
theorem nU.vt(k:∀a o,h₀.get? a=some o->∃o',kq.get? a=some o')(y:nU C G kq h i bq):nU C G h₀ h i bq:=λa r e=>⟨none_of (k a) (y a r e).1,(y a r e).2⟩
theorem nU.less(l:j<=i)(y:nU C G h₀ h i bq):nU C G h₀ h j bq:=λa r e=>⟨(y a r e).1,cM (y a r e).2.1 λn k q1 q2 q3=>⟨n,k,q1,ak l q2,q3⟩,(y a r e).2.2⟩
noncomputable def A8(bq nT:aO->Option Role)(i:Nat)(a:aO):Option Role:=(nT a).elim (bq a) λr=>match r with
 |.own _ k=>some (.own i k)
 |r=>some r
theorem uZ.cons{es:List EV}{e:EV}(H:cD C G O h₀ h v e)(al:∀a o,h₀.get? a=some o->∃o',kq.get? a=some o')
 (hm:∀bq:aO->Option Role,(∀a r,bq a=some r->kq.get? a=none)->∀t,e=.own t->∃nT:aO->Option Role,(∀a r,nT a=some r->bq a=none/\h₀.get? a=none/\(∃k,r=.own 0 k/\k≠nZ)/\G.F a=none/\eQ C G a/\∃o,h.get? a=some o)/\dO C G nT h (λk=>some (.own 0 k)) v t)
 (T:uZ C G O kq h (i+1) vs es):uZ C G O h₀ h i (v::vs) (e::es):=bS T λbq m x=>match e,H,hm with
 |.fv d,H,_=>⟨bq,(m.vt al).less (iq i),H,x⟩
 |.bor t,H,_=>⟨bq,(m.vt al).less (iq i),H,x⟩
 |.own t,H,hm=>bS (hm bq (λa r e=>(m a r e).1) t rfl) λnT p y=>⟨A8 bq nT i,λa r e=>by
   unfold A8 at e;induction e2:nT a using aA with
   |none=>rw[e2]at e;exact(m.vt al).less (iq i) a r e
   |some r'=>
    rw[e2]at e;exact fA (p a r' e2) λ_ q1 q2 q4=>bS q2 λk q2 q3=>by subst q2;exact sk e ⟨q1,⟨i,k,rfl,aT _,q3⟩,q4⟩,
  dO.relabel (O':=A8 bq nT i) (MZ:=λk=>some (.own i k)) (λa k e=>by unfold A8;exact eW e rfl) y,dC.relabel (λa j k hj e=>by
   unfold A8;induction q:nT a using aA with
   |none=>exact e
   |some r=>exact gone (p a r q).1 e) x⟩
theorem dC.xR{es:List EV}(y:dC C G O bq h i vs es)(e:xR es=some ds):bA C G vs ds:=
 y.ind (P:=λ_ vs es=>∀ds,Mine.xR es=some ds->bA C G vs ds) (λ_ ds e=>sk (P:=λds=>bA C G [] ds) e .nil) (λi v _ _ _ x _ ih _ q=>ob q λd h1 q=>om q λds' q1=>.cons ((eh (P:=λe=>nV C G O bq h i v e->Rep C G v d) h1 λx=>x) x) (ih _ q1)) _ e
structure Here(C:Cx)(G:Gh)(O:aO->Option Role)(sc:Sc)(ns:List bB)(env:qZ)(fr:List Slot)(wl:WL)(k:Nat)(A:fF)(s:aN):Prop where
 base:Base C
 room:Mg k sc.lv A
 W:bz C G wl s.heap
 F:cJ C G O sc ns env fr s.heap
theorem Here.step(H:Here C G O sc ns env fr wl k A s)(x:Step C G G' s s')(W:bz C G' bQ s'.heap):Here C G' O sc ns env fr bQ k A s':=⟨H.base,H.room,W,H.F.step x⟩
def T6(C:Cx)(bp:my)(k:Nat)(sc:Sc)(ns:List bB)(e:af)(ir:IE):Prop:=
 ∀(G:Gh)(O:aO->Option Role)(env:qZ)(A:fF)(s:aN)(fr:List Slot)(wl:WL)(x:EV)(bQ:WL),ev bp ir fr wl=some (x,bQ)->Here C G O sc ns env fr wl k A s->
  aJ C.M A (eval e env) (PE C G O s x bQ) ef s
def PB(C:Cx)(G:Gh)(s:aN)(b:Bool)(wl:WL)(r:Bool)(s':aN):Prop:=r=b/\∃G',Step C G G' s s'/\bz C G' wl s'.heap
theorem PB.after{r:Bool}(x:Step C G G' s s')(y:PB C G' s' b wl r qm):PB C G s b wl r qm:=RD y λh1 G2 h2 h3=>⟨h1,G2,x.trans h2,h3⟩
def aaN(C:Cx)(bp:my)(k:Nat)(sc:Sc)(ns:List bB)(e:af)(ir:IE):Prop:=
 ∀(G:Gh)(O:aO->Option Role)(env:qZ)(A:fF)(s:aN)(fr:List Slot)(wl:WL)(b:Bool)(bQ:WL),eK bp ir fr wl=some (b,bQ)->Here C G O sc ns env fr wl k A s->
  aJ C.M A (isTrue e env (eval e env)) (PB C G s b bQ) ef s
noncomputable def notStar(e:af):Bool:= !c5 e.ctorIdx 22
structure dT(C:Cx)(bp:my)(k:Nat)(sc:Sc)(ns:List bB)(e:af)(ir:IE):Prop where
 v:T6 C bp k sc ns e ir
 t:aaN C bp k sc ns e ir
 star:notStar e=true
theorem PE.go{e:EV}{t:Sem aB}{α:Type}{f:aB->Sem α}{Q:α->aN->Prop}(h:aJ C.M A t (PE C G O s e wl) ef s)(k:∀v aM G1,Step C G G1 s aM->bz C G1 wl aM.heap->cD C G1 O s.heap aM.heap v e->aJ C.M A (f v) Q E aM):aJ C.M A (t>>=f) Q E s:=
 ai (cX h λv aM h=>dU h λG1 x W R=>k v aM G1 x W R)
theorem PE.to{e:EV}{t:Sem aB}(h:aJ C.M A t (PE C G O s e wl) ef s)(k:∀v aM G1,Step C G G1 s aM->bz C G1 wl aM.heap->cD C G1 O s.heap aM.heap v e->Q v aM):aJ C.M A t Q E s:=
 cX h λv aM h=>dU h λG1 x W R=>k v aM G1 x W R
theorem dT.mk'(h:T6 C bp k sc ns e ir)(he:∀env whole,isTrue e env whole=(do let v<-whole;standAt e.pos;holding [v] (truthy v)))
 (hi:∀fr wl,eK bp ir fr wl=(ev bp ir fr wl).bind λx=>(iT x.1).map λb=>(b,x.2))(hs:notStar e=true):dT C bp k sc ns e ir:=
 ⟨h,λG O env A s fr wl b bQ q H=>f7 ((hi fr wl).symm.trans q) λx wl1 q1 q2=>tK q2 λb' q2=>by
   exact eW (he ..)<|PE.go (h G O env A s fr wl x _ q1 H) λv aM G1 x1 W1 R1=>ai (b_ (bL (uE W1 R1 q2 λtk=>⟨rfl,G1,x1.trans (.tok C G1 aM tk),W1⟩))),hs⟩
theorem dT.run{a:IE}{x:EV}(ha:dT C bp k sc ns e a)(H:Here C G O sc ns env fr wl k A s)(q:ev bp a fr wl=some (x,bQ))
 (g:∀v aM G1,Step C G G1 s aM->Here C G1 O sc ns env fr bQ k A aM->cD C G1 O s.heap aM.heap v x->Q v aM):aJ C.M A (eval e env) Q E s:=
 PE.to (ha.v G O env A s fr wl x bQ q H) λv aM G1 x1 W1 R1=>g v aM G1 x1 (H.step x1 W1) R1
theorem dT.C3{a:IE}{Q:Bool->aN->Prop}(ha:dT C bp k sc ns e a)(H:Here C G O sc ns env fr wl k A s)(q:eK bp a fr wl=some (b,bQ))
 (g:∀aM G1,Step C G G1 s aM->Here C G1 O sc ns env fr bQ k A aM->Q b aM):aJ C.M A (isTrue e env (eval e env)) Q E s:=
 cX (ha.t G O env A s fr wl b bQ q H) λr aM h=>RD h λe G1 x1 W1=>e▸g aM G1 x1 (H.step x1 W1)
theorem PE.back{e:EV}{t:Sem aB}(x:Step C G G' s s')(h:aJ C.M A t (PE C G' O s' e wl) ef bZ):aJ C.M A t (PE C G O s e wl) ef bZ:=cX h λ_ _ h=>h.after x
theorem PB.back{t:Sem Bool}(x:Step C G G' s s')(h:aJ C.M A t (PB C G' s' b wl) ef bZ):aJ C.M A t (PB C G s b wl) ef bZ:=cX h λ_ _ h=>h.after x
theorem uJ(H:Here C G O sc ns env fr wl k A s):s.heap.Ns bM C.mg:=H.base.g.at' λ_ e=>H.W.sub _ _ (H.W.base _ _ e)
theorem Bh(H:Here C G O sc ns env fr wl k A s):s.heap.Ns dq C.mb:=H.base.b.at' λ_ e=>H.W.sub _ _ (H.W.base _ _ e)
theorem AS{x:EV}(S:cT C G O s.heap i sl ov)(h:sl.GQ=some x):∃v,ov=some v/\cD C G O s.heap s.heap v x:=match sl,S,h with
 |.unset,_,h=>nn h
 |.val d,S,h=>sk h S
 |.own t,S,h=>bS S λv e q=>sk h ⟨v,e,λk=>.own i k,q⟩
 |.ro d,S,h=>sk h S
 |.bor t,S,h=>bS S λv e q=>sk h ⟨v,e,λ_=>.kj,q⟩
theorem Ko{e:EV}(hx:ns[i]?=some x)(hc:(x==("__classdict__":bB))=false)(F:cJ C G O sc ns env fr s.heap)(hs:fr[i]?=some sl)(he:sl.GQ=some e):
 ∃v,cD C G O s.heap s.heap v e/\∀(M:Model)(A:fF)(Q:aB->aN->Prop)(E:aB->aN->Prop),Q v s->aJ M A (loadName env x) Q E s:=
 if hk:env.kindOf x=some .local then bS F.loc λm hm q=>bS (AS (q i x sl hx hs hk) he) λv e1 r1=>⟨v,r1,λM A Q E hQ=>P2 F.fn hk hm e1 hQ⟩
 else xA (F.pY i x sl hx hs hk) λsL q=>iR q λc ov e1 e2 e3 _=>bS (AS e3 he) λv ev r1=>⟨v,r1,λM A Q E hQ=>sL.elim (λsL=>Q_ F.fn sL e1 (ev▸e2) hQ) λsL=>Q' F.fn sL e1 (ev▸e2) hQ hc⟩
theorem Ql{pos:dN}(hx:ns[i]?=some x)(hd:(x==("__debug__":bB))=false)(hc:(x==("__classdict__":bB))=false):dT C bp k sc ns (.Name x pos) (.var i):=
 .mk' (λG O env A s fr wl e bQ q H=>ob (fi.symm.trans q) λsl hs q=>tK q λe' q1=>bS (Ko hx hc H.F hs q1) λv r1 hl=>qL (hl _ _ _ _ (mj H.W r1)) hd) (λ_ _=>rfl) (λ_ _=>dg rfl) rfl
theorem Vg{c:Const}{n:Nat}{pos:dN}(hc:uU c=some d):dT C bp k sc ns (.Constant c n pos) (.lit d):=
 .mk' (λG O env A s fr wl e bQ q H=>sp q<|match c,hc with
  |.none,hc=>sk hc (ar (mj (e:=.fv _) H.W .none))
  |.bool b,hc=>sk hc (ar (mj (e:=.fv _) H.W (.bool b)))
  |.int i,hc=>sk hc (Uc (eP (e:=.fv _) _ H.W (.int i _)))
  |.str x,hc=>sk hc (Calls.Constant_str (eP (e:=.fv _) _ H.W (.str x _)))
  |.float _,hc=>nn hc
  |.complex _ _,hc=>nn hc
  |.bytes _,hc=>nn hc
  |.ellipsis,hc=>nn hc) (λ_ _=>rfl) (λ_ _=>dg rfl) rfl
theorem Ts(h:KX x d=true):GT.lookup x=some d:=oS h λe h=>congrArg some (si d e h).symm
theorem Vk{pos:dN}(hx:sc.s.names.lookup x=some .globalImplicit)(hg:KX x d=true)(hd:(x==("__debug__":bB))=false):dT C bp k sc ns (.Name x pos) (.bc d):=
 .mk' (λG O env A s fr wl e bQ q H=>sp q<|bS (H.base.gt x d (Ts hg)) λv h1 h2=>
  x9 H.F.fn (H.F.gl x hx) (Calls.loadGlobal_global (by exact eW H.F.glob<|uJ H) h1 (mj (e:=.fv d) H.W (h2 _ H.W.base))) hd) (λ_ _=>rfl) (λ_ _=>dg rfl) rfl
theorem Vn{l r:af}{op:Operator}{pos:dN}{a b:IE}(ha:dT C bp k sc ns l a)(hb:dT C bp k sc ns r b):dT C bp k sc ns (.BinOp l op r pos) (.bin op a b):=
 .mk' (λG O env A s fr wl e bQ q H=>f7 (Li.symm.trans q) λx w1 q1 q=>f7 q λy w2 q2 q=>tK q λz q3=>
  wpAny_BinOp (PE.to (ha.v G O env A s fr wl x w1 q1 H) λv aM G1 x1 W1 R1=>PE.to (hb.v G1 O env A aM fr w1 y w2 q2 (H.step x1 W1)) λu bZ G2 x2 W2 R2=>
   cX (VM W2 (R1.step x2) R2 q3) λv et h=>h.after (x1.trans x2))) (λ_ _=>rfl) (λ_ _=>dg rfl) rfl
theorem Zb{op:UnaryOp}{pos:dN}{a:IE}(ha:dT C bp k sc ns e a):dT C bp k sc ns (.UnaryOp op e pos) (.un op a):=
 have hE:T6 C bp k sc ns (.UnaryOp op e pos) (.un op a):=λG O env A s fr wl r bQ q H=>f7 (QX.symm.trans q) λx w1 q1 q=>tK q λz q3=>
  PE.go (f:=λv=>do standAt pos;holding [v] (unaryOp op v)) (ha.v G O env A s fr wl x w1 q1 H) λv aM G1 x1 W1 R1=>ai (b_ (bL (cX (Zp W1 R1 q3) λv et h=>h.after x1)))
 match op,hE with
 |.Not,hE=>⟨hE,λG O env A s fr wl b bQ q H=>Yb (P:=λy=>y=(b,bQ)->aJ C.M A (isTrue (.UnaryOp .Not e pos) env (eval (.UnaryOp .Not e pos) env)) (PB C G s b bQ) ef s) (FW.symm.trans q) (λb' w1 q1 e=>pk e
   (ai (f:=λr=>pure !r) (cX (ha.t G O env A s fr wl b' w1 q1 H) λr aM h=>ar ⟨congrArg (!·) h.1,h.2⟩))) rfl,rfl⟩
 |.USub,hE=>.mk' hE (λ_ _=>rfl) (λ_ _=>dg rfl) rfl
 |.UAdd,hE=>.mk' hE (λ_ _=>rfl) (λ_ _=>dg rfl) rfl
 |.Invert,hE=>.mk' hE (λ_ _=>rfl) (λ_ _=>dg rfl) rfl
end
def fO(P:af->IE->Prop):List af->IL->Prop
 |[],.nil=>True
 |e::es,.cons a r=>P e a/\fO P es r
 |_,_=>False
@[elab_as_elim] theorem fO.ind{R:af->IE->Prop}{P:List af->IL->Prop}(L:fO R es il)(h0:P [] .nil)(h1:∀e es a il,R e a->fO R es il->P es il->P (e::es) (.cons a il)):P es il:=
  t_ (motive:=λes=>∀il,fO R es il->P es il) (λil=>IL.casesOn (motive_2:=λil=>fO R [] il->P [] il) il (λ_=>h0) λ_ _ L=>dW L)
   (λe es ih il=>IL.casesOn (motive_2:=λil=>fO R (e::es) il->P (e::es) il) il (λL=>dW L) λa il L=>h1 e es a il L.1 L.2 (ih il L.2)) es il L
@[elab_as_elim] theorem fO.cases{R:af->IE->Prop}{P:List af->IL->Prop}(L:fO R es il)(h0:P [] .nil)(h1:∀e es a il,R e a->fO R es il->P (e::es) (.cons a il)):P es il:=L.ind h0 λe es a il x y _=>h1 e es a il x y
def PL(C:Cx)(G:Gh)(O:aO->Option Role)(s:aN)(i:Nat)(xs:List EV)(wl:WL)(vs:List aB)(s':aN):Prop:=
 ∃G',Step C G G' s s'/\bz C G' wl s'.heap/\uZ C G' O s.heap s'.heap i vs xs
theorem BY{es:List EV}{e:EV}(x1:Step C G G1 s aM)(R:cD C G1 O s.heap aM.heap v e)(x2:Step C G1 G2 aM bZ)
 (T:uZ C G2 O aM.heap bZ.heap (i+1) vs es):uZ C G2 O s.heap bZ.heap i (v::vs) (e::es):=
 uZ.cons (R.step x2) (λa o q=>x1.alive a o q) (λbq h1 t ht=>by
  subst ht;exact bS R λnT p y=>⟨nT,λa r e=>m_ (p a r e) λq1 q2 q3 q4 o q5=>⟨none_of (y:=(none:Option Role)) (λr' q=>gone (h1 a r' q) q5) rfl,q1,q2,x2.An q3 q5,x2.free q4 q5,o,x2.keep _ _ q4 q5⟩,y.step x2⟩) T
theorem mG(h:notStar e=true):starEach (e::es) env=(false,eval e env)::starEach es env:=by
 induction e using bE<;>first|rfl|exact ff h
theorem qx(L:fO (dT C bp k sc ns) es il):∀(G:Gh)(O:aO->Option Role)(env:qZ)(A:fF)(s:aN)(fr:List Slot)(wl:WL)(xs:List EV)(bQ:WL)(pos:dN)(i:Nat),
 ou bp il fr wl=some (xs,bQ)->Here C G O sc ns env fr wl k A s->aJ C.M A (spliced (backTo pos (starEach es env))) (PL C G O s i xs bQ) ef s:=
 L.ind (λG O env A s fr wl xs bQ pos i q H=>sp q (mC ⟨G,.refl C G s,H.W,.nil⟩)) λe es a il La _ ih G O env A s fr wl xs bQ pos i q H=>f7 (ky.symm.trans q) λx w1 q1 q=>Yb (P:=λy=>y=(xs,bQ)->_) q (λys w2 q2 e'=>pk e' (by
  exact eW (mG La.star)<|rX (La.run H q1 λv aM G1 x1 H1 R1=>cX (ih G1 O env A aM fr w1 ys w2 pos (i+1) q2 H1) λvs bZ h=>dU h λG2 x2 W2 R2=>⟨G2,x1.trans x2,W2,BY x1 R1 x2 R2⟩))) rfl
theorem qE{P:af->IE->Prop}(L:fO P es il){xs:List EV}(q:ou bp il fr wl=some (xs,bQ)):xs.length=es.length:=
 L.ind (P:=λes il=>∀fr wl xs bQ,ou bp il fr wl=some (xs,bQ)->xs.length=es.length) (λ_ _ xs _ q=>sp (P:=λxs _=>xs.length=0) q rfl) (λe es a il _ _ ih fr wl xs bQ q=>f7 (ky.symm.trans q) λx w1 q1 q=>Yb (P:=λy=>y=(xs,bQ)->_) q (λys w2 q2 e'=>pk (P:=λxs _=>xs.length=es.length+1) e' (congrArg (·+1) (ih _ _ _ _ q2))) rfl) fr wl xs bQ q
theorem dC.length{es:List EV}(y:dC C G O bq h i vs es):vs.length=es.length:=y.ind (λ_=>rfl) λ_ _ _ _ _ _ _ ih=>congrArg (·+1) ih
theorem R_(L:fO (dT C bp k sc ns) es il):∀(G:Gh)(O:aO->Option Role)(env:qZ)(A:fF)(s:aN)(fr:List Slot)(wl:WL)(x:EV)(bQ:WL)(pos:dN),
 sQ bp il fr wl=some (x,bQ)->Here C G O sc ns env fr wl k A s->aJ C.M A (eval (.BoolOp .And es pos) env) (PE C G O s x bQ) ef s:=
 L.ind (λG O env A s fr wl xs bQ pos q H=>nn q) λe es a il La Lr=>Lr.cases (λ_ G O env A s fr wl xs bQ pos q H=>BoolOp_one (La.v G O env A s fr wl xs bQ q H))
  λe' es a' il _ _ ih G O env A s fr wl x bQ pos q H=>f7 (tS.symm.trans q) λy w1 q1 q=>ob q λb q2 q3=>BoolOp_and (La.run H q1 λv aM G1 x1 H1 R1=>uE H1.W R1 q2 λtk=>
   have x2:=Step.tok C G1 aM tk
   bk q3 (λq3=>PE.back (x1.trans x2) (ih G1 O env A {aM with toks:=tk} fr w1 x bQ pos q3 (H1.step x2 H1.W))) λq3=>sp q3 ⟨G1,x1.trans x2,H1.W,R1⟩)
theorem Vd(L:fO (dT C bp k sc ns) es il):∀(G:Gh)(O:aO->Option Role)(env:qZ)(A:fF)(s:aN)(fr:List Slot)(wl:WL)(x:EV)(bQ:WL)(pos:dN),
 BW bp il fr wl=some (x,bQ)->Here C G O sc ns env fr wl k A s->aJ C.M A (eval (.BoolOp .Or es pos) env) (PE C G O s x bQ) ef s:=
 L.ind (λG O env A s fr wl xs bQ pos q H=>nn q) λe es a il La Lr=>Lr.cases (λ_ G O env A s fr wl xs bQ pos q H=>BoolOp_one (La.v G O env A s fr wl xs bQ q H))
  λe' es a' il _ _ ih G O env A s fr wl x bQ pos q H=>f7 (D8.symm.trans q) λy w1 q1 q=>ob q λb q2 q3=>BoolOp_or (La.run H q1 λv aM G1 x1 H1 R1=>uE H1.W R1 q2 λtk=>
   have x2:=Step.tok C G1 aM tk
   bk q3 (λq3=>sp q3 ⟨G1,x1.trans x2,H1.W,R1⟩) λq3=>PE.back (x1.trans x2) (ih G1 O env A {aM with toks:=tk} fr w1 x bQ pos q3 (H1.step x2 H1.W)))
theorem Vq(L:fO (dT C bp k sc ns) es il):∀(G:Gh)(O:aO->Option Role)(env:qZ)(A:fF)(s:aN)(fr:List Slot)(wl:WL)(b:Bool)(bQ:WL),
 fI bp il fr wl=some (b,bQ)->Here C G O sc ns env fr wl k A s->aJ C.M A (allTrue .And es env) (PB C G s b bQ) ef s:=
 L.ind (λG O env A s fr wl b bQ q H=>sp q (ar ⟨rfl,G,.refl C G s,H.W⟩)) λe es a il La _ ih G O env A s fr wl b bQ q H=>f7 (nK.symm.trans q) λc w1 q1 q3=>
  show aJ C.M A (do match BoolOp.And,<-isTrue e env (eval e env)with|.And,false=>pure false|.Or,true=>pure true|_,_=>allTrue .And es env) _ _ _ from
  ai (La.C3 H q1 λaM G1 x1 H1=>bk (b:=c) q3 (λq3=>PB.back x1 (ih G1 O env A aM fr w1 b bQ q3 H1)) λq3=>sp q3 (ar ⟨rfl,G1,x1,H1.W⟩))
theorem Vo(L:fO (dT C bp k sc ns) es il):∀(G:Gh)(O:aO->Option Role)(env:qZ)(A:fF)(s:aN)(fr:List Slot)(wl:WL)(b:Bool)(bQ:WL),
 qr bp il fr wl=some (b,bQ)->Here C G O sc ns env fr wl k A s->aJ C.M A (allTrue .Or es env) (PB C G s b bQ) ef s:=
 L.ind (λG O env A s fr wl b bQ q H=>sp q (ar ⟨rfl,G,.refl C G s,H.W⟩)) λe es a il La _ ih G O env A s fr wl b bQ q H=>f7 (D9.symm.trans q) λc w1 q1 q3=>
  show aJ C.M A (do match BoolOp.Or,<-isTrue e env (eval e env)with|.And,false=>pure false|.Or,true=>pure true|_,_=>allTrue .Or es env) _ _ _ from
  ai (La.C3 H q1 λaM G1 x1 H1=>bk (b:=c) q3 (λq3=>sp q3 (ar ⟨rfl,G1,x1,H1.W⟩)) λq3=>PB.back x1 (ih G1 O env A aM fr w1 b bQ q3 H1))
theorem Vp{pos:dN}(L:fO (dT C bp k sc ns) es il):dT C bp k sc ns (.BoolOp .And es pos) (.ig il):=
 ⟨λG O env A s fr wl x bQ q H=>R_ L G O env A s fr wl x bQ pos q H,λG O env A s fr wl b bQ q H=>Vq L G O env A s fr wl b bQ (BV.symm.trans q) H,rfl⟩
theorem Zc{pos:dN}(L:fO (dT C bp k sc ns) es il):dT C bp k sc ns (.BoolOp .Or es pos) (.uG il):=
 ⟨λG O env A s fr wl x bQ q H=>Vd L G O env A s fr wl x bQ pos q H,λG O env A s fr wl b bQ q H=>Vo L G O env A s fr wl b bQ (FU.symm.trans q) H,rfl⟩
theorem nv(h:gV e=true):behindInMarks op e=false:=by induction e using bE<;>first|rfl|exact ff h
theorem Vm{l r:af}{pos:dN}{a b:IE}(ha:dT C bp k sc ns l a)(hb:dT C bp k sc ns r b)(hr:gV r=true):dT C bp k sc ns (.Compare l [op] [r] pos) (.cmp op a b):=
 ⟨λG O env A s fr wl e bQ q H=>f7 (z1.symm.trans q) λx w1 q1 q=>f7 q λy w2 q2 q=>tK q λz q3=>
   wpAny_Compare1 (ha.run H q1 λv aM G1 x1 H1 R1=>hb.run H1 q2 λu bZ G2 x2 H2 R2=>yo H.room H2.W (R1.step x2) R2 q3 λtk=>(eP (e:=.fv (.bool _)) tk H2.W (Rep.bool _)).after (x1.trans x2)) (nv hr),
  λG O env A s fr wl e bQ q H=>f7 (Ph.symm.trans q) λx w1 q1 q=>f7 q λy w2 q2 q=>tK q λz q3=>by
   refine eW (isTrue_Compare1 ..) ?_;refine ai (ha.run H q1 λv aM G1 x1 H1 R1=>?_);exact eW (markedBehindIn_of_false (nv hr))<|ai (bL (hb.run H1 q2 λu bZ G2 x2 H2 R2=>ai (b_ (ai (wpAny_operate' (yo H.room H2.W (R1.step x2) R2 q3 λtk=>
    bL (kE ⟨rfl,G2,(x1.trans x2).trans (.tok C G2 bZ tk),H2.W⟩)))))))
   ,rfl⟩
theorem NA{l r1 r2:af}{pos:dN}{a b c:IE}(ha:dT C bp k sc ns l a)(hb:dT C bp k sc ns r1 b)(hc:dT C bp k sc ns r2 c)(hr:gV r2=true):
 dT C bp k sc ns (.Compare l [o1,o2] [r1,r2] pos) (.chain o1 o2 a b c):=
 ⟨λG O env A s fr wl e bQ q H=>f7 (BU.symm.trans q) λx w1 q1 q=>f7 q λy w2 q2 q=>ob q λz q3 q4=>
   Compare_chain (ha.run H q1 λv aM G1 x1 H1 R1=>chain_link (hb.run H1 q2 λu bZ G2 x2 H2 R2=>yo H.room H2.W (R1.step x2) R2 q3 λtk=>kE (
    have t2:=Step.tok C G2 bZ tk
    have x3:=(x1.trans x2).trans t2
    match z,q4 with
    |true,q4=>f7 q4 λz w3 q4 q=>tK q λr q5=>chain_last (hc.run (H2.step t2 H2.W) q4 λu' et G3 x4 H3 R3=>yo H.room H3.W ((R2.step t2).step x4) R3 q5 λtk=>(eP (e:=.fv (.bool _)) tk H3.W (Rep.bool _)).after (x3.trans x4))
    |false,q4=>sp q4 ⟨G2,x3,H2.W,.bool _⟩))) (nv hr),
  λG O env A s fr wl e bQ q H=>f7 (yK.symm.trans q) λx w1 q1 q=>f7 q λy w2 q2 q=>ob q λz q3 q4=>
   isTrue_chain (ha.run H q1 λv aM G1 x1 H1 R1=>test_link (hb.run H1 q2 λu bZ G2 x2 H2 R2=>yo H.room H2.W (R1.step x2) R2 q3 λtk=>kE (
    have t2:=Step.tok C G2 bZ tk
    have x3:=(x1.trans x2).trans t2
    match z,q4 with
    |true,q4=>f7 q4 λz w3 q4 q=>tK q λr q5=>test_last (hc.run (H2.step t2 H2.W) q4 λu' et G3 x4 H3 R3=>yo H.room H3.W ((R2.step t2).step x4) R3 q5 λtk=>kE ⟨rfl,G3,(x3.trans x4).trans (.tok C G3 et tk),H3.W⟩)
    |false,q4=>sp q4 ⟨rfl,G2,x3,H2.W⟩))) (nv hr),rfl⟩
theorem Vi{t x y:af}{pos:dN}{a b c:IE}(ht:dT C bp k sc ns t a)(hx:dT C bp k sc ns x b)(hy:dT C bp k sc ns y c):dT C bp k sc ns (.IfExp t x y pos) (.ite a b c):=
 ⟨λG O env A s fr wl e bQ q H=>f7 (D7.symm.trans q) λz w1 q1 q2=>wpAny_IfExp (ht.C3 H q1 λaM G1 x1 H1=>match z,q2 with
   |true,q2=>PE.back x1 (hx.v G1 O env A aM fr w1 e bQ q2 H1)
   |false,q2=>PE.back x1 (hy.v G1 O env A aM fr w1 e bQ q2 H1)),
  λG O env A s fr wl e bQ q H=>f7 (Pg.symm.trans q) λz w1 q1 q2=>by
   show aJ C.M A (do if<-isTrue t env (eval t env)then isTrue x env (eval x env)else isTrue y env (eval y env)) _ _ _;exact ai (ht.C3 H q1 λaM G1 x1 H1=>match z,q2 with
    |true,q2=>PB.back x1 (hx.t G1 O env A aM fr w1 e bQ q2 H1)
    |false,q2=>PB.back x1 (hy.t G1 O env A aM fr w1 e bQ q2 H1)),rfl⟩
theorem Vj{pos:dN}{a b:IE}(ha:dT C bp k sc ns value a)(hb:dT C bp k sc ns slice b)(hs:gp slice=true):dT C bp k sc ns (.Subscript value slice pos) (.idx a b):=
 .mk' (λG O env A s fr wl e bQ q H=>f7 (Lf.symm.trans q) λx w1 q1 q=>f7 q λy w2 q2 q=>tK q λz q3=>
  EK (ha.run H q1 λv aM G1 x1 H1 R1=>hb.run H1 q2 λu bZ G2 x2 H2 R2=>PE.back (x1.trans x2) (VJ hs H2.W (R1.step x2) R2 q3))) (λ_ _=>rfl) (λ_ _=>dg rfl) rfl
theorem R9{pos:dN}{a:IE}(ha:dT C bp k sc ns value a)(hx:gA[j]?=some x)(hj:j<15)(hn:mJ value=true):dT C bp k sc ns (.Attribute value x pos) (.attr a j):=
 .mk' (λG O env A s fr wl e bQ q H=>f7 (FR.symm.trans q) λy w1 q1 q=>tK q λz q3=>by
  have Wq:x=attrName j:=by unfold attrName;refine eW mf<|eW hx ?_;rfl
  subst Wq;exact Lm hn (ha.run H q1 λv aM G1 x1 H1 R1=>PE.back x1 (Sn H.base hj H1.W R1 q3))) (λ_ _=>rfl) (λ_ _=>dg rfl) rfl
theorem hH{o:jY}(hf:o.isFreed=false):(s.heap.push o).get? s.heap.objs.size=some o:=bH _ hf
theorem eI:s.heap.get? s.heap.objs.size=none:=none_of (y:=(none:Option jY)) (λ_ q=>absurd (bb q) (b8 _)) rfl
theorem cO(o:jY):∀a o',s.heap.get? a=some o'->(s.heap.push o).get? a=some o':=λ_ _ e=>a_ o e
def Ck(C:Cx)(bp:my)(k:Nat)(sc:Sc)(ns:List bB)(e:Option af)(ir:IE):Prop:=
 ∀(G:Gh)(O:aO->Option Role)(env:qZ)(A:fF)(s:aN)(fr:List Slot)(wl:WL)(x:EV)(bQ:WL),ev bp ir fr wl=some (x,bQ)->Here C G O sc ns env fr wl k A s->
  aJ C.M A (valueOrNone (evalOpt e env)) (PE C G O s x bQ) ef s
theorem Nl:Ck C bp k sc ns none (.lit .none):=λG O env A s fr wl x bQ q H=>sp q (ar (mj (e:=.fv .none) H.W .none))
theorem Ck.run{e:Option af}{a:IE}{x:EV}(ha:Ck C bp k sc ns e a)(H:Here C G O sc ns env fr wl k A s)(q:ev bp a fr wl=some (x,bQ))
 (g:∀v aM G1,Step C G G1 s aM->Here C G1 O sc ns env fr bQ k A aM->cD C G1 O s.heap aM.heap v x->Q v aM):aJ C.M A (valueOrNone (evalOpt e env)) Q E s:=
 PE.to (ha G O env A s fr wl x bQ q H) λv aM G1 x1 W1 R1=>g v aM G1 x1 (H.step x1 W1) R1
theorem Nk{a:IE}(h:dT C bp k sc ns e a):Ck C bp k sc ns (some e) a:=h.v
theorem U_{lo hi:Option af}{pos:dN}{a b c:IE}(ha:dT C bp k sc ns value a)(hb:Ck C bp k sc ns lo b)(hc:Ck C bp k sc ns hi c):
 dT C bp k sc ns (.Subscript value (.Slice lo hi none p) pos) (.xw a b c):=
 .mk' (λG O env A s fr wl e bQ q H=>f7 (Lb.symm.trans q) λx w1 q1 q=>f7 q λy w2 q2 q=>f7 q λz w3 q3 q=>tK q λr q4=>EK (ha.run H q1 λv aM G1 x1 H1 R1=>by
  refine eW (aaW ..) ?_;refine ai (hb.run H1 q2 λvl bZ G2 x2 H2 R2=>ai (bL (hc.run H2 q3 λvu et G3 x3 H3 R3=>ai (bL (ar (kF ?_ (by size_fits)))))))
  have x4:Step C G3 G3 et {et with heap:=et.heap.push {cls:=.type "slice",dict:=none,data:=.fields #[vl,vu,.none]}}:=.grow _ _ (cO _);exact PE.back (((x1.trans x2).trans x3).trans x4) (VG (H3.W.grow (cO _)) (((R1.step x2).step x3).step x4) ((R2.step x3).step x4) (R3.step x4) (hH rfl) (λo=>rfl) q4))) (λ_ _=>rfl) (λ_ _=>dg rfl) rfl
theorem Vb{n:Nat}{p1 p2 p3 pos:dN}{a:IE}(ha:dT C bp k sc ns value a):dT C bp k sc ns (.Subscript value (.Slice none none (some (.UnaryOp .USub (.Constant (.int 1) n p1) p2)) p3) pos) (.rev a):=
 .mk' (λG O env A s fr wl e bQ q H=>f7 (Ld.symm.trans q) λx w1 q1 q=>tK q λr q4=>EK (ha.run H q1 λv aM G1 x1 H1 R1=>by
  refine eW (aaW ..) ?_;refine ai (ar (ai (bL (ar (ai (bL ?_))))))
  show aJ C.M A (do let v<-eval (.Constant (.int 1) n p1) env;standAt p2;holding [v] (unaryOp .USub v)) _ _ _;refine ai (Uc (ai (b_ (bL (xt (kF ?_ (by size_fits)))))))
  have x4:Step C G1 G1 {aM with toks:=aM.toks+1+1} {aM with toks:=aM.toks+1+1,heap:=aM.heap.push {cls:=.type "slice",dict:=none,data:=.fields #[.none,.none,.int (-1) (aM.toks+1)]}}:=.grow _ _ (cO _)
  have x2:=(Step.tok C G1 aM (aM.toks+1+1)).trans x4;exact PE.back (x1.trans x2) (VH (H1.W.grow (cO _)) (R1.step x2) (hH rfl) (λo=>rfl) q4))) (λ_ _=>rfl) (λ_ _=>dg rfl) rfl
def Ku(m h:Nat):Bool:=decide (3<(gi m).size)||match(tabOf m true).freeSlot (h:Int)with
 |some (j,false)=>decide (cu (gi m) (c_ (gi m) j) j=gi (m|||2^j))&&decide (m|||2^j<256)&&decide (c_ (gi m) j<=(gi m).size)
 |_=>false
theorem Oy:((ae 256).all λm=>(ae 64).all λh=>Ku m h)=true:=by decide+kernel
theorem K0{a:Bool}{f:Nat->Int}{h:Int}:∀(n:Nat)(p:SetTable.Probe),ix (tabOf m a) f h n p=ix (tabOf m b) f h n p
 |0,_=>rfl
 |n+1,p=>by
  have adv:∀q,(tabOf m a).advance q=(tabOf m b).advance q:=λ_=>rfl;unfold ix;refine eW (show(tabOf m a).slot p.j=(tabOf m b).slot p.j from rfl) ?_
  have ih:∀q,ix (tabOf m a) f h n q=ix (tabOf m b) f h n q:=K0 n;simp only[adv,ih]
theorem K4{a:Bool}{h:Int}:(tabOf m a).freeSlot h=(tabOf m b).freeSlot h:=by
 delta SetTable.freeSlot SetTable.probe;rw[show(tabOf m a).mask=(tabOf m b).mask from rfl,show(tabOf m a).probeStart h=(tabOf m b).probeStart h from rfl,K0 (b:=b)]
theorem BG{α:Type}{es:Array α}{p:Nat}{x:α}:(cu es p x).size=es.size+1:=by delta cu;simp;lia
theorem SR{n:Nat}{led:Bool}{es:Array (Int×aB)}{x:aB}(hm:m<256)(hn:n<64)(hs:(gi m).size<=3)(he:es.size=(gi m).size):
 ∃m' p,m'<256/\p<=es.size/\layNew (tabOf m led) es (n:Int) x=(cu es p ((n:Int),x),tabOf m' led,false,false)/\(gi m').size=(gi m).size+1:=by
 have h1:=aL.mp (aL.mp Oy m (aC.mpr hm)) n (aC.mpr hn);unfold Ku at h1;rw[gO,decide_eq_true_eq]at h1;rcases h1 with h1|h1
 . exact absurd hs (Nat.not_le.mpr h1)
 . split at h1
   . rename_i j q
     simp only[bX,decide_eq_true_eq]at h1
     (refine xA h1 ?_;clear h1;intro q1;obtain⟨e1,e2⟩:=q1;intro e3)
     have sz:(gi (m|||2^j)).size=(gi m).size+1:=by
      exact eL e1<|BG
     have ZQ:(tabOf m led).put j=(tabOf (m|||2^j) led,c_ (gi m) j):=by
      delta SetTable.put
      show(({(tabOf m led)with place:=cu (gi m) (c_ (gi m) j) j,dummies:=if MM #[] j then SetTable.eraseAt #[] (c_ #[] j)else#[]}:SetTable),_)=_;exact eW e1<|eW (show MM #[] j=false from rfl) rfl
     have szi:(cu es (c_ (gi m) j) ((n:Int),x)).size=(gi (m|||2^j)).size:=by
      exact eW sz<|eL he<|BG
     have Th:(tabOf (m|||2^j) led).fits (cu es (c_ (gi m) j) ((n:Int),x)).size=true:=by
      delta p9 xq;refine eW szi ?_
      show((gi (m|||2^j)).size==(gi (m|||2^j)).size&&decide ((gi (m|||2^j)).size+0<=7))=true;exact eW sz<|qw.mpr ⟨beq_self_eq_true _,decide_eq_true (ak (cB hs) (by decide))⟩
     refine⟨m|||2^j,c_ (gi m) j,e2,he▸e3,?_,sz⟩;delta layNew;refine eW (K4 (b:=true))<|eW q ?_;dsimp only;refine eW ZQ ?_;dsimp only;delta SetTable.orStandIn;exact eW Th rfl
   . exact ff h1
theorem D5{n:Nat}(hn:n<64):hashInt (n:Int)=(n:Int):=by
 have:((ae 64).all λn=>decide (hashInt (n:Int)=(n:Int)))=true:=by decide+kernel
 exact of_decide_eq_true (aL.mp this n (aC.mpr hn))
theorem yY{xs:List Int}{n:Nat}{t:Tok}{Q:Bool->aN->Prop}(hS:s.heap.SetOf (ik C) a (λj=>xs.contains j) xs.length)(sm:mc C.w s.heap a)(hl:xs.length<4)(hn:n<64)
 (h:∀b h',cQ a s.heap h'->h'.SetOf (ik C) a (λj=>(jx xs n).contains j) (jx xs n).length->mc C.w h' a->Q b {s with heap:=h',toks:=s.toks+1}):
 aJ C.M A (setAdd a (.int n t)) Q E s:=by
 (refine u7 hS ?_;clear hS;intro o es q1;refine iI q1 ?_;clear q1;intro ep T ho hex hd O7 q2;refine fA q2 ?_;clear q2;intro kR hb hf hz)
 (refine u7 sm ?_;clear sm;intro o' Yp q3;refine iR q3 ?_;clear q3;intro Yq m pX ue hm IA)
 rw[ho]at pX;cases pX;rw[hd]at ue;cases ue
 have ZT:es.size=(gi m).size:=by
  simp only[p9,bX,beq_iff_eq]at hf;exact hf.1.symm
 have wj:(ik C).is (n:Int) (.int n t)=true:=tN n t;unfold setAdd;refine bL (ai ((ik C).pyHash wj ?_))
 show aJ _ A (setAddHashed a (.int n t) ((ik C).hash n)) Q E {s with toks:=s.toks+1};unfold setAddHashed setAddHashedIn;refine bL (ai (ox (s:={s with toks:=s.toks+1}) ho hd hf ?_));dsimp only;refine eW (byScan_of (x:=.int n t) rfl hb O7) ?_;simp only[↓reduceIte];unfold setAddByScan;refine ai (ai (xb (ai (wpAny_setScan_of wj ho hd hf O7 ?_))))
 have hk:=kR n;induction hr:List.findIdx? (λe=>(ik C).is (n:Int) e.2) es.toList using aA with
 |some j=>
  dsimp only
  (refine bS (jB.mp hr) λhj hpj _=>?_)
  have hx:xs.contains (n:Int)=true:=hk.mpr ⟨es.toList[j],MV hj,hpj⟩
  have ha:jx xs n=xs:=by unfold jx;exact eW (if_pos hx) rfl
  refine ar (ar (h false s.heap (Yx a s.heap) ?_ ⟨o,es,ep,m,ho,hd,hm,IA⟩));exact eW ha<|⟨o,es,ep,_,ho,hex,hd,O7,kR,hb,hf,hz⟩
 |none=>
  dsimp only
  have hx:xs.contains (n:Int)=false:=by
   induction q:xs.contains (n:Int)using ax with
   |false=>rfl
   |true=>(refine bS (hk.mp q) λe he hp=>?_);have:=List.findIdx?_eq_none_iff.mp hr e he;rw[hp]at this;exact ff this.symm
  have ha:jx xs n=xs++[(n:Int)]:=by unfold jx;rw[if_neg (by rw[hx];exact ay)]
  have hh:(ik C).hash (n:Int)=(n:Int):=D5 hn
  (refine iR (SR (led:=eX C.w) (es:=es) (x:=.int n t) hm hn (by lia) ZT) λm' p UB hp hL yC=>?_)
  have wi:=layNew_perm (tabOf m (eX C.w)) es (n:Int) (.int n t);refine eW hh<|eW hL ?_;rw[hL]at wi;dsimp only at wi⊢;rw[mE]at wi
  have KS:(cu es p ((n:Int),kA n t)).toList.Perm (es.toList++[((ik C).hash (n:Int),kA n t)]):=by exact eW hh<|wi
  have Z7:=(O7.push wj rfl).perm KS
  have Wy:=mem_push_iff wj kR KS
  have QF:(cu es p ((n:Int),kA n t)).size=es.size+1:=by
   exact eL bC<|eW wi.length_eq<|eW aI<|eW bC rfl
  have Th:(tabOf m' (eX C.w)).fits (cu es p ((n:Int),kA n t)).size=true:=by
   unfold p9 xq
   show((gi m').size==_&&decide ((gi m').size+0<=7))=true;refine eW QF<|eW yC<|eW ZT ?_;simp;lia
  have full:(tabOf m' (eX C.w)).tooFull=false:=by
   unfold SetTable.tooFull xq
   show decide (((gi m').size+0)*5>=7*3)=false;exact eW yC<|decide_eq_false (by lia)
  refine ai (ar ?_);refine eW (show(tabOf m' (eX C.w)).plain=true from rfl)<|eW (if_pos rfl)<|eW (hashByValue_scannable 8 (x:=.int n t) rfl) ?_;refine ai (ar ?_)
  show aJ _ _ (storeSet a _ (tabOf m' (eX C.w))>>=_) _ _ _;refine ai (wpAny_storeSet_of (s:={s with toks:=s.toks+1}) ho hd ?_ (by refine eW QF<|eW dp ?_;lia));simp only[show plainKind (kA (n:Int) t)=true from rfl,if_true,full,jN,ey,if_false]
  have sb:cQ a s.heap (s.heap.update a (Mk (cu es p ((n:Int),kA n t)) (tabOf m' (eX C.w)))):=cA _ _ _
  have Yh:(s.heap.update a (Mk (cu es p ((n:Int),kA n t)) (tabOf m' (eX C.w)))).get? a=some {o with data:=.set (cu es p ((n:Int),kA n t)) (ep+1) (tabOf m' (eX C.w))}:=by
   have q:=en (Mk (cu es p ((n:Int),kA n t)) (tabOf m' (eX C.w))) ho (by exact eW (putSet_of _ _ hd) rfl);rw[putSet_of _ _ hd]at q;exact q
  refine ar (ar (h true _ sb ?_ ?_))
  . refine⟨_,_,_,_,Yh,hex,rfl,Z7,λj=>?_,?_,Th,?_⟩
    . refine iL (Wy j)<|eW ha ?_
      simp
    . refine eW QF ?_;have:scanBound=4096:=rfl;lia
    . exact eW QF<|eW ha<|eW aI<|eW hz rfl
  . exact⟨_,_,_,m',Yh,rfl,UB,by refine eW QF ?_;lia⟩
noncomputable def fy(led:Bool):jY:={cls:=.type "set",dict:=none,data:=.set #[] 0 (.fresh 0 0 led)}
theorem tG(ho:h.get? a=some (fy (eX C.w))):mc C.w h a:=⟨_,#[],0,0,ho,rfl,by decide,by decide⟩
theorem yl{led:Bool}(ho:h.get? a=some (fy led)):h.SetOf (ik C) a (λj=>([]:List Int).contains j) ([]:List Int).length:=(setObjOf_fresh led).setOf ho (by decide)
theorem Oe(q:Q (.ref s.heap.objs.size) {s with heap:=s.heap.push (fy (eX C.w))}):aJ C.M A (newSet (.type "set")) Q E s:=by
 unfold newSet setsByText;refine ai (ai (eG (ar ?_)));dsimp only;simp only[newObj];exact ai (tp (ar q))
theorem Hx{elts:List (Bool×Sem aB)}{ts:List (Sem aB)}(hs:elts.findIdx? (·.1)=none)(hlen:elts.length<=30)(hm:elts.map (·.2)=ts)
 (q:aJ C.M A (evalAll ts) (λvs s'=>KdsFill C.M A E false s.heap.objs.size Q vs s') E {s with heap:=s.heap.push (fy (eX C.w))}):
 aJ C.M A (setDisplay .oneByOne b elts) Q E s:=by
 have hn:(if elts.length>30 then 0 else(elts.findIdx? (·.1)).getD elts.length)=elts.length:=by rw[if_neg (by lia),hs];rfl
 unfold setDisplay;rw[if_neg (by decide)];refine ai (Oe ?_);dsimp only;refine eW hn<|eW n7<|eW MW<|eW hm ?_;refine ai (bL (ai (dR q (λvs s' h'=>?_) λ_ _ x=>x)));refine ai (bL (ai (dR (kds_for (λx P s hx=>?_) vs s' h') (λ_ s1 h1=>?_) λ_ _ x=>x)))
 . refine ai (dR hx (λ_ s2 h2=>?_) λ_ _ x=>x)
   exact ar ⟨rfl,h2⟩
 . have h2:Q (.ref s.heap.objs.size) s1:=by simpa[KdsFill]using h1
   rw[if_neg (by decide)];refine ar ?_;rw[mh];exact ar (ar h2)
theorem SJ(B:Base C)(W:bz C G wl s.heap):bM<s.heap.objs.size:=j9 B.g λo _ _ ho _=>bb (W.sub _ _ (W.base _ _ ho))
theorem Fp(B:Base C)(W:bz C G wl s.heap):(s.heap.objs.size==sysModules)=false:=beq_eq_false_iff_ne.mpr λe=>absurd (e▸SJ B W) (by decide)
theorem gq(W:bz C G wl s.heap):eQ C G s.heap.objs.size:=
 ⟨λq hq e=>qk (W.tabs q hq) λ_ _ ps h3 _=>gone eI (e▸h3),λe=>match wl,(e▸W.well:gH C G s.heap (some s.heap.objs.size) wl)with
   |some ds,hw=>nW hw λ_ vs n h1 _=>gone eI h1⟩
theorem gM(W:bz C G wl s.heap):G.F s.heap.objs.size=none:=none_of (y:=(none:Option jY)) (λo q=>gone eI (W.sub _ _ q)) rfl
noncomputable def N2(b a:aO):Option Role:=if a=b then some (.own 0 0)else none
theorem Dl{b:aO}{r:Role}(e:N2 b a=some r)(k:a=b->r=.own 0 0->P):P:=dV e λh e=>k h (ag e).symm
theorem Dh{o:jY}(tk:Nat)(hf:o.isFreed=false)(W:bz C G wl s.heap)
 (h:∀O':aO->Option Role,O' s.heap.objs.size=some (.own 0 0)->dO C G O' (s.heap.push o) (λk=>some (.own 0 k)) (.ref s.heap.objs.size) t):
 PE C G O s (.own t) wl (.ref s.heap.objs.size) {s with heap:=s.heap.push o,toks:=tk}:=
 ⟨G,.grow _ _ (cO o),W.grow (cO o),N2 s.heap.objs.size,λa r e=>Dl e λq e=>q▸⟨eI,⟨0,e,by decide⟩,gM W,gq W,o,hH hf⟩,h _ (if_pos rfl)⟩
theorem Step.mod{t:Nat}(x:Step C G G' s s')(n:s.heap.get? a=none)(sb:cQ a s'.heap h'):Step C G G' s {s' with heap:=h',toks:=t}where
 ext:=x.ext
 keep:=λb o f e=>(sb.2 b λq=>gone n (q▸e)).trans (x.keep b o f e)
 alive:=λb o e=>xE (x.alive b o e) λo' e'=>⟨o',(sb.2 b λq=>gone n (q▸e)).trans e'⟩
 lx:=x.lx
 kC:=x.kC
 gens:=x.gens
 os:=x.os
theorem gH.mod(W:gH C G h ow wl)(k:∀b,ow=some b->h'.get? b=h.get? b):gH C G h' ow wl:=match ow,wl,W,k with
 |some b,some ds,W,k=>nW W λh1 vs n h2 r=>⟨h1,vs,n,(k b rfl).trans h2,r⟩
 |none,none,_,_=>trivial
theorem bz.mod(W:bz C G wl h)(f:G.F a=none)(fr:eQ C G a)(sb:cQ a h h'):bz C G wl h' where
 sub:=λb o e=>(sb.2 b λq=>gone f (q▸e)).trans (W.sub b o e)
 base:=W.base
 tabs:=λq hq=>qk (W.tabs q hq) λh1 h2 ps h3 r=>⟨h1,h2,ps,(sb.2 _ (fr.1 q hq)).trans h3,r⟩
 well:=W.well.mod λb e=>sb.2 b λq=>fr.2 (q▸e)
theorem U'{n:Nat}{pos:dN}(L:fO (dT C bp k sc ns) es il)(hn:es.length<1000):dT C bp k sc ns (.Tuple es n pos) (.tup il):=
 .mk' (λG O env A s fr wl e bQ q H=>f7 (K_.symm.trans q) λxs w1 q1 q=>tK q λds q2=>by
  refine eW (aaV ..) ?_;refine ai (b_ (ai (cX (qx L G O env A s fr wl xs w1 pos 0 q1 H) λvs aM h=>dU h λG1 x1 W1 h=>bS h λbq m R=>?_)));refine aaP ((l8 _ aM.toks rfl W1 λG' y1 y2=>.tup (vs:=vs) (n:=0) (by exact eW y2 rfl) ((R.xR q2).mono y1)).after x1) (by have:=qE L q1;have:=R.length;refine eW dp ?_;lia)) (λ_ _=>rfl) (λ_ _=>dg rfl) rfl
theorem Vf{own:Bool}{pos:dN}(L:fO (dT C bp k sc ns) es il)(hn:es.length<1000):dT C bp k sc ns (.List es pos) (.lst own il):=
 .mk' (λG O env A s fr wl e bQ q H=>f7 (Le.symm.trans q) λxs w1 q1 q=>tK q λds q2=>by
  refine eW (Il ..) ?_;refine ai (b_ (ai (cX (qx L G O env A s fr wl xs w1 pos 0 q1 H) λvs aM h=>dU h λG1 x1 W1 h=>bS h λbq m R=>?_)));refine jE (PE.after x1 ?_) (by have:=qE L q1;have:=R.length;refine eW dp ?_;lia);induction own using ax with
  |false=>exact l8 _ aM.toks rfl W1 λG' y1 y2=>.list (vs:=vs) (n:=0) (by exact eW y2 rfl) ((R.xR q2).mono y1)
  |true=>exact Dh aM.toks rfl W1 λO' hO=>⟨_,rfl,hO,gq W1,gM W1,vs.toArray,0,hH rfl,R.xR q2⟩) (λ_ _=>rfl) (λ_ _=>dg rfl) rfl
theorem Ec{o:jY}(ho:h.get? a=some o)(hd:o.data=.dict #[]){n:Nat}:h.DictLe a n:=λo' es ep pX ue=>by
 rw[ho]at pX;cases pX;rw[hd]at ue;cases ue;exact aU _
theorem Ny{pos:dN}:dT C bp k sc ns (.Dict [] [] pos) .BZ:=
 .mk' (λG O env A s fr wl e bQ q H=>sp q (wpAny_Dict_empty (Dh s.toks rfl H.W λO' hO=>
  ⟨_,rfl,hO,gq H.W,gM H.W,Fp H.base H.W,λ_=>none,[],acd s.heap,.nil,λ_=>rfl,Ec (hH rfl) rfl,eC⟩))) (λ_ _=>rfl) (λ_ _=>dg rfl) rfl
theorem Kk{Q:Bool->aN->Prop}(W:bz C G wl s.heap)(hc:env.code=.none\/∃q,mW G.F env.code q)(h:∀b,Q b s):aJ C.M A (inMainModule env) Q E s:=by
 unfold inMainModule;rcases hc with hc|⟨q,c,o,vs,t,hc,ho,hd,_⟩
 . exact eW hc<|ar (h _)
 . refine eW hc ?_
   split
   . exact ar (h _)
   . refine ai (aaS (W.sub _ _ ho) hd ?_)
     split
     . exact ai (eG (ar (h _)))
     . exact ar (h _)
theorem Oa(h:notStar e=true):kdsPlain e=true:=by induction e using bE<;>first|rfl|exact ff h
@[elab_as_elim] theorem Lc{a:IE}{r:EV}{P:EV->WL->Prop}(q:ev bp (.GO (.cons a .nil)) fr wl=some (r,bQ))(k:∀x w1 i,ev bp a fr wl=some (x,w1)->pN x=some i->0<=i/\i<64->P (.own (.ob (.set [i]))) w1):P r bQ:=by
  rw[Pe,ky]at q;induction h:ev bp a fr wl using aA with
  |none=>rw[h]at q;exact nn q
  |some y=>
   rw[h]at q
   have q:((xR [y.1]).bind λds=>(eZ ds).bind λis=>(J7 is).map λr=>(r,y.2))=some (r,bQ):=q;exact ob q λds h2 q=>ob h2 λd h3 h2=>(sk (P:=λds=>(eZ ds).bind (λis=>(J7 is).map λr=>(r,y.2))=some (r,bQ)->P r bQ) h2 λq=>ob q λis h4 q=>ob h4 λi h5 h4=>
    (sk (P:=λis=>(J7 is).map (λr=>(r,y.2))=some (r,bQ)->P r bQ) h4 λq=>tK q λe h6=>dV h6 λhi h6=>sk h6 (k y.1 y.2 i h (bs h3 h5) hi)) q) q
theorem RV{a:IE}{pos:dN}(ha:dT C bp k sc ns e a):dT C bp k sc ns (.Set [e] 0 pos) (.GO (.cons a .nil)):=
 .mk' (λG O env A s fr wl x bQ q H=>Lc q λx w1 i q0 q2 hi=>by
  refine eW (arm_eval_Set ..) ?_;refine ai (b_ (ai (Kk H.W H.F.code λb=>?_)));rw[kds_star [e] (by simp[Oa ha.star]),bG];refine Hx (ts:=(evalEach [e] env).map λt=>do let v<-t;standAt pos;pure v) rfl (by simp[arm_evalEach_cons,arm_evalEach_nil]) (by exact eW bG rfl) ?_;refine kds_all pos [e] _ _ ?_
  have x1:Step C G G s {s with heap:=s.heap.push (fy (eX C.w))}:=.grow _ _ (cO _);refine ha.run (H.step x1 (H.W.grow (cO (fy (eX C.w))))) q0 λv bZ G2 x2 H2 R2=>?_
  have f0:=gq H.W
  have g0:=hH (s:=s) (o:=(fy (eX C.w))) rfl
  have g2:=x2.keep _ _ f0 g0
  show aJ C.M A (setAdd s.heap.objs.size v) _ ef bZ;refine iB R2 q2 λt=>?_
  (refine xE (gm hi.1) λn q1=>?_;subst q1)
  refine yY (xs:=[]) (yl g2) (tG g2) (by decide) (by lia) λ_ h' OW O_ sm=>?_;exact⟨G2,(x1.trans x2).mod eI OW,H2.W.mod (x2.An (gM H.W) g0) (x2.free f0 g0) OW,N2 s.heap.objs.size,λa r e=>Dl e λq e=>q▸xE (mH O_) λo ho=>⟨eI,⟨0,e,by decide⟩,x2.An (gM H.W) g0,x2.free f0 g0,o,ho⟩,
   _,rfl,if_pos rfl,x2.free f0 g0,x2.An (gM H.W) g0,O_,by simp,sm⟩) (λ_ _=>rfl) (λ_ _=>dg rfl) rfl
theorem PN(W:bz C G none s.heap):G.aw=none:=none_of (y:=(none:Option aO)) (λa q=>(q▸W.well:gH C G s.heap (some a) none).elim) rfl
theorem NS{vs:Array aB}(W:bz C G none s.heap)(R:bA C G vs.toList ds):PE C G O s (.fv .well) (some ds) (.ref s.heap.objs.size) {s with heap:=s.heap.push {cls:=.type "list",data:=.seq vs 0}}:=
 have ex:Ext G ⟨G.F,some s.heap.objs.size⟩:=⟨λ_ _ h=>h,λ_ h=>gone (PN W) h⟩
 ⟨⟨G.F,some s.heap.objs.size⟩,⟨ex,λa o _ e=>cO _ a o e,λa o e=>⟨o,cO _ a o e⟩,λ_ _ e=>.inl e,λa e=>ag e▸.inr eI,rfl,rfl⟩,
  have W2:=W.grow (cO {cls:=.type "list",data:=.seq vs 0})
  ⟨W2.sub,W2.base,λq hq=>qk (W2.tabs q hq) λh1 h2 ps h3 r=>⟨h1,λe=>(gq W).1 q hq (ag e).symm,ps,h3,r⟩,(show gH C ⟨G.F,some s.heap.objs.size⟩ _ (some s.heap.objs.size) (some ds)from⟨(show G.F _=none from gM W),vs,0,hH rfl,R.mono ex⟩)⟩,.well rfl⟩
theorem Jw{e1 e2:af}{pos:dN}{a b:IE}(ha:dT C bp k sc ns e1 a)(hb:dT C bp k sc ns e2 b):dT C bp k sc ns (.List [e1,e2] pos) (.vH a b):=
 .mk' (λG O env A s fr wl e bQ q H=>f7 (yJ.symm.trans q) λx w1 q1 q=>f7 q λy w2 q2 q=>ob q λp h1 q=>ob q λr h2 q=>tK q λ_ h3=>by
  refine eW (Il ..) ?_
  have q4:ou bp (.cons a (.cons b .nil)) fr wl=some ([x,y],w2):=ky.trans (bs q1 (ms (ky.trans (bs q2 (ms FX)))));refine ai (b_ (ai (cX (qx (show fO (dT C bp k sc ns) [e1,e2] (.cons a (.cons b .nil))from⟨ha,hb,trivial⟩) G O env A s fr wl [x,y] w2 pos 0 q4 H) λvs aM h=>dU h λG1 x1 W1 h=>bS h λbq m R=>?_)))
  have R':=R.xR (ds:=[p,r]) (bs h1 (ms (bs h2 rfl)));obtain rfl:=Oc h3;exact jE (PE.after x1 (NS (vs:=vs.toArray) W1 R')) (by exact eW dp<|eW R'.length<|av rfl)) (λ_ _=>rfl) (λ_ _=>dg rfl) rfl
noncomputable def pO(sl:List (bB×aB))(p:bB×aB):List (bB×aB):=if(sl.lookup p.1).isNone then sl++[p]else sl
theorem lookup_append{α:Type}:∀{l r:List (bB×α)},(l++r).lookup x=(l.lookup x).or (r.lookup x)
 |[],_=>rfl
 |(y,v)::l,r=>by
  rw[MY,bK,bK];induction x==y using ax with
  |true=>rfl
  |false=>exact lookup_append
theorem o8:∀{L sl:List (bB×aB)},(L.foldl pO sl).lookup x=(sl.lookup x).or (L.lookup x)
 |[],sl=>by simp
 |(y,v)::L,sl=>by
  refine eW List.foldl_cons<|eW o8 ?_;unfold pO;split
  . rename_i hn
    rw[lookup_append,bK,bK,List.lookup_nil];induction hx:x==y using ax with
    |true=>induction sl.lookup x using aA<;>rfl
    |false=>induction sl.lookup x using aA<;>rfl
  . rename_i hn
    rw[bK];induction hx:x==y using ax with
    |true=>
     have e:=beq_iff_eq.mp hx;subst e;dsimp only at hn;induction h:sl.lookup x using aA with
     |none=>rw[h]at hn;exact absurd rfl hn
     |some v'=>rfl
    |false=>rfl
theorem fQ{α:Type}:∀{ns:List bB}{vs:List α}{i:Nat}{x:bB},ns.Nodup->ns[i]?=some x->(ns.zip vs).lookup x=vs[i]?
 |[],_,_,_,_,h=>by simp at h
 |n::ns,[],i,x,_,h=>by simp
 |n::ns,v::vs,0,x,nd,h=>by simp at h;subst h;simp
 |n::ns,v::vs,i+1,x,nd,h=>by
  simp at h
  (refine xA (ck.mp nd) λh1 h2=>?_)
  have hx:(x==n)=false:=beq_eq_false_iff_ne.mpr λe=>h1 (e▸aF h);rw[gD,bK,hx];simpa using fQ h2 h
theorem gn{α:Type}:∀{ns:List bB}{vs:List α}{x:bB},x∉ns->(ns.zip vs).lookup x=none
 |[],_,_,_=>by simp
 |n::ns,[],x,_=>by simp
 |n::ns,v::vs,x,h=>by
  have hx:(x==n)=false:=beq_eq_false_iff_ne.mpr λe=>h (e▸a7);rw[gD,bK,hx];exact gn λq=>h (aW _ q)
theorem qq:∀{ns:List bB}{vs:List aB}{f:bB->Option aB},vs.length=ns.length->(∀(i:Nat)(x:bB),ns[i]?=some x->f x=vs[i]?)->(ns.filterMap λn=>(f n).map (n,·))=ns.zip vs
 |[],_,_,_,_=>by simp
 |n::ns,[],_,hl,_=>by simp at hl
 |n::ns,v::vs,f,hl,h=>by
  have h0:=h 0 n rfl;simp at h0;refine eW lI<|eW h0 ?_;simp only[Mn,gD];rw[qq (by simpa using hl) λi x e=>by simpa using h (i+1) x (by simpa using e)]
theorem wy:∀{L sl:List (bB×aB)}{f:bB×aB->List (bB×aB)->Sem (ForInStep (List (bB×aB)))},
 (∀p sl,f p sl=pure (.yield (pO sl p)))->forIn L sl f=pure (L.foldl pO sl)
 |[],sl,f,h=>by rw[mh];rfl
 |p::L,sl,f,h=>by
  rw[jg,h,pure_bind];exact wy h
theorem M0(nd:ns.Nodup)(hx:ns[i]?=some x):
 ((ns.zip vs).lookup x).or (((ns.drop (ns.length-us.length)).zip us).lookup x)=if i<vs.length then vs[i]?else(if ns.length-us.length<=i then us[i-(ns.length-us.length)]?else none):=by
 have hi:i<ns.length:=by
  induction q:decide (i<ns.length)using ax with
  |true=>exact of_decide_eq_true q
  |false=>rw[ba (bu (of_decide_eq_false q))]at hx;exact nn hx
 refine eW (fQ nd hx) ?_;split
 . rename_i h
   refine eW (aV h) ?_;rfl
 . rename_i h
   refine eW (ba (bu h)) ?_
   show((ns.drop (ns.length-us.length)).zip us).lookup x=_;split
   . rename_i h2
     refine fQ (nd.sublist (List.drop_sublist _ _)) ?_;refine eW gF ?_;exact eW (show ns.length-us.length+(i-(ns.length-us.length))=i from c6 h2)<|hx
   . rename_i h2
     refine gn λhm=>?_
     (refine xE (cj.mp hm) λj hj=>?_)
     rw[gF]at hj
     have oj:ns.length-us.length+j<ns.length:=by
      induction q:decide (ns.length-us.length+j<ns.length)using ax with
      |true=>exact of_decide_eq_true q
      |false=>rw[ba (bu (of_decide_eq_false q))]at hj;exact nn hj
     have:=(jL hi nd).mp (hx.trans hj.symm);lia
theorem yr{α:Type}{l:List α}{x:α}(h:l[i]?=some x):i<l.length:=(c9.mp h).1
theorem Hl{n d:Nat}(nd:ns.Nodup)(hl:ns.length=n)(hd:n<=vals.length+d):((ns.take (n-d)).filter λx=>((ns.zip vals).lookup x).isNone)=[]:=
 jM.mpr λx hx=>xE (cj.mp hx) λi hi=>by
  have oj:i<n-d:=az (yr hi) (by exact eW gd<|pT _ _);rw[dI oj]at hi;refine eW (fQ nd hi)<|eW (aV (show i<vals.length from az oj (Ir hd))) ?_;exact ay
theorem wD{n x d:Nat}(h:n<=x+d):d-(d-(n-x))=n-x:=ot (Nat.sub_le_iff_le_add'.mpr h)
theorem IW(nd:ns.Nodup)(hv:vals.length<=ns.length)(hd:ns.length<=vals.length+dv.length)(hd2:dv.length<=ns.length):
 (ns.filterMap λn=>((((ns.drop (ns.length-dv.length)).zip dv).foldl pO (ns.zip vals)).lookup n).map (n,·))=ns.zip (vals++dv.drop (dv.length-(ns.length-vals.length))):=
 qq (by exact eW aI<|eW n_<|eW (wD hd)<|c6 hv) λi x hx=>by
  have hi:=yr hx;refine eW o8<|eW (M0 nd hx)<|eW Gv ?_;split
  . rfl
  . rename_i h1
    refine eW (if_pos (ak (Gr.mpr hd) (bu h1)))<|eW gF ?_
    congr 1
    exact eW (MR _ hv)<|eW (pf dv.length ..)<|eL (MR _ hd2)<|eW (pf ..)<|(Nat.sub_add_sub_cancel (bu h1) (Gr.mpr hd)).symm
theorem PH{M:Model}{Q:List (bB×aB)->aN->Prop}(hp:jS fd.params f=true)(nd:(f.names.take f.params).Nodup)(hn:f.params<=f.names.length)
 (hv:vals.length<=f.params)(hd:f.params<=vals.length+dv.length)(hd2:dv.length<=f.params)
 (hs:∀Q:Option (Array aB)->aN->Prop,(∀r:Option (Array aB),(r.getD #[]).toList=dv->Q r s)->aJ M A (seqItems? fd.defaults) Q E s)
 (h:Q ((f.names.take f.params).zip (vals++dv.drop (dv.length-(f.params-vals.length)))) s):aJ M A (bindArgs fd ⟨vals,[]⟩) Q E s:=by
 have hlen:(f.names.take f.params).length=f.params:=by exact eW gd<|Nat.min_eq_left hn
 have zd:=IW nd (hlen.symm▸hv) (hlen.symm▸hd) (hlen.symm▸hd2)
 have mn:=Hl nd hlen hd;rw[hlen]at zd;refine Q5 hp λp1 p2 p3 p4 p5 _ _=>?_;replace p1:=fe.mp p1;replace p2:=ee.mp p2;replace p3:=fe.mp p3;replace p4:=ee.mp p4;replace p5:=eq_of_beq p5;clear hp;generalize f.names.take f.params=ns at*;generalize f.params=n at*;unfold bindArgs;simp only[p1,p2,p3,p4,p5,UQ,lp,mh,pure_bind,hlen];refine ai (hs _ λr hr=>?_);simp only[hr,show dv.drop (dv.length-n)=dv by exact eW (Nat.sub_eq_zero_of_le hd2) rfl,show decide (vals.length>n)=false from decide_eq_false (cV.mpr hv),h_,ey,if_false,mn,oa,Av,pure_bind];refine ai ?_;rw[wy (λp sl=>by unfold pO;split<;>rfl)];refine ar (ar ?_);exact eW (cC ..)<|eW zd<|h
theorem fC:∀(names:List (bB×lT))(n:Nat)(acc:List (bB×aO)),cellsFrom n names acc=cellsFrom n names []++acc
 |[],_,_=>rfl
 |(x,kd)::r,n,acc=>by
  unfold cellsFrom;split
  . exact eW (fC r (n+1) ((x,n)::acc))<|eW (fC r (n+1) [(x,n)])<|eW (gZ ..) rfl
  . exact fC r n acc
theorem TS{AF:aN}{M:Model}(FJ:env.cells=cs++cl)(f:bB×aB->PUnit->Sem (ForInStep PUnit))(hf:∀n v u,f (n,v) u=(do storeName env n v;pure (.yield ⟨⟩)))(hk:env.scope.kind=.function):
 ∀(binds:List (bB×aB))(m cm:bB->Option aB)(s:aN)(Q:PUnit->aN->Prop),InCallC AF env.locals m cs cm s->
  (∀x∈binds,env.kindOf x.1=some .local\/(env.kindOf x.1=some .cell/\(cs.lookup x.1).isSome=true))->
  (∀s',InCallC AF env.locals (bindL env.kindOf binds m) cs (bindC env.kindOf binds cm) s'->Q ⟨⟩ s')->aJ M A (forIn binds ⟨⟩ f) Q E s:=λbinds=>by
 induction binds using t_ with
 |nil=>intro m cm s Q x _ h;exact eW mh (ar (h s x))
 |cons p r ih=>
  intro m cm s Q x FH h;induction p using oy;rename_i n v;rw[jg,hf]
  have hr:∀y∈r,env.kindOf y.1=some .local\/(env.kindOf y.1=some .cell/\(cs.lookup y.1).isSome=true):=λy hy=>FH y (aW _ hy);rcases FH (n,v) a7 with hl|⟨hl,hc⟩
  . refine ai (ai (MK hl x.toInCall.ns (λh' UA yC=>ar (ih _ _ _ Q
     (show InCallC AF env.locals _ cs cm {s with heap:=h',toks:=s.toks+1}from⟨⟨?_,UA,λb o e=>?_,x.toInCall.fresh⟩,λk c hc=>?_,x.apart,x.above⟩) hr λqm Y5=>h qm ?_)) (by exact eW hk rfl)))
    . (refine u7 (x.toInCall.same) λkq tk e=>?_)
      exact⟨h',s.toks+1,by exact eW e rfl⟩
    . exact yC.extBut b o (bx (az (bb e) x.toInCall.fresh)) (x.toInCall.keep b o e)
    . exact(x.cell k c hc).sameBut yC (e_ (x.above k c (mem_of_lookup hc)))
    . unfold bindL bindC;exact eW (if_pos hl)<|eW (if_pos hl)<|Y5
  . (refine xE (iO.mp hc) λc hc=>?_)
    have QH:¬env.kindOf n=some .local:=by refine eW hl ?_;decide
    have QL:env.cells.lookup n=some c:=by exact eW FJ<|eW lookup_append<|eW hc rfl
    have hLc:=x.above n c (mem_of_lookup hc);refine ai (ai (P1 hk hl QL (x.cell n c hc) λh' qW yC=>ar (ih _ (λy=>if y=n then some v else cm y) _ Q
     (show InCallC AF env.locals m cs _ {s with heap:=h'}from⟨⟨?_,x.toInCall.ns.sameBut yC (bx hLc),λb o e=>?_,x.toInCall.fresh⟩,λk c' sL=>?_,x.apart,x.above⟩) hr λqm Y5=>h qm ?_)))
    . (refine u7 (x.toInCall.same) λkq tk e=>?_)
      exact⟨h',tk,by exact eW e rfl⟩
    . exact yC.extBut b o (bx (dk (az (bb e) x.toInCall.fresh) hLc)) (x.toInCall.keep b o e)
    . by_cases Z0:k=n
      . subst Z0
        rw[hc]at sL;cases sL;simpa using qW
      . simp only[if_neg Z0]
        exact(x.cell k c' sL).sameBut yC λe=>Z0 (Mi x.apart (mem_of_lookup sL) (e▸mem_of_lookup hc))
    . unfold bindL bindC;exact eW (if_neg QH)<|eW (if_neg QH)<|Y5
theorem Of{M:Model}{globals:aO}{binds:List (bB×aB)}{qual:bB}{func:Option aO}{code:aB}{builtins:aO}{Q:qZ->aN->Prop}
 (hk:scope.kind=.function)
 (FH:∀x∈binds,scope.names.lookup x.1=some .local\/scope.names.lookup x.1=some .cell)
 (hQ:∀env,env=newEnv scope s.heap.objs.size globals (cellsFrom (s.heap.objs.size+1) scope.names []++cl) qual func code none builtins->
   ∀s',InCallC s env.locals (bindL env.kindOf binds λ_=>none) (cellsFrom (s.heap.objs.size+1) scope.names []) (bindC env.kindOf binds λ_=>none) s'->Q env s'):
 aJ M A (newFunctionEnv scope globals cl binds qual func code none builtins) Q E s:=by
 simp only[newFunctionEnv,Option.isSome_none,ey,if_false];refine ai (tp ?_);refine ai (aaR _ (λname kind cells=>by induction MG:kind==me using ax<;>simp[MG]) _ _ _ _ ?_)
 have ok:=cellsFrom_ok scope.names (s.heap.push {cls:=.type "frame",data:=.dict #[]}) (s.heap.objs.size+1) [] ⟨λ_ _ hm=>(nomatch hm),pg⟩ (by exact eW (gb ..)<|aT _);rw[gb]at ok;refine eW (show({s with heap:=s.heap.push {cls:=.type "frame",data:=.dict #[]}}:aN).heap.objs.size=s.heap.objs.size+1 from gb ..)<|eW (fC ..) ?_;refine ai (TS (AF:=s) (cs:=cellsFrom (s.heap.objs.size+1) scope.names []) (cl:=cl) (env:=newEnv scope s.heap.objs.size globals (cellsFrom (s.heap.objs.size+1) scope.names []++cl) qual func code none builtins) rfl
  _ (λ_ _ _=>rfl) hk binds (λ_=>none) (λ_=>none) _ _
  ⟨⟨⟨_,_,rfl⟩,(Rk s.heap (.type "frame")).keeps (qX _ _),λb o e=>qX _ _ b o (a_ _ e),aT _⟩,
    λn c hc=>(ok.empty n c (mem_of_lookup hc)).1,ok.apart,λn c hm=>(ok.empty n c hm).2⟩
  (λx hx=>(FH x hx).imp id λe=>⟨e,EG _ _ _ (.inl e)⟩) λs' x=>ar (hQ _ rfl s' x))
theorem LP{kd:bB->Option lT}{m:bB->Option aB}(nd:ns.Nodup)(hx:kd x=some .local):bindL kd (ns.zip vs) m x=((ns.zip vs).lookup x).or (m x):=
 l2 (P:=λns vs=>∀m:bB->Option aB,ns.Nodup->bindL kd (ns.zip vs) m x=((ns.zip vs).lookup x).or (m x)) ns vs (λ_ _=>rfl) (λn ns v vs ih m nd=>by
  (refine xA (ck.mp nd) λh1 h2=>?_)
  rw[gD,bK];unfold bindL;refine eW (ih _ h2) ?_;by_cases e:x=n
  . subst e
    refine eW (gn h1)<|eW (if_pos hx) ?_;simp
  . have hb:(x==n)=false:=beq_eq_false_iff_ne.mpr e
    refine eW hb ?_;split<;>simp[e]) (λ_ _ _ _=>rfl) (λ_ _ _ _=>rfl) m nd
theorem LQ{kd:bB->Option lT}{m:bB->Option aB}(nd:ns.Nodup)(hx:kd x≠some .local):bindC kd (ns.zip vs) m x=((ns.zip vs).lookup x).or (m x):=
 l2 (P:=λns vs=>∀m:bB->Option aB,ns.Nodup->bindC kd (ns.zip vs) m x=((ns.zip vs).lookup x).or (m x)) ns vs (λ_ _=>rfl) (λn ns v vs ih m nd=>by
  (refine xA (ck.mp nd) λh1 h2=>?_)
  rw[gD,bK];unfold bindC;refine eW (ih _ h2) ?_;by_cases e:x=n
  . subst e
    refine eW (gn h1)<|eW (if_neg hx) ?_;simp
  . have hb:(x==n)=false:=beq_eq_false_iff_ne.mpr e
    refine eW hb ?_;split<;>simp[e]) (λ_ _ _ _=>rfl) (λ_ _ _ _=>rfl) m nd
def qi(O:aO->Option Role)(a:aO):Prop:=∃r,O a=some r/\r≠.kj
structure bW(C:Cx)(G G':Gh)(O O':aO->Option Role)(s s':aN):Prop where
 ext:Ext G G'
 keep:∀a o,eQ C G a->¬qi O a->s.heap.get? a=some o->s'.heap.get? a=some o
 alive:∀a o,s.heap.get? a=some o->∃o',s'.heap.get? a=some o'
 lx:∀a o,G'.F a=some o->G.F a=some o\/s.heap.get? a=none\/qi O a
 kC:∀a,G'.aw=some a->G.aw=some a\/s.heap.get? a=none
 own:∀a o,s.heap.get? a=some o->¬qi O a->¬qi O' a
 Ob:∀a o,s.heap.get? a=some o->O a=none->O' a=none
 Nm:∀a i,O' a=some (.own i nZ)->O a=some (.own i nZ)
 gens:s'.gens=s.gens
 os:s'.os=s.os
theorem Step.o(x:Step C G G' s s'):bW C G G' O O s s':=⟨x.ext,λa o f _ e=>x.keep a o f e,x.alive,λa o e=>(x.lx a o e).imp id .inl,x.kC,λ_ _ _ h=>h,λ_ _ _ h=>h,λ_ _ h=>h,x.gens,x.os⟩
theorem bW.trans(x:bW C G G' O O' s s')(y:bW C G' ES O' O'' s' qm):bW C G ES O O'' s qm where
 ext:=x.ext.trans y.ext
 keep:=λa o f hn e=>y.keep a o ⟨f.1,λq=>(x.kC a q).elim f.2 λq=>gone q e⟩ (x.own a o e hn) (x.keep a o f hn e)
 alive:=λa o e=>xE (x.alive a o e) (y.alive a)
 lx:=λa o e=>(Classical.em (qi O a)).elim (λhm=>.inr (.inr hm)) λhm=>match e2:s.heap.get? a with
  |none=>.inr (.inl rfl)
  |some o2=>(y.lx a o e).elim (λq=>(x.lx a o q).imp id λq=>q.elim (λq=>gone q e2) λq=>absurd q hm) λq=>q.elim (λq=>xE (x.alive a o2 e2) λ_ e'=>gone q e') λq=>absurd q (x.own a o2 e2 hm)
 kC:=λa e=>(y.kC a e).elim (x.kC a) λq=>.inr (none_of (x.alive a) q)
 own:=λa o e h=>xE (x.alive a o e) λo' e'=>y.own a o' e' (x.own a o e h)
 Ob:=λa o e h=>xE (x.alive a o e) λo' e'=>y.Ob a o' e' (x.Ob a o e h)
 Nm:=λa i h=>x.Nm a i (y.Nm a i h)
 gens:=y.gens.trans x.gens
 os:=y.os.trans x.os
theorem bW.out{G0:Gh}(x:Step C G0 G s0 s)(y:bW C G G' O O' s s')(n:∀a o,s0.heap.get? a=some o->¬qi O a):Step C G0 G' s0 s' where
 ext:=x.ext.trans y.ext
 keep:=λa o f e=>y.keep a o (x.free f e) (n a o e) (x.keep a o f e)
 alive:=λa o e=>xE (x.alive a o e) (y.alive a)
 lx:=λa o e=>match e2:s0.heap.get? a with
  |none=>.inr rfl
  |some o2=>(y.lx a o e).elim (λq=>(x.lx a o q).imp id λq=>gone q e2) λq=>q.elim (λq=>xE (x.alive a o2 e2) λ_ e'=>gone q e') λq=>absurd q (n a o2 e2)
 kC:=λa e=>(y.kC a e).elim (x.kC a) λq=>.inr (none_of (x.alive a) q)
 gens:=y.gens.trans x.gens
 os:=y.os.trans x.os
def IU(C:Cx)(G:Gh)(O:aO->Option Role)(h:eu):Prop:=∀a r,O a=some r->G.F a=none/\eQ C G a/\∃o,h.get? a=some o
theorem IU.step(x:Step C G G' s s')(y:IU C G O s.heap):IU C G' O s'.heap:=λa r e=>mF (y a r e) λh1 h2 o ho=>⟨x.An h1 ho,x.free h2 ho,o,x.keep _ _ h2 ho⟩
theorem fX:∀(names:List (bB×lT))(n:Nat),(cellsFrom n names []).all (λp=>decide (n<=p.2))=true
 |[],_=>rfl
 |(x,kd)::r,n=>by
  unfold cellsFrom;split
  . refine eW (fC ..)<|eW List.all_append ?_
    have:=fX r (n+1);simp only[bX,Uj,List.all_nil,mZ,decide_eq_true_eq,aT,and_true];refine aL.mpr λp hp=>?_
    have:=aL.mp this p hp;simp only[decide_eq_true_eq]at this⊢;lia
  . exact fX r n
theorem j8:∀(names:List (bB×lT))(n:Nat),(names.map (·.1)).Nodup->((cellsFrom n names []).map (·.1)).Nodup/\∀p∈cellsFrom n names [],(p.1,me)∈names
 |[],_,_=>⟨eC,λ_ h=>(nomatch h)⟩
 |(x,kd)::r,n,nd=>by
  rw[bT]at nd
  (refine xA (ck.mp nd) λh1 h2=>?_)
  unfold cellsFrom;split
  . rename_i hk
    (refine xA (j8 r (n+1) h2) λa b=>?_)
    refine eW (fC ..) ?_;refine⟨?_,λp hp=>?_⟩
    . refine eW bf ?_
      refine mV.mpr ⟨a,by simp,λy hy z hz=>?_⟩;simp only[bT,UQ,aH]at hz;subst hz;intro e;subst e
      (refine bS (bO.mp hy) λp hp q1=>?_;subst q1)
      exact h1 (bO.mpr ⟨_,b p hp,rfl⟩)
    . rcases cp.mp hp with hp|hp
      . exact aW _ (b p hp)
      . simp only[aH]at hp
        subst hp;exact eW (beq_iff_eq.mp hk)<|a7
  . (refine xA (j8 r n h2) λa b=>?_)
    exact⟨a,λp hp=>aW _ (b p hp)⟩
theorem lookup_mem{α:Type}{l:List (bB×α)}{p:bB×α}(nd:(l.map (·.1)).Nodup)(h:p∈l):l.lookup p.1=some p.2:=
 l.rec (motive:=λl=>(l.map (·.1)).Nodup->p∈l->l.lookup p.1=some p.2) (λ_ h=>absurd h a8) (λq r ih nd h=>xA (ck.mp nd) λh1 h2=>by
  exact eW bK<|(a6.mp h).elim (λe=>by refine eL e ?_;exact eW (beq_self_eq_true _) rfl) λh=>by
   exact eW (beq_eq_false_iff_ne.mpr λe=>h1 (bO.mpr ⟨p,h,e⟩):(p.1==q.1)=false)<|ih h2 h) nd h
def ng(ns:List bB)(fr:List Slot)(x:bB):Bool:=(ns.zip fr).all λp=>p.1 !=x||p.2.writable
noncomputable def nM(L:aO)(cs:List (bB×aO))(wr:bB->Bool)(bq O:aO->Option Role)(a:aO):Option Role:=
 if a=L then some .loc else((cs.find? λp=>p.2==a&&wr p.1).map λp=>Role.cell p.1).or ((bq a).or ((O a).map λ_=>.kj))
section
variable {c:aO}{wr:bB->Bool}
theorem find_key{p:bB×aO}(h:(cs.find? λp=>p.2==a&&wr p.1)=some p)(k:p.2=a->wr p.1=true->p∈cs->P):P:=
 have h2:(p.2==a&&wr p.1)=true:=xv (p:=λp:bB×aO=>p.2==a&&wr p.1) h
 an h2 λh1 h2=>k (eq_of_beq h1) h2 (iF h)
theorem Pd(k:∀p∈cs,p.2=a->wr p.1=true->False):(cs.find? λp=>p.2==a&&wr p.1)=none:=none_of (y:=(none:Option Role)) (λp h=>find_key h λh1 h2 h3=>(k p h3 h1 h2).elim) rfl
@[elab_as_elim] theorem HR{r:Role}{P:aO->Prop}(e:nM L cs wr bq O a=some r)(k1:P L)(k2:∀p∈cs,P p.2)(k3:∀r,bq a=some r->P a)(k4:∀r,O a=some r->P a):P a:=
  r8 e (λh _=>h▸k1) λ_ e=>Qr e (λe=>Am e λp hp _=>find_key hp λh1 _ h3=>h1▸k2 p h3) λe=>Qr e (k3 r) λe=>Am e λr' h _=>k4 r' h
theorem pM(cl:∀p∈cs,L<p.2)(ha:a<L):nM L cs wr bq O a=(bq a).or ((O a).map λ_=>.kj):=
 (if_neg (bx ha)).trans (by refine eW (Pd (wr:=wr) (a:=a) λp hp h1 _=>absurd (h1▸cl p hp) (XJ ha)) ?_;rfl)
theorem D_(cl:∀p∈cs,L<p.2)(hm:(y,c)∈cs)(hu:∀n,(n,c)∈cs->n=y)(h1:bq c=none)(h2:O c=none):nM L cs wr bq O c=if wr y then some (.cell y)else none:=by
 refine(if_neg (e_ (cl _ hm))).trans ?_;refine eW h1<|eW h2 ?_;induction hq:cs.find? (λp=>p.2==c&&wr p.1)using aA with
 |some p=>
  refine find_key hq λh3 h4 h5=>?_
  have e:=hu p.1 (h3▸h5);exact eL e<|eW h4 rfl
 |none=>
  have:=jj.mp hq _ hm;rw[if_neg λh=>this (by rw[h,beq_self_eq_true];rfl)];rfl
end
theorem M5(nd:ns.Nodup)(hx:ns[i]?=some x)(hs:fr[i]?=some sl):ng ns fr x=sl.writable:=by
 unfold ng;induction hw:sl.writable using ax with
 |true=>
  refine aL.mpr λp hp=>?_
  (refine xE (cj.mp hp) λj hj=>?_)
  rw[mD]at hj;by_cases e:p.1=x
  . have:j=i:=by
     have oj:i<ns.length:=by
      induction q:decide (i<ns.length)using ax with
      |true=>exact of_decide_eq_true q
      |false=>rw[ba (bu (of_decide_eq_false q))]at hx;exact nn hx
     exact((jL oj nd).mp (hx.trans (e▸hj.1).symm)).symm
    subst this;rw[hs]at hj;simp only[qh]at hj;refine eL hj.2<|eW hw ?_;simp
  . simp[e]
 |false=>
  refine dY.mpr λh=>?_
  have:=aL.mp h (x,sl) (cj.mpr ⟨i,by refine iW mD ?_;exact⟨hx,hs⟩⟩);simp[hw]at this
theorem nJ{aX:List FV}{xs:List EV}(h:lD f aX xs=some fr):
 xs.length<=f.params/\f.params<=xs.length+f.dflt.length/\f.params+aX.length<=f.names.length/\fr=xs.map EV.arg++(f.dflt.drop (f.dflt.length-(f.params-xs.length))).map Slot.val++bD (f.names.length-f.params-aX.length) Slot.unset++aX.map Slot.ro:=
 dV h λhc h=>⟨hc.1,hc.2.1,hc.2.2,(ag h).symm⟩
theorem dC.get{es:List EV}{e:EV}(y:dC C G O bq h i vs es)(q:es[j]?=some e):∃v,vs[j]?=some v/\nV C G O bq h (i+j) v e:=
 y.ind (P:=λi vs es=>∀j,es[j]?=some e->∃v,vs[j]?=some v/\nV C G O bq h (i+j) v e) (λ_ _ q=>nn q) (λi v _ _ _ x _ ih j=>j.casesOn (λq=>⟨v,rfl,ag q▸x⟩) λj q=>dc i 1 j▸ih j q) j q
inductive tm(f:bw)(aX:List FV)(xs:List EV)(i:Nat)(sl:Slot):Prop
 |arg {e:EV}:xs[i]?=some e->i<f.params->sl=e.arg->tm f aX xs i sl
 |dflt {j:Nat} {d:FV}:xs.length<=i->i<f.params->j=i-xs.length->(f.dflt.drop (f.dflt.length-(f.params-xs.length)))[j]?=some d->sl=.val d->tm f aX xs i sl
 |unset:f.params<=i->i<f.names.length-aX.length->sl=.unset->tm f aX xs i sl
 |PC {j:Nat} {d:FV}:i=f.names.length-aX.length+j->aX[j]?=some d->sl=.ro d->tm f aX xs i sl
theorem zg{aX:List FV}{xs:List EV}(h:lD f aX xs=some fr)(e:fr[i]?=some sl):tm f aX xs i sl/\i<f.names.length:=by
 (refine fA (nJ h) λh1 h2 h3 q2=>?_;subst q2)
 have hl:(f.dflt.drop (f.dflt.length-(f.params-xs.length))).length=f.params-xs.length:=n_.trans (wD h2)
 have hA:(xs.map EV.arg++(f.dflt.drop (f.dflt.length-(f.params-xs.length))).map Slot.val).length=f.params:=by exact eW aI<|eW (aj ..)<|eW (aj ..)<|eW hl<|c6 h1
 have hB:(xs.map EV.arg++(f.dflt.drop (f.dflt.length-(f.params-xs.length))).map Slot.val++bD (f.names.length-f.params-aX.length) Slot.unset).length=f.names.length-aX.length:=by
  exact eW aI<|eW hA<|eW gR<|eW (Mo ..)<|c6 (kW h3)
 clear h
 have hn:aX.length<=f.names.length:=ak (ji _ _) h3;refine uN e (λe=>uN e (λe=>uN e (λe=>get_map e λx hx e=>?_) λj hj e=>get_map e λx hx e=>?_) λj hj e=>?_) λj hj e=>get_map e λx hx e=>?_
 . have l:=az (fB hx) h1
   exact⟨.arg hx l e.symm,az l (ak (aP _ _) h3)⟩
 . rw[aj]at hj
   have l:i<f.params:=by have:=fB hx;rw[hl]at this;exact hj▸fu this
   exact⟨.dflt (hj▸aP _ _) l (by exact eW hj<|eW (cW ..) rfl) hx e.symm,az l (ak (aP _ _) h3)⟩
 . rw[hA]at hj
   have l:i<f.names.length-aX.length:=by have:=fB e;rw[gR,Mo]at this;exact hj▸fu this
   exact⟨.unset (hj▸aP _ _) l (List.eq_of_mem_replicate (aF e)),az l (pd _ _)⟩
 . rw[hB]at hj
   exact⟨.PC hj hx e.symm,hj▸fu (jA (fB hx) (ot hn).symm)⟩
theorem D6{aX:List FV}{xs:List EV}(h:lD f aX xs=some fr):fr.length=f.names.length:=by
 (refine fA (nJ h) λh1 h2 h3 q3=>?_;subst q3)
 exact eW aI<|eW aI<|eW aI<|eW (aj ..)<|eW (aj ..)<|eW (aj ..)<|eW gR<|eW n_<|eW (wD h2)<|eW (c6 h1)<|eW (fc ..)<|eW (mz (Nat.le_sub_of_add_le' h3))<|eW (c6 (ak (aP _ _) h3)) rfl
theorem kh(W:bz C G wl s.heap)(n:s.heap.get? a=none):G.F a=none:=none_of (y:=(none:Option jY)) (λo q=>gone n (W.sub _ _ q)) rfl
theorem gw(W:bz C G wl s.heap)(n:s.heap.get? a=none):eQ C G a:=
 ⟨λq hq e=>qk (W.tabs q hq) λ_ _ ps h3 _=>gone n (e▸h3),λe=>match wl,(e▸W.well:gH C G s.heap (some a) wl)with
   |some ds,hw=>nW hw λ_ vs n' h1 _=>gone n h1⟩
theorem BQ(W:bz C G wl s.heap){o:jY}(e:G.F a=some o):eQ C G a:=
 ⟨λq hq h=>gone (W.tabs q hq).1 (h.symm▸e),λh=>match wl,(h▸W.well:gH C G s.heap (some a) wl)with
   |some ds,hw=>gone hw.1 e⟩
theorem Pk{G0:Gh}{aX:List FV}{xs:List EV}{q:bB}
 (W:bz C G wl s.heap)(FA:FnAt C G.F fa f vs fd)(cf:CF f vs.length iU fd)(hm:∀nm,iU=some nm->∃c P,fd.code=.ref c/\(c,P)∈C.tabs/\fd.qualname++".<locals>."++nm=C.tq P)(hq:q=fd.qualname++".<locals>.")(x:Step C G0 G s0 s)(D0:IU C G0 O s0.heap)
 (m:Ct C G s0.heap s.heap bq)(R:dC C G O bq s.heap 0 vals xs)(Rd:bA C G dv f.dflt)(Rc:bA C G vs aX)(hf:lD f aX xs=some fr)
 (FJ:cs=cellsFrom (s.heap.objs.size+1) fd.scope.names [])
 (xQ:env=newEnv fd.scope s.heap.objs.size fd.globals (cs++fd.closure) q (some fa) fd.code none fd.builtins)
 (hs:InCallC s env.locals (bindL env.kindOf ((f.names.take f.params).zip (vals++dv.drop (dv.length-(f.params-vals.length)))) λ_=>none) cs (bindC env.kindOf ((f.names.take f.params).zip (vals++dv.drop (dv.length-(f.params-vals.length)))) λ_=>none) s'):
 cJ C G (nM s.heap.objs.size cs (ng f.names fr) bq O) ⟨fd.scope,iU,4⟩ f.names env fr s'.heap:=by
 have hk:∀y,env.kindOf y=fd.scope.names.lookup y:=λy=>xQ▸rfl
 have Wz:env.locals=s.heap.objs.size:=xQ▸rfl
 have D4:env.cells=cs++fd.closure:=xQ▸rfl
 have qW:=Rc.length
 have sd:=cf.scope;refine an sd λsd _=>an sd λsd Qv=>Q5 sd λsp nd hn sa sb _ _=>?_;replace nd:=of_decide_eq_true nd;replace Qv:=of_decide_eq_true Qv;clear sd
 (refine xA (j8 fd.scope.names (s.heap.objs.size+1) Qv) λcn1 cn2=>?_)
 have Yc:(f.names.take f.params).Nodup:=nd.sublist (Mq _ _)
 have keep:=hs.toInCall.keep
 have Cw:Step C G G s s':=u7 hs.toInCall.same λh' tk e=>by subst e;exact .grow h' tk keep
 have D:=D0.step x
 have⟨g1,g2,g3,_⟩:=nJ hf
 have Lz:∀p∈cs,s.heap.objs.size<p.2:=λp hp=>of_decide_eq_true (aL.mp (fX fd.scope.names (s.heap.objs.size+1)) p (FJ▸hp))
 have new:∀{c:aO},s.heap.objs.size<c->s.heap.get? c=none:=λh=>none_of (y:=(none:Option jY)) (λo q=>absurd (bb q) (XJ h)) rfl
 have noO:∀{c:aO},s.heap.get? c=none->bq c=none/\O c=none:=λh=>⟨none_of (y:=(none:Option Role)) (λr q=>m_ (m _ r q) λ_ _ _ _ o ho=>gone h ho) rfl,none_of (y:=(none:Option Role)) (λr q=>mF (D _ r q) λ_ _ o ho=>gone h ho) rfl⟩
 have oO:∀{a:aO}{r:Role},O a=some r->nM s.heap.objs.size cs (ng f.names fr) bq O a=some .kj:=λ{a r} e=>mF (D0 a r e) λ_ _ o ho=>xE (x.alive a o ho) λo' pX=>
  (pM Lz (bb pX)).trans (by exact eW (show bq a=none from none_of (y:=(none:Option Role)) (λr' q=>gone (m a r' q).1 ho) rfl)<|eW e rfl)
 have VR:∀{a:aO}{r:Role},bq a=some r->nM s.heap.objs.size cs (ng f.names fr) bq O a=some r:=λ{a r} e=>m_ (m a r e) λ_ _ _ _ o ho=>(pM Lz (bb ho)).trans (by exact eW e rfl)
 have top:∀{i:Nat}{y:bB},f.names[i]?=some y->i<f.params->(f.names.take f.params)[i]?=some y:=λhy h=>(dI h).trans hy
 have free:∀{i:Nat}{y:bB},f.names[i]?=some y->¬i<f.names.length-aX.length->(f.names.drop (f.names.length-vs.length))[i-(f.names.length-vs.length)]?=some y/\env.kindOf y=some .free/\cs.lookup y=none:=λ{i y} hy hi=>by
  have yE:(f.names.drop (f.names.length-vs.length))[i-(f.names.length-vs.length)]?=some y:=by refine eW gF<|eW qW<|eW (c6 (cV.mp hi)) ?_;exact hy
  have hf:fd.scope.names.lookup y=some .free:=eq_of_beq (aL.mp sb y (aF yE));exact⟨yE,(hk y).trans hf,none_of (y:=(none:Option aO)) (λc' q=>by
   have:=lookup_mem Qv (cn2 _ (FJ▸mem_of_lookup q));exact nomatch(hf.symm.trans this)) rfl⟩
 have hold:∀{i:Nat}{y:bB}{sl:Slot},f.names[i]?=some y->fr[i]?=some sl->i<f.names.length-aX.length->
  cT C G (nM s.heap.objs.size cs (ng f.names fr) bq O) s'.heap i sl (((f.names.take f.params).zip (vals++dv.drop (dv.length-(f.params-vals.length)))).lookup y):=λ{i y sl} hy eE hi=>match(zg hf eE).1 with
  |.arg (e:=e) he h1 eE=>bS (R.get he) λw e1 e2=>by
   refine eW (fQ Yc (top hy h1))<|eW (ek (fB e1))<|eW e1<|eW eE ?_;rw[dZ]at e2;exact match e,e2 with
   |.fv d,e2=>⟨w,rfl,e2⟩
   |.bor t,e2=>xE e2 λρ e2=>⟨w,rfl,(dO.relabel (λa k e=>oO e) e2).step Cw⟩
   |.own t,e2=>⟨w,rfl,(dO.relabel (λa k e=>VR e) e2).step Cw⟩
  |.dflt h1 h2 hj he eE=>bS ((Rd.drop (f.dflt.length-(f.params-xs.length))).get he) λw e1 e2=>by
   rw[fQ Yc (top hy h2),hZ (R.length▸h1),R.length,Rd.length,<-hj,e1,eE];exact⟨w,rfl,e2⟩
  |.unset h1 h2 eE=>by
   rw[gn λhm=>xE (cj.mp hm) λj hj=>?_,eE]
   . rfl
   . have oj:j<f.params:=az (fB hj) (by exact eW gd<|pT _ _)
     rw[dI oj]at hj;exact absurd ((jL (fB hj) nd).mp (hj.trans hy.symm)) (bx (az oj h1))
  |.PC hj _ _=>absurd hi (cV.mpr (hj▸aP _ _))
 have nc:∀{j d},f.names.length-aX.length+j<f.names.length-aX.length->aX[j]?=some d->False:=λh _=>absurd h (cV.mpr (aP _ _));refine⟨by refine eW xQ ?_;exact eq_of_beq (rT sp λh _ _=>h),xQ▸FA.glob,xQ▸FA.bi,nd,D6 hf,λa r e=>?_,λy e=>(hk y).trans e,λy e=>?_,?_,⟨_,hs.toInCall.ns,λi y sl hy eE hl=>?_⟩,λi y sl hy eE QH=>?_,λnm h=>by exact eW xQ<|eW hq<|hm nm h,.inr ⟨fd.qualname,xQ▸FA.code⟩,λhm i y d hy eE=>?_⟩
 . exact HR e (j9 hs.toInCall.ns λo _ _ ho _=>⟨gM W,gq W,o,Wz▸ho⟩)
    (λp hp=>bS (hs.cell p.1 p.2 (lookup_mem (FJ▸cn1) hp)) λo ho _=>⟨kh W (new (Lz p hp)),gw W (new (Lz p hp)),o,ho⟩)
    (λr' e'=>m_ (m a _ e') λ_ _ h1 h2 o ho=>⟨h1,h2,o,keep _ _ ho⟩) (λr' e'=>mF (D a r' e') λh1 h2 o ho=>⟨h1,h2,o,keep _ _ ho⟩)
 . exact(iQ.mp e).imp (λe=>(hk y).trans (eq_of_beq e)) λe=>(hk y).trans (eq_of_beq e)
 . exact eW Wz<|if_pos rfl
 . refine eW (LP Yc hl) ?_
   have hi:i<f.names.length-aX.length:=fg λhi=>nomatch(hl.symm.trans (free hy hi).2.1);exact(Option.or_none (o:=_)).symm▸hold hy eE hi
 . exact if hi:i<f.names.length-aX.length then by
    have MG:env.kindOf y=some .cell:=(iQ.mp (aL.mp sa y (aF ((dI (qW▸hi)).trans hy)))).elim (λq=>absurd ((hk y).trans (eq_of_beq q)) QH) λq=>(hk y).trans (eq_of_beq q)
    (refine xE (iO.mp (EG (x:=y) fd.scope.names (s.heap.objs.size+1) [] (.inl ((hk y).symm.trans MG)))) λc hc=>?_)
    rw[<-FJ]at hc
    have FK:=hs.cell y c hc;rw[LQ Yc QH]at FK
    have kR:=mem_of_lookup hc
    have hn:=new (Lz _ kR)
    have e:=D_ (wr:=ng f.names fr) Lz kR (λn h=>Mi hs.apart h kR) (noO hn).1 (noO hn).2;rw[M5 nd hy eE]at e;exact⟨.inl MG,c,_,by exact eW D4<|eW lookup_append<|eW hc rfl,by simpa using FK,hold hy eE hi,e,gw W hn,λ_=>MG⟩
   else by
    (refine jP (free hy hi) λyE wk WJ=>?_)
    (refine kP (FA.TO _ y yE) λc o v hl hF hd hv=>?_)
    induction (zg hf eE).1 using tm.casesOn with
    |arg _ h1 _=>exact absurd (az h1 (kW g3)) hi
    |dflt _ h1 _ _ _=>exact absurd (az h1 (kW g3)) hi
    |unset _ h1 _=>exact absurd h1 hi
    |PC hj he eE=>
     rw[qW,hj,cW]at hv
     have QL:=W.sub _ _ hF
     have hcO:=pM (wr:=ng f.names fr) (bq:=bq) (O:=O) Lz (bb QL);rw[show bq c=none from none_of (y:=(none:Option Role)) (λr q=>gone (m c r q).2.2.1 hF) rfl,show O c=none from none_of (y:=(none:Option Role)) (λr q=>gone (D c r q).1 hF) rfl]at hcO;exact eE▸⟨.inr wk,c,some v,by exact eW D4<|eW lookup_append<|eW WJ<|eW hl rfl,⟨o,keep _ _ QL,hd⟩,bS (Rc.get he) λv' e1 e2=>⟨v',hv.symm.trans e1,e2⟩,hcO,BQ W hF,λh=>ff h⟩
 . exact match(zg hf eE).1 with
   |.arg (e:=e) _ _ h2=>by induction e using EV.casesOn<;>exact Slot.noConfusion h2
   |.dflt _ _ _ _ h3=>nomatch h3
   |.unset _ _ h3=>nomatch h3
   |.PC hj he h3=>jP (free hy (cV.mpr (hj▸aP _ _))) λyE wk WJ=>j9 (FA.TO _ y yE) λc o v hl h=>xA h λhF _=>⟨c,o,by exact eW D4<|eW lookup_append<|eW WJ<|eW hl rfl,hF⟩
def qj(C:Cx)(G:Gh):Fl->Flow->Prop
 |.next,.next=>True
 |.cont,.cont=>True
 |.ret d,.ret v=>Rep C G v d
 |_,_=>False
noncomputable def FO:Flow->aB
 |.ret v=>v
 |_=>.none
@[elab_as_elim] theorem zX{α:Type}{P:Flow->Prop}{f:Flow}{a z:α}{g:FV->α}(hf:qj C G f1 f)(q:f1.brk.elim a g=z)(kn:a=z->P .next)(kc:a=z->P .cont)(kr:∀d v,Rep C G v d->g d=z->P (.ret v)):P f:=
  f1.casesOn (motive:=λf1=>qj C G f1 f->f1.brk.elim a g=z->P f) (f.casesOn (motive:=λf=>qj C G .next f->a=z->P f) (λ_=>kn) (λh=>h.elim) (λh=>h.elim) λ_ h=>h.elim)
   (f.casesOn (motive:=λf=>qj C G .cont f->a=z->P f) (λh=>h.elim) (λh=>h.elim) (λ_=>kc) λ_ h=>h.elim)
   (λd=>f.casesOn (motive:=λf=>qj C G (.ret d) f->g d=z->P f) (λh=>h.elim) (λh=>h.elim) (λh=>h.elim) λv h=>kr d v h) hf q
theorem TG{f:Flow}(hf:qj C G f1 f)(q:f1.out=some d):Rep C G (FO f) d:=
 f1.casesOn (motive:=λf1=>qj C G f1 f->f1.out=some d->Rep C G (FO f) d) (f.casesOn (motive:=λf=>qj C G .next f->some FV.none=some d->Rep C G (FO f) d) (λ_ q=>sk q (.none:Rep C G .none .none)) (λh=>h.elim) (λh=>h.elim) λ_ h=>h.elim)
  (λ_ q=>nn q) (λe=>f.casesOn (motive:=λf=>qj C G (.ret e) f->some e=some d->Rep C G (FO f) d) (λh=>h.elim) (λh=>h.elim) (λh=>h.elim) λv h q=>sk q (h:Rep C G v e)) hf q
@[elab_as_elim] theorem TC{α:Type}{P:Flow->Prop}{f:Flow}{a z:α}{g:Fl->α}(hf:qj C G f1 f)(q:(if f1.zI then a else g f1)=z)(kn:a=z->P .next)(kc:g .cont=z->P .cont)(kr:∀d v,Rep C G v d->g (.ret d)=z->P (.ret v)):P f:=
  f1.casesOn (motive:=λf1=>qj C G f1 f->(if f1.zI then a else g f1)=z->P f) (f.casesOn (motive:=λf=>qj C G .next f->a=z->P f) (λ_=>kn) (λh=>h.elim) (λh=>h.elim) λ_ h=>h.elim)
   (f.casesOn (motive:=λf=>qj C G .cont f->g .cont=z->P f) (λh=>h.elim) (λh=>h.elim) (λ_=>kc) λ_ h=>h.elim)
   (λd=>f.casesOn (motive:=λf=>qj C G (.ret d) f->g (.ret d)=z->P f) (λh=>h.elim) (λh=>h.elim) (λh=>h.elim) λv h=>kr d v h) hf q
def PS(C:Cx)(G:Gh)(O:aO->Option Role)(sc:Sc)(ns:List bB)(env:qZ)(s:aN)(fl:Fl)(fr:List Slot)(wl:WL)(f:Flow)(s':aN):Prop:=
 ∃G' O',bW C G G' O O' s s'/\bz C G' wl s'.heap/\cJ C G' O' sc ns env fr s'.heap/\qj C G' fl f
theorem PS.after{fl':Flow}(x:bW C G G' O O' s s')(y:PS C G' O' sc ns env s' fl fr wl fl' qm):PS C G O sc ns env s fl fr wl fl' qm:=by
 exact gf y λG2 O2 h1 h2=>⟨G2,O2,x.trans h1,h2⟩
theorem PS.back{t:Sem Flow}(x:bW C G G' O O' s s')(h:aJ C.M A t (PS C G' O' sc ns env s' fl fr wl) ef bZ):aJ C.M A t (PS C G O sc ns env s fl fr wl) ef bZ:=cX h λ_ _ h=>h.after x
theorem PS.to{t:Sem Flow}{Q:Flow->aN->Prop}(h:aJ C.M A t (PS C G O sc ns env s fl fr wl) ef s')(k:∀f aM G' O',bW C G G' O O' s aM->bz C G' wl aM.heap->cJ C G' O' sc ns env fr aM.heap->qj C G' fl f->Q f aM):aJ C.M A t Q E s':=
 cX h λf aM h=>iR h λG' O' x W F q=>k f aM G' O' x W F q
def jy(C:Cx)(bp:my)(N k:Nat)(sc:Sc)(ns:List bB)(st:bU)(ir:IS):Prop:=
 ∀(G:Gh)(O:aO->Option Role)(env:qZ)(A:fF)(s:aN)(fr:List Slot)(wl:WL)(fl:Fl)(cH:List Slot)(bQ:WL),ex bp N ir (fr,wl)=some (fl,cH,bQ)->Here C G O sc ns env fr wl k A s->
  aJ C.M A (exec st env) (PS C G O sc ns env s fl cH bQ) ef s
def qK(C:Cx)(bp:my)(N k:Nat)(sc:Sc)(ns:List bB)(b:List bU)(ir:IB):Prop:=
 ∀(G:Gh)(O:aO->Option Role)(env:qZ)(A:fF)(s:aN)(fr:List Slot)(wl:WL)(fl:Fl)(cH:List Slot)(bQ:WL),hX bp N ir (fr,wl)=some (fl,cH,bQ)->Here C G O sc ns env fr wl k A s->
  aJ C.M A (execs b env) (PS C G O sc ns env s fl cH bQ) ef s
def Cm(C:Cx)(bp:my)(N k:Nat)(f:bw)(iU:Option bB)(fd:iX):Prop:=match fd.body,f.body with
 |.stmts b,.stmts ib=>qK C bp N k ⟨fd.scope,iU,4⟩ f.names b ib
 |.expr e,.expr ie=>dT C bp k ⟨fd.scope,iU,4⟩ f.names e ie
 |_,_=>False
def PR(C:Cx)(G:Gh)(O:aO->Option Role)(s:aN)(d:FV)(wl:WL)(r:Result)(s':aN):Prop:=match r with
 |.ok (.ret v)=>PE C G O s (.fv d) wl v s'
 |_=>False
theorem Bk(B:Base C)(W:bz C G wl h):h.NoLimit:=B.nolimit.keeps λb o e=>W.sub _ _ (W.base _ _ e)
def vh(s:aN)(f:bw)(fd:iX)(fr:List Slot)(bq O:aO->Option Role):aO->Option Role:=
 nM s.heap.objs.size (cellsFrom (s.heap.objs.size+1) fd.scope.names []) (ng f.names fr) bq O
theorem bool_no(h:(!b)=true):b=false:=match b,h with|false,_=>rfl
theorem yN{G0:Gh}{aX:List FV}{xs:List EV}{Rz:Result->aN->Prop}
 (B:Base C)(hd:A.depth+8*k+26<900)(hu:A.units+24*k+80<9000)(hh:A.handled=none)
 (W:bz C G wl s.heap)(FA:FnAt C G.F fa f vs fd)(cf:CF f vs.length iU fd)(hm:∀nm,iU=some nm->∃c P,fd.code=.ref c/\(c,P)∈C.tabs/\fd.qualname++".<locals>."++nm=C.tq P)(x:Step C G0 G s0 s)(D0:IU C G0 O s0.heap)
 (m:Ct C G s0.heap s.heap bq)(R:dC C G O bq s.heap 0 vals xs)(Rd:bA C G dv f.dflt)(Rc:bA C G vs aX)(dl:dv.length<=f.params)
 (hs:∀(M:Model)(A:fF)(E:aB->aN->Prop)(Q:Option (Array aB)->aN->Prop),(∀r:Option (Array aB),(r.getD #[]).toList=dv->Q r s)->aJ M A (seqItems? fd.defaults) Q E s)
 (hf:lD f aX xs=some fr)
 (hb:∀env s',Here C G (vh s f fd fr bq O) ⟨fd.scope,iU,4⟩ f.names env fr wl k (A.deeper env) s'->Step C G G s s'->match fd.body with
   |.stmts b=>aJ C.M (A.deeper env) (execs b env) (λfl s2=>Rz (.ok (.ret (match fl with|.ret v=>v|_=>.none))) s2) ef s'
   |.expr e=>aJ C.M (A.deeper env) (eval e env) (λv s2=>Rz (.ok (.ret v)) s2) ef s'):
 codeAny C.M A (.call (.ref fa) ⟨vals,[]⟩) Rz s:=by
 (refine fA (nJ hf) λh1 h2 h3 _=>?_)
 have hlen:=R.length
 have Z8:=Rd.length;refine an cf.scope λsd _=>an sd λsd _=>Q5 sd λsp nd hn sa _ _ _=>rT sp λsp1 sp2 xo=>?_;replace nd:=of_decide_eq_true nd;clear sd
 have QG:A.depth<recursionLimit:=dk (aQ (ak (aP _ (8*k)) (aP _ 26)) hd) (by decide:900<1000)
 have qW:=Rc.length
 have enter:∀(Q:qZ->aN->Prop),(∀env s',Here C G (vh s f fd fr bq O) ⟨fd.scope,iU,4⟩ f.names env fr wl k (A.deeper env) s'->Step C G G s s'->Q env s')->
  ∀E,aJ C.M A.in1 (bindArgs fd ⟨vals,[]⟩) (λbinds aM=>aJ C.M A.in1 (newFunctionEnv fd.scope fd.globals fd.closure binds (fd.qualname++".<locals>.") (some fa) fd.code none fd.builtins) Q E aM) E s:=λQ hQ E=>by
  have hp:f.params<=f.names.length:=ak (aP _ _) h3;refine PH cf.params (nd.sublist (Mq _ _)) hp (hlen▸h1) (hlen▸Z8▸h2) dl (hs _ _ _) ?_;refine Of (eq_of_beq sp1) (λy hy=>xE (cj.mp (List.of_mem_zip hy).1) λi hi=>?_) λenv xQ s' yC=>?_
  . have oj:i<f.params:=az (fB hi) (by exact eW gd<|pT _ _)
    rw[dI oj]at hi;exact(iQ.mp (aL.mp sa y.1 (aF ((dI (az oj (kW (qW▸h3)))).trans hi)))).imp eq_of_beq eq_of_beq
  . have Cw:Step C G G s s':=u7 yC.toInCall.same λh' tk e=>by subst e;exact .grow h' tk yC.toInCall.keep
    refine hQ env s' ⟨B,⟨hh,?_,?_⟩,W.grow λa o e=>yC.toInCall.keep a o e,Pk W FA cf hm rfl x D0 m R Rd Rc hf rfl xQ yC⟩ Cw
    . show A.depth+1+8*k+4+20<900;exact eW (dc A.depth 1 ..)<|aQ (cq (show 25<=26 by decide) (A.depth+8*k)) hd
    . show A.units+3+24*k+3*4+60<9000;exact eW (dc A.units 3 ..)<|aQ (cq (show 75<=80 by decide) (A.units+24*k)) hu
 (refine bS (FA.obj) λbo hbo hbd=>?_)
 induction Tj:fd.body using g7 with
 |stmts b=>
  rw[Tj]at hb;refine codeAny_call_function QG (W.sub _ _ hbo) hbd (bool_no xo) (bool_no sp2) Tj (FA.code.recIn W.sub) (enter _ (λenv s' H Cw=>?_) _);exact⟨Bk B H.W,codeAny_func (dR (hb env s' H Cw) (λ_ _ q=>q) λ_ _ q=>q.elim)⟩
 |expr e=>
  rw[Tj]at hb;refine kla_callFunE QG (W.sub _ _ hbo) hbd (bool_no xo) (bool_no sp2) Tj (FA.code.recIn W.sub) (enter _ (λenv s' H Cw=>?_) _);exact⟨Bk B H.W,kla_codeExpr (dR (hb env s' H Cw) (λ_ _ q=>q) λ_ _ q=>q.elim)⟩
theorem yj{G0:Gh}(x:Step C G0 G s0 s)(m:Ct C G s0.heap s.heap bq):∀a o,s0.heap.get? a=some o->¬qi (vh s f fd fr bq O) a:=λa o e q1=>bS q1 λr' hr hl=>by
 exact xE (x.alive a o e) λo' pX=>Qr ((pM (λp hp=>of_decide_eq_true (aL.mp (fX fd.scope.names (s.heap.objs.size+1)) p hp)) (bb pX)).symm.trans hr) (λe2=>gone (m a r' e2).1 e) λe2=>Am e2 λ_ _ e=>hl (ag e).symm
theorem F9{G0:Gh}{aX:List FV}{xs:List EV}{r:FV}
 (B:Base C)(hd:A.depth+8*k+26<900)(hu:A.units+24*k+80<9000)(hh:A.handled=none)
 (W:bz C G wl s.heap)(FA:FnAt C G.F fa f vs fd)(cf:CF f vs.length iU fd)(hm:∀nm,iU=some nm->∃c P,fd.code=.ref c/\(c,P)∈C.tabs/\fd.qualname++".<locals>."++nm=C.tq P)(x:Step C G0 G s0 s)(D0:IU C G0 O s0.heap)
 (T:uZ C G O s0.heap s.heap 0 vals xs)(Rd:bA C G dv f.dflt)(Rc:bA C G vs aX)(dl:dv.length<=f.params)
 (hs:∀(M:Model)(A:fF)(E:aB->aN->Prop)(Q:Option (Array aB)->aN->Prop),(∀r:Option (Array aB),(r.getD #[]).toList=dv->Q r s)->aJ M A (seqItems? fd.defaults) Q E s)
 (hb:Cm C bp N k f iU fd)(he:C4 bp N f aX xs wl=some (r,bQ)):
 codeAny C.M A (.call (.ref fa) ⟨vals,[]⟩) (PR C G0 O s0 r bQ) s:=by
 refine ob he λfr hf he=>bS T λbq m R=>?_;refine yN (fr:=fr) B hd hu hh W FA cf hm x D0 m.w R Rd Rc dl hs hf λenv s' H Cw=>?_
 have out:=yj (fr:=fr) (O:=O) (f:=f) (fd:=fd) x m.w
 revert hb he
 delta Cm;induction f.body using Body.casesOn with
 |stmts ib=>induction fd.body using g7 with
  |expr e=>exactλhb=>hb.elim
  |stmts b=>exactλhb he=>f7 he λfl y Ti D3=>tK D3 λd D3=>PS.to (hb G _ env (A.deeper env) s' fr wl fl y.1 y.2 Ti H) λXd s2 G2 O2 y1 W2 F2 Z5=>⟨G2,bW.out (x.trans Cw) y1 out,W2,TG Z5 D3⟩
 |expr ie=>induction fd.body using g7 with
  |stmts b=>exactλhb=>hb.elim
  |expr e=>exactλhb he=>f7 he λev' w2 Ti D3=>tK D3 λd D3=>PE.to (hb.v G _ env (A.deeper env) s' fr wl ev' w2 Ti H) λw s2 G2 y1 W2 R2=>⟨G2,(x.trans Cw).trans y1,W2,(eh (P:=λe=>cD C G2 (vh s f fd fr bq O) s'.heap s2.heap w e->Rep C G2 w d) D3 λR=>R) R2⟩
def ph(M:Model)(f:aB)(h:eu):Prop:=∃k,(k=Keeper.frame\/k=Keeper.machine\/k=Keeper.boundFrame)/\Looks M h (keeperOf f) k
def w9(C:Cx)(bp:my)(k:Nat):Prop:=
 ∀(d:FV)(xs:List EV)(wl:WL)(r:FV)(bQ:WL),bp d xs wl=some (r,bQ)->∀(G0 G:Gh)(O:aO->Option Role)(s0 s:aN)(A:fF)(f:aB)(vals:List aB),
  Base C->A.handled=none->A.depth+8*k+20<900->A.units+24*k+60<9000->bz C G wl s.heap->Step C G0 G s0 s->IU C G0 O s0.heap->Rep C G f d->uZ C G O s0.heap s.heap 0 vals xs->
  ph C.M f s.heap/\aJ C.M A (call f vals []) (PE C G0 O s0 (.fv r) bQ) ef s
theorem pF{pos:dN}(L:fO (dT C bp k sc ns) es il):(backTo pos (starEach es env)).any (·.1)=false/\(backTo pos (starEach es env)).all (!·.1)=true:=
 L.ind ⟨rfl,rfl⟩ λe es a il La _ ih=>by
  exact eW (mG La.star)<|⟨(mY _).trans ih.1,(gQ _).trans ih.2⟩
theorem sP{pos:dN}{f:aB}{M:Model}{Q:Args->aN->Prop}(L:fO (dT C bp k sc ns) es il):
 aJ M A (spliced (backTo pos (starEach es env))) (λvs aM=>Q ⟨vs,[]⟩ aM) E s->aJ M A (evalArgs f true (backTo pos (starEach es env)) []) Q E s:=
 L.cases (λh=>by
  unfold evalArgs
  show aJ M A (spliced []>>=_) Q E s;exact ai (dR h (λvs s' h'=>ai (ar (bL (ai (ar (ai (ar (ar h')))))))) λ_ _ q=>q)) λe es a il La _ h=>by
  rw[mG La.star]at h⊢;exact qf h
theorem pH(H:Here C G O sc ns env fr wl k A s):A.depth+8*k+20<900/\A.units+24*k+60<9000:=⟨aQ (iu (aP _ _) 20) H.room.depth,aQ (iu (aP _ _) 60) H.room.units⟩
theorem room_in(H:Here C G O sc ns env fr wl k A s)(Ao:sc.lv=lv+1):A.depth+8*k+lv+20<900/\A.units+24*k+3*lv+60<9000:=⟨aQ (iu (cq (Ao▸iq lv) _) 20) H.room.depth,aQ (iu (cq (i2 3 (Ao▸iq lv)) _) 60) H.room.units⟩
theorem B9{f:af}{pos:dN}(hn:notAttr f=true):eval (.Call f es [] pos) env=(do callWith pos (<-eval f env) [] (backTo pos (starEach es env)) (backToKw pos (keywordEach [] env))):=by
 induction f using bE<;>first|rfl|exact ff hn
theorem s_call{f:af}{g:IE}{pos:dN}(hc:w9 C bp k)(hf:dT C bp k sc ns f g)(hn:notAttr f=true)(L:fO (dT C bp k sc ns) es il):
 dT C bp k sc ns (.Call f es [] pos) (.call g il):=
 .mk' (λG O env A s fr wl e bQ q H=>f7 (FQ.symm.trans q) λx w1 q1 q=>f7 q λxs w2 q2 q=>ob q λd hd q=>tK q λy q4=>by
  refine eW (B9 hn) ?_;refine ai (hf.run H q1 λv aM G1 x1 H1 R1=>?_)
  have R1:Rep C G1 v d:=(eh (P:=λx=>cD C G1 O s.heap aM.heap v x->Rep C G1 v d) hd λR=>R) R1;refine P4 (P:=λh=>ph C.M v h) (by refine eW ((pF (pos:=pos) (env:=env) L).1) ?_;rfl) (λ_ p=>p) (sP L (cX (qx L G1 O env A aM fr w1 xs w2 pos 0 q2 H1) λvs bZ h=>dU h λG2 x2 W2 T=>?_))
  have p:=hc d xs w2 y.1 y.2 q4 G1 G2 O aM bZ A v vs H.base H.room.handled (pH H).1 (pH H).2 W2 x2 H1.F.iN (R1.mono x2.ext) T;exact⟨p.1,PE.back x1 p.2⟩) (λ_ _=>rfl) (λ_ _=>dg rfl) rfl
theorem HL(h:∀e∈i5,∃t j,e.key=.str (attrName j) t/\(attrName j==name)=false):getL name i5=some none:=by
 unfold getL;rw[show i5.find? (λe=>e.key.isStr name)=none from jj.mpr λe he=>gf (h e he) λt j hk hn c=>by rw[hk]at c;exact ay (hn.symm.trans c)];dsimp only;rw[show i5.any (·.refKey)=false from Ms.mpr λe he=>gf (h e he) λt j hk hn=>by unfold EI;exact eW hk<|ay];rfl
theorem vV:∀{i5:List b0}{ks:List Nat},KeysAre i5 ks->∀e∈i5,∃t j,e.key=.str (attrName j) t/\j<15
 |[],_,_,_,h=>(nomatch h)
 |e::r,k::r',h,e',he=>(a6.mp he).elim (λq=>xE h.1 λt ht=>⟨t,k,q▸ht,h.2.1⟩) (vV h.2.2 e')
 |_::_,[],h,_,_=>h.elim
theorem tR(y:f_ C G O h ρ i5 fs):∀e∈i5,∃t j,e.key=.str (attrName j) t/\j<15:=
 y.ind (λ_ h=>absurd h a8) λ_ _ p _ a b _ _ ih e' he=>(a6.mp he).elim (λq=>xE a λt ht=>⟨t,p.1,q▸ht,b⟩) (ih e')
theorem OJ{e:EV}(W:bz C G wl s.heap)(R:cD C G O h₀ s.heap v e)(hc:F8 e=some c):
 ∃a d i5 n,v=.ref a/\(CT c).isSome=true/\InstAt s.heap a (instObj c d) c (some (dictOf i5 n))/\∀e∈i5,∃t j,e.key=.str (attrName j) t/\j<15:=
 (EV.Aa (P:=λe=>cD C G O h₀ s.heap v e->_) hc (λd h R=>om h λx h1=>(FV.rL (P:=λd=>Rep C G v d->_) h1 λR=>m7 R.inv λa dx i5 n hv q=>kI q λz a b r q=>⟨_,_,_,_,hv,z,⟨W.sub _ _ a,rfl,rfl,W.sub _ _ b⟩,vV q⟩) R)
   λt h R=>om h λx h1=>xE R λρ R=>(OT.rL (P:=λt=>dO C G O s.heap (λk=>some (ρ k)) v t->_) h1 λR=>xA R λhc R=>jG R λa d i5 n R=>iS R λhv _ _ _ h1 R=>uy R λ_ _ _ _ h2 q _=>⟨a,d,i5,n,hv,hc,⟨h1,rfl,rfl,h2⟩,tR q⟩) R) R
theorem Dv{f:Nat}(h:oU c j=some f):20<=j/\j<25:=
 have no:∀{n:Nat},j=n->20<=n/\n<25->20<=j/\j<25:=λe h=>e▸h
 dV h λ_ h=>r8 h (λe _=>no e (by decide)) λ_ h=>r8 h (λe _=>no e (by decide)) λ_ h=>r8 h (λe _=>no e (by decide)) λ_ h=>r8 h (λe _=>no e (by decide)) λ_ h=>dV h λe _=>no e (by decide)
theorem OC{o:jY}{M:Model}(ho:h.get? a=some o)(hd:o.data=.func fd):ph M (.ref a) h:=by
 obtain⟨c,d,dt,sl⟩:=o;dsimp only at hd;subst hd;exact⟨.frame,.inl rfl,(Looks.ld (part:=none) ho).andThen .now⟩
theorem Hm{pos:dN}(L:fO (dT C bp k sc ns) es il)(hn:es.length<29):methodCallForm (es.length+([]:List Keyword).length) (backTo pos (starEach es env)) (backToKw pos (keywordEach [] env))=true:=by
 unfold methodCallForm;exact eW ((pF (pos:=pos) (env:=env) L).2)<|decide_eq_true (dm hn)
theorem RY{o:af}{g:IE}{pos:dN}(hc:w9 C bp k)(ho:dT C bp k sc ns o g)(hx:x=(ME.user j).word)(hs:mJ o=true)(L:fO (dT C bp k sc ns) es il)
 (hl:(p.endLine==pos.line)=true)(hn:es.length<29):dT C bp k sc ns (.Call (.Attribute o x p) es [] pos) (.eg (.user j) g il):=
 .mk' (λG O env A s fr wl e bQ q H=>f7 (FP.symm.trans q) λy w1 q1 q=>f7 q λxs w2 q2 q=>ob q λc qW q=>ob q λa hm q=>tK q λz q4=>by
  refine eW (arm_eval_Call ..) ?_;refine ai (Cg hs (ho.run H q1 λv aM G1 x1 H1 R1=>ai (b_ (jG (OJ H1.W R1 qW) λad d i5 n h=>fA h λhv HK I hk=>?_))));subst hv
  (refine jP (H.base.wK c HK) λg1 g2 _=>?_)
  (refine mF (H.base.eg c j a hm) λm1 m2 mo m3=>?_)
  (refine xA (Dv hm) λr1 r2=>?_)
  have Wq:x=attrName j:=hx
  have ZR:methodCallPos true o env p pos=pure pos:=by unfold methodCallPos;simp[hl]
  unfold methodCall;refine eW (Hm L hn) ?_;refine ai (bL ?_)
  show aJ C.M A (getMethod (.ref ad) x _) _ _ _;refine eW Wq ?_;refine method_fn (QA H.base H1.W) I g1 g2 m1 m2 (by
   show(lookIn (attrName j) (dictOf i5 n)).map _=_;rw[lookIn_dict,HL λe he=>gf (hk e he) λt i h1 h2=>⟨t,i,h1,(o7 i (az h2 (by decide)) j r2).trans (beq_eq_false_iff_ne.mpr λe=>absurd (az h2 (ak (by decide) r1)) (e▸b8 _))⟩];rfl) ?_
  dsimp only;refine eW ZR ?_;refine ai (ar (P4 (P:=λh=>ph C.M (.ref a) h) (by refine eW ((pF (pos:=pos) (env:=env) L).1) ?_;rfl) (λ_ p=>p) (sP L (cX (qx L G1 O env A aM fr w1 xs w2 pos 1 q2 H1) λvs bZ h=>dU h λG2 x2 W2 T=>?_))));exact hc (.obj a) (y::xs) w2 z.1 z.2 q4 G G2 O s bZ A (.ref a) (.ref ad::vs) H.base H.room.handled (pH H).1 (pH H).2 W2 (x1.trans x2) H.F.iN (.obj m3) (BY x1 R1 x2 T)) (λ_ _=>rfl) (λ_ _=>dg rfl) rfl
def c8(h h':eu)(a:aO):Prop:=∀o,h.get? a=some o->h'.get? a=some o
theorem dJ.at_{o:OB}(q:∀a,O a=r->c8 h h' a)(y:dJ C G O h r v o):dJ C G O h' r v o:=m8 y λa hv hO lC hF c=>
 have k:=q a hO
 ⟨a,hv,hO,lC,hF,o.casesOn (λxs c=>gf c λvs n e q=>⟨vs,n,k _ e,q⟩) (λes c=>Ay c λhs f vs e q1 q2 q3 q4=>xE (fY e) λo ho=>⟨hs,f,vs,lz k e,q1,q2,lh k ho q3,q4⟩) (λxs c=>⟨oI k c.1,c.2.1,c.2.2.at_ k⟩) c⟩
theorem gv.at_(q:∀a i,j<=i->O a=ρ i->c8 h h' a)(y:gv C G O h ρ j vs iH):gv C G O h' ρ j vs iH:=
 y.ind (P:=λj vs iH=>(∀a i,j<=i->O a=ρ i->c8 h h' a)->gv C G O h' ρ j vs iH) (λ_ _=>trivial) (λj _ _ _ _ x _ ih q=>⟨x.at_ λa e=>q a j (aT _) e,ih λa i hi e=>q a i (fN hi) e⟩) q
theorem f5.at_{o:OF}(q:∀a,O a=r->c8 h h' a)(y:f5 C G O h r v o):f5 C G O h' r v o:=match o,y with
 |.fv _,y=>y
 |.ob _,y=>dJ.at_ q y
theorem f_.at_{es:List b0}(q:∀a k,k∈fs.map (·.1)->O a=ρ (k+2)->c8 h h' a)(y:f_ C G O h ρ es fs):f_ C G O h' ρ es fs:=
 y.ind (P:=λes fs=>(∀a k,k∈fs.map (λp:Nat×OF=>p.1)->O a=ρ (k+2)->c8 h h' a)->f_ C G O h' ρ es fs) (λ_=>trivial) (λ_ _ p _ a b c _ ih q=>⟨a,b,c.at_ λa e=>q a p.1 a7 e,ih λa j hj e=>q a j (aW p.1 hj) e⟩) q
theorem dO.at_(q:∀a k,O a=ρ k->c8 h h' a)(y:dO C G O h ρ v t):dO C G O h' ρ v t:=match t,y with
 |.ob o,y=>dJ.at_ (λa e=>q a 0 e) y
 |.gr iH,y=>j9 y λa vs n hv y=>kI y λhO h1 h2 e p=>⟨a,vs,n,hv,hO,h1,h2,q _ _ hO _ e,p.at_ λa i _ e=>q a i e⟩
 |.inst c fs,y=>xA y λhc y=>jG y λa d i5 n y=>iS y λhv hO lC hF e y=>uy y λuM O5 QQ BL ed p hn=>⟨hc,a,d,i5,n,hv,hO,lC,hF,q _ _ hO _ e,uM,O5,QQ,BL,q _ _ uM _ ed,p.at_ λa k _ e=>q a _ e,hn⟩
theorem cT.move(q:∀a r,O a=some r->(r=.kj\/∃k,r=.own i k)->O' a=some r/\c8 h h' a)(y:cT C G O h i sl ov):cT C G O' h' i sl ov:=match sl,y with
 |.unset,y=>y
 |.val d,y=>y
 |.ro d,y=>y
 |.own t,y=>bS y λv e p=>⟨v,e,dO.relabel (O':=O') (MZ:=λk=>some (.own i k)) (λa k e=>(q a _ e (.inr ⟨k,rfl⟩)).1) (p.at_ λa k e=>(q a _ e (.inr ⟨k,rfl⟩)).2)⟩
 |.bor t,y=>bS y λv e p=>⟨v,e,dO.relabel (O':=O') (MZ:=λ_=>some .kj) (λa k e=>(q a _ e (.inl rfl)).1) (p.at_ λa k e=>(q a _ e (.inl rfl)).2)⟩
theorem cT.as{o1 o2:Option aB}(e:o1=o2)(y:cT C G O h i sl o1):cT C G O h i sl o2:=e▸y
theorem yX{b:aO}{o:jY}(sb:cQ a h h')(al:∀o,h.get? a=some o->∃o',h'.get? a=some o')(e:h.get? b=some o):∃o',h'.get? b=some o':=if q:b=a then q▸al o (q▸e)else⟨o,(sb.2 b q).trans e⟩
theorem bW.mod{t:Nat}(x:bW C G G' O O' s s')(n:s.heap.get? a=none\/qi O a)(sb:cQ a s'.heap h')(al:∀o,s'.heap.get? a=some o->∃o',h'.get? a=some o'):bW C G G' O O' s {s' with heap:=h',toks:=t}where
 ext:=x.ext
 keep:=λb o f hn e=>(sb.2 b λq=>n.elim (λn=>gone n (q▸e)) λn=>hn (q▸n)).trans (x.keep b o f hn e)
 alive:=λb o e=>xE (x.alive b o e) λ_ e'=>yX sb al e'
 lx:=x.lx
 kC:=x.kC
 own:=x.own
 Ob:=x.Ob
 Nm:=x.Nm
 gens:=x.gens
 os:=x.os
theorem set_slot(e:setSlot fr i sl=some cH):∃old,fr[i]?=some old/\old.writable=true/\cH=fr.set i sl:=ob e λo h e=>dV e λhw e=>⟨o,h,hw,(ag e).symm⟩
theorem vD(nd:ns.Nodup)(h:ns[i]?=some x)(h':ns[j]?=some x):j=i:=((jL (fB h) nd).mp (h.trans h'.symm)).symm
theorem get_set{xp:Slot}(h:(fr.set i sl)[j]?=some xp)(k1:j=i->sl=xp->P)(k2:j≠i->fr[j]?=some xp->P):P:=
 if q:j=i then k1 q (ag ((ct (by have:=fB h;rw[lq]at this;exact q▸this)).symm.trans (q▸h)))else k2 q ((b9 (d6 q)).symm.trans h)
def Named(r:Role):Prop:=r≠.kj/\∀i k,r≠.own i k
theorem Named.loc:Named .loc:=⟨nofun,nofun⟩
theorem Named.cell:Named (.cell x):=⟨nofun,nofun⟩
theorem Named.ne{b:aO}{r0 r:Role}(n:Named r0)(ha:O a=some r0)(hb:O b=some r)(hk:r=.kj\/∃k,r=.own j k):b≠a:=λq=>
 have e:r0=r:=ag (ha.symm.trans (q▸hb))
 hk.elim (λh=>n.1 (e.trans h)) λh=>xE h λk h=>n.2 j k (e.trans h)
theorem vg(W:bz C G wl s.heap)(F:cJ C G O sc ns env fr s.heap)(hx:ns[i]?=some x)(hs:setSlot fr i sl=some cH)(hw:sl.writable=true)
 (D':IU C G O' s.heap)(hO:∀a r,O a=some r->(∀k,r≠.own i k)->O' a=some r)(Tf:∀a r,O' a=some r->(∃k,r=.own i k)\/O a=some r)
 (lC:∀a k,O' a=some (.own i k)->O a=some (.own i k)\/∀(j:Nat)(y:bB),ns[j]?=some y->env.kindOf y≠some .local->env.cells.lookup y≠some a)
 (S:cT C G O' s.heap i sl (some v)){M:Model}{Q:Unit->aN->Prop}
 (h:∀s' a,bz C G wl s'.heap->cJ C G O' sc ns env cH s'.heap->(∃h' tk,s'={s with heap:=h',toks:=tk})->cQ a s.heap s'.heap->(∃r,O a=some r/\r≠.kj/\∀i k,r≠.own i k)->(∀o,s.heap.get? a=some o->∃o',s'.heap.get? a=some o')->Q () s'):
 aJ M A (storeName env x v) Q E s:=by
 (refine dU (set_slot hs) λold ho Yd q1=>?_;subst q1)
 clear hs
 have C5:∀{c:aO}{r:Role},O c=some r->Named r->O' c=some r:=λh1 h2=>hO _ _ h1 (h2.2 i)
 have Q2:∀{j:Nat}{y:bB}{w:Bool}{c:aO}{o:jY},ns[j]?=some y->env.kindOf y≠some .local->env.cells.lookup y=some c->O c=(if w=true then some (.cell y)else none)->O' c=(if w=true then some (.cell y)else none):=λ{j y w c o} hy ud e1 e4=>match w,e4 with
  |true,e4=>C5 e4 .cell
  |false,e4=>none_of (y:=(none:Option Role)) (λr q=>(Tf c r q).elim (λhq=>xE hq λk e=>(lC c k (e▸q)).elim (λq=>gone e4 q) λq=>absurd e1 (q j y hy ud)) λq'=>gone e4 q') rfl
 have Zi:sc.iU.isSome=true->∀(j:Nat)(y:bB)(d:FV),ns[j]?=some y->(fr.set i sl)[j]?=some (.ro d)->∃c o,env.cells.lookup y=some c/\G.F c=some o:=λhm j y d hy eE=>get_set eE (λ_ e=>ff (e▸hw:(Slot.ro d).writable=true)) λ_ eE=>F.ro hm j y d hy eE
 have go:∀{h':eu}{tk:Nat}{a:aO}{r:Role},O a=some r->Named r->cQ a s.heap h'->(∀o,s.heap.get? a=some o->∃o',h'.get? a=some o')->
  (∃m,h'.Ns env.locals m/\∀j y xp,ns[j]?=some y->(fr.set i sl)[j]?=some xp->env.kindOf y=some .local->(j=i->m y=some v)/\(j≠i->cT C G O s.heap j xp (m y)))->
  (∀j y,ns[j]?=some y->env.kindOf y≠some .local->∀c ov,env.cells.lookup y=some c->s.heap.IsCell c ov->(j=i->h'.IsCell c (some v))/\(j≠i->∀w:Bool,O c=(if w=true then some (.cell y)else none)->c≠a))->
  Q () {s with heap:=h',toks:=tk}:=λ{h' tk a r} ha n sb al hl hc=>by
  have other:∀{j:Nat}{xp:Slot}{ov:Option aB},j≠i->cT C G O s.heap j xp ov->cT C G O' h' j xp ov:=λ{j xp ov} hj S=>
   S.move λb r' hb hk=>⟨hO b r' hb λk e=>hk.elim (λq=>nomatch(q.symm.trans e)) λq=>xE q λk' q=>hj (Role.own.inj (q.symm.trans e)).1,λo e=>(sb.2 b (n.ne ha hb hk)).trans e⟩
  have here:cT C G O' h' i sl (some v):=S.move λb r' hb hk=>⟨hb,λo e=>(sb.2 b (n.ne (C5 ha n) hb hk)).trans e⟩
  have dl:=F.iN _ _ ha;refine h _ a (W.mod dl.1 dl.2.1 sb) ⟨F.fn,F.glob,F.bi,F.nodup,lq.trans F.len,λb r e=>mF (D' b r e) λh1 h2 o h3=>⟨h1,h2,yX sb al h3⟩,F.gl,F.cl,C5 F.lN .loc,?_,λj y xp hy eE ud=>?_,F.iU,F.code,Zi⟩ ⟨h',tk,rfl⟩ sb ⟨r,ha,n⟩ al
  . exact bS hl λm hm hl=>⟨m,hm,λj y xp hy eE ud=>have q:=hl j y xp hy eE ud;get_set eE (λhj e=>by subst hj;subst e;exact(q.1 rfl).symm▸here) λhj _=>other hj (q.2 hj)⟩
  . refine get_set eE (λhj e=>?_) λhj eE=>?_
    . subst hj;subst e
      exact xA (F.pY j y old hy ho ud) λsL q=>iI q λc ov e1 e2 e3 e4 q=>⟨sL,c,some v,e1,(hc j y hy ud c ov e1 e2).1 rfl,here,hw.symm▸Yd▸Q2 (w:=old.writable) (o:=⟨.none,.none,.plain,#[]⟩) hy ud e1 e4,q.1,λ_=>q.2 Yd⟩
    . exact xA (F.pY j y xp hy eE ud) λsL q=>iI q λc ov e1 e2 e3 e4 q=>⟨sL,c,ov,e1,bS e2 λoc Ln aav=>⟨oc,(sb.2 c ((hc j y hy ud c ov e1 e2).2 hj _ e4)).trans Ln,aav⟩,other hj e3,Q2 (o:=⟨.none,.none,.plain,#[]⟩) hy ud e1 e4,q⟩
 exact if hk:env.kindOf x=some .local then bS F.loc λm hm hl=>MK hk hm (λh' hn OW=>go F.lN .loc OW (λ_ _=>j9 hn λo _ _ ho _=>⟨o,ho⟩)
  ⟨_,hn,λj y xp hy eE ud=>⟨λhj=>by subst hj;rw[hx]at hy;cases hy;simp,λhj=>get_set eE (λe _=>absurd e hj) λ_ eE=>(hl j y xp hy eE ud).as (by simp[show y≠x fromλe=>hj (vD F.nodup hx (e▸hy))])⟩⟩
  λj y hy ud c ov e1 e2=>⟨λhj=>absurd (by subst hj;rw[hx]at hy;exact ag hy▸hk) ud,λ_ w e4 q=>by subst q;rw[F.lN]at e4;induction w using ax<;>cases e4⟩) (by exact eW F.fn rfl)
  else xA (F.pY i x old hx ho hk) λ_ q=>iI q λc ov e1 FK e3 e4 q=>by
   rw[Yd,if_pos rfl]at e4
   have aab:c≠env.locals:=λq=>by rw[q,F.lN]at e4;cases e4
   exact P1 F.fn (q.2 Yd) e1 FK λh' qW OW=>bS F.loc λm hm hl=>go (tk:=s.toks) e4 .cell OW (λ_ _=>bS qW λo ho _=>⟨o,ho⟩)
    ⟨m,hm.at' λo e=>(OW.2 _ (d6 aab)).trans e,λj y xp hy eE ud=>⟨λhj=>absurd (by subst hj;rw[hx]at hy;exact ag hy▸ud) hk,λhj=>get_set eE (λe _=>absurd e hj) λ_ eE=>hl j y xp hy eE ud⟩⟩
    λj y hy ud c' Zs e1' Ln=>⟨λhj=>by subst hj;rw[hx]at hy;cases hy;rw[e1]at e1';cases e1';exact qW,λhj w e4' q=>by
     subst q;rw[e4]at e4';induction w using ax with
     |true=>cases e4';exact hj (vD F.nodup hx hy)
     |false=>cases e4'⟩
theorem FI(hr:∃r,O a=some r/\r≠.kj/\∀i k,r≠.own i k):qi O a:=dU (hr) λr h1 h2 _=>⟨r,h1,h2⟩
theorem cJ.extend(F:cJ C G O sc ns env fr h)(h1:∀a r,O a=some r->O' a=some r)
 (h2:∀a r,O' a=some r->O a=some r\/∀(j:Nat)(y:bB),ns[j]?=some y->env.kindOf y≠some .local->env.cells.lookup y≠some a)(D':IU C G O' h):cJ C G O' sc ns env fr h where
 fn:=F.fn
 glob:=F.glob
 bi:=F.bi
 nodup:=F.nodup
 len:=F.len
 iN:=D'
 gl:=F.gl
 cl:=F.cl
 lN:=h1 _ _ F.lN
 loc:=bS (F.loc) λm hm q=>⟨m,hm,λi x s e1 e2 e3=>(q i x s e1 e2 e3).move λa r e _=>⟨h1 a r e,λ_ e=>e⟩⟩
 pY:=λi x s e1 e2 e3=>by
  (refine fo (F.pY i x s e1 e2 e3) λhk c ov q1 q2 q3 q4 q5 q6=>?_)
  refine⟨hk,c,ov,q1,q2,q3.move λa r e _=>⟨h1 a r e,λ_ e=>e⟩,?_,q5,q6⟩;induction hw:s.writable using ax with
  |true=>rw[hw,if_pos rfl]at q4;exact eW (if_pos rfl)<|h1 _ _ q4
  |false=>
   rw[hw,if_neg ay]at q4;refine eW (if_neg ay) ?_;induction q:O' c using aA with
   |none=>rfl
   |some r=>
    rcases h2 c r q with q'|q'
    . rw[q4]at q';exact nn q'
    . exact absurd q1 (q' i x e1 e3)
 iU:=F.iU
 code:=F.code
 ro:=F.ro
noncomputable def oo(O bq:aO->Option Role)(is:List Nat)(a:aO):Option Role:=match bq a with
 |some (.own j k)=>some (.own (is.getD j 0) k)
 |_=>O a
theorem rn{G0:Gh}(x:Step C G0 G s0 s)(m:nU C G s0.heap s.heap 0 bq):bW C G0 G O (oo O bq is) s0 s where
 ext:=x.ext
 keep:=λa o f _ e=>x.keep a o f e
 alive:=x.alive
 lx:=λa o e=>(x.lx a o e).imp id .inl
 kC:=x.kC
 own:=λa o e hn q1=>bS q1 λr h1 h2=>by
  unfold oo at h1;split at h1
  . rename_i j k e1
    have:=(m a _ e1).1;rw[e]at this;exact nn this.symm
  . exact hn ⟨r,h1,h2⟩
 Ob:=λa o e hn=>by
  unfold oo;split
  . rename_i j k e1
    have:=(m a _ e1).1;rw[e]at this;exact nn this.symm
  . exact hn
 Nm:=λa i h=>by
  unfold oo at h;split at h
  . rename_i j k e1
    (refine jP (m a _ e1) λ_ q2=>?_;obtain⟨j',k',q,_,q2⟩:=q2;intro _)
    cases q;simp only[qh,Role.own.injEq]at h;exact absurd h.2 q2
  . exact h
 gens:=x.gens
 os:=x.os
theorem cJ.zA{G0:Gh}(F0:cJ C G0 O sc ns env fr s0.heap)(x:Step C G0 G s0 s)(m:nU C G s0.heap s.heap 0 bq):cJ C G (oo O bq is) sc ns env fr s.heap:=by
 have F:=F0.step x
 have old:∀a r,O a=some r->bq a=none:=λa r e=>by
  (refine mF (F0.iN a r e) λ_ _ o ho=>?_)
  induction q:bq a using aA with
  |none=>rfl
  |some r'=>have:=(m a r' q).1;rw[ho]at this;exact nn this.symm
 refine F.extend (λa r e=>?_) (λa r e=>?_) λa r e=>?_
 . unfold oo;exact eW (old a r e)<|e
 . unfold oo at e
   split at e
   . rename_i j k e1
     refine .inr λj y hy hk hc=>?_
     have hl:j<fr.length:=by
      refine eW F0.len ?_;induction q:decide (j<ns.length)using ax with
      |true=>exact of_decide_eq_true q
      |false=>rw[ba (bu (of_decide_eq_false q))]at hy;exact nn hy
     (refine m9 (F0.pY j y _ hy (aV hl) hk) λ_ c ov q1 q3=>?_;obtain⟨oc,q2,_⟩:=q3;intro _)
     rw[hc]at q1;cases q1
     have:=(m a _ e1).1;rw[q2]at this;exact nn this.symm
   . exact .inl e
 . unfold oo at e
   split at e
   . rename_i j k e1
     (refine m_ (m a _ e1) λ_ _ h3 h4 o h5=>?_)
     exact⟨h3,h4,o,h5⟩
   . exact F.iN a r e
def Vals(C:Cx)(G:Gh)(O:aO->Option Role)(h:eu):List Nat->List aB->List Slot->Prop
 |[],[],[]=>True
 |i::is,v::vs,sl::gU=>cT C G O h i sl (some v)/\sl.writable=true/\Vals C G O h is vs gU
 |_,_,_=>False
@[elab_as_elim] theorem Vals.ind{P:List Nat->List aB->List Slot->Prop}(y:Vals C G O h is vs gU)(h0:P [] [] [])
   (h1:∀i is v vs sl gU,cT C G O h i sl (some v)->sl.writable=true->Vals C G O h is vs gU->P is vs gU->P (i::is) (v::vs) (sl::gU)):P is vs gU:=
  l2 (P:=λis vs=>∀gU,Vals C G O h is vs gU->P is vs gU) is vs (λgU=>gU.casesOn (λ_=>h0) λ_ _ y=>dW y)
   (λi is v vs ih gU=>gU.casesOn (λy=>dW y) λsl gU y=>h1 i is v vs sl gU y.1 y.2.1 y.2.2 (ih gU y.2.2)) (λ_ _ gU=>gU.casesOn (λy=>dW y) λ_ _ y=>dW y) (λ_ _ gU=>gU.casesOn (λy=>dW y) λ_ _ y=>dW y) gU y
theorem Vals.move(q:∀a r,O a=some r->(r=.kj\/∃i k,r=.own i k)->c8 h h' a)(y:Vals C G O h is vs gU):Vals C G O h' is vs gU:=
 y.ind trivial λi _ _ _ _ _ x w _ ih=>⟨x.move λa r e hr=>⟨e,q a r e (hr.imp id λq4=>xE q4 λk e=>⟨i,k,e⟩)⟩,w,ih⟩
def oh:List Slot->List Nat->List Slot->Option (List Slot)
 |fr,[],[]=>some fr
 |fr,i::is,sl::gU=>(setSlot fr i sl).bind λcH=>oh cH is gU
 |_,_,_=>none
def Stores(C:Cx)(env:qZ)(x:bB)(t:aB->Sem Unit):Prop:=∀{A:fF}{E:aB->aN->Prop}{s:aN}{v:aB}{Q:Unit->aN->Prop},aJ C.M A (storeName env x v) Q E s->aJ C.M A (t v) Q E s
def eJ(C:Cx)(env:qZ)(ns:List bB):List Nat->List (aB->Sem Unit)->Prop
 |[],[]=>True
 |i::is,t::ts=>(∃x,ns[i]?=some x/\Stores C env x t)/\eJ C env ns is ts
 |_,_=>False
def PU(C:Cx)(G:Gh)(O:aO->Option Role)(sc:Sc)(ns:List bB)(env:qZ)(s:aN)(fr:List Slot)(wl:WL)(s':aN):Prop:=
 ∃G' O',bW C G G' O O' s s'/\bz C G' wl s'.heap/\cJ C G' O' sc ns env fr s'.heap
theorem i3{G0:Gh}(X:bW C G0 G O0 O s0 s)(W:bz C G wl s.heap)(F:cJ C G O sc ns env fr s.heap)
 (hx:ns[i]?=some x)(hs:setSlot fr i sl=some cH)(hw:sl.writable=true)(S:cT C G O s.heap i sl (some v)){Q:Unit->aN->Prop}
 (h:∀s',bW C G0 G O0 O s0 s'->bz C G wl s'.heap->cJ C G O sc ns env cH s'.heap->(∀a r,O a=some r->(r=.kj\/∃i k,r=.own i k)->c8 s.heap s'.heap a)->Q () s'):
 aJ C.M A (storeName env x v) Q E s:=by
 refine vg W F hx hs hw F.iN (λ_ _ e _=>e) (λ_ _ e=>.inr e) (λ_ _ e=>.inl e) S λs' a W' F' he sb hr al=>?_
 (refine u7 he ?_;clear he;intro h' tk q5;subst q5)
 refine h _ (X.mod ?_ sb al) W' F' λb r e hk o eo=>?_
 . induction q:s0.heap.get? a using aA with
   |none=>exact .inl rfl
   |some o=>
    by_cases hh:qi O0 a
    . exact .inr hh
    . exact absurd (FI hr) (X.own a o q hh)
 . (refine dU hr ?_;clear hr;intro r' h1 h2 h3)
   have:b≠a:=λq=>by
    subst q;rw[e]at h1;cases h1;rcases hk with rfl|⟨i,k,rfl⟩
    . exact h2 rfl
    . exact h3 _ _ rfl
   exact(sb.2 b this).trans eo
theorem pD{G0:Gh}(is:List Nat):∀(ts:List (aB->Sem Unit))(vs:List aB)(gU:List Slot)(fr cH:List Slot)(s:aN),bW C G0 G O0 O s0 s->bz C G wl s.heap->cJ C G O sc ns env fr s.heap->
 eJ C env ns is ts->Vals C G O s.heap is vs gU->oh fr is gU=some cH->aJ C.M A (assignInOrder ts vs) (λ_ s'=>PU C G0 O0 sc ns env s0 cH wl s') E s:=by
 induction is with
 |nil=>
  intro ts vs gU fr cH s X W F hT hV q;induction ts using bP with
  |cons _ _=>exact hT.elim
  |nil=>
   induction vs using bP with
   |cons _ _=>exact hV.elim
   |nil=>
    induction gU using bP with
    |cons _ _=>exact hV.elim
    |nil=>cases q;exact ar ⟨G,O,X,W,F⟩
 |cons i is ih=>
  intro ts vs gU fr cH s X W F hT hV q;induction ts using bP with
  |nil=>exact hT.elim
  |cons t ts=>
   induction vs using bP with
   |nil=>exact hV.elim
   |cons v vs=>
    induction gU using bP with
    |nil=>exact hV.elim
    |cons sl gU=>
     (refine xA hT ?_;clear hT;intro q6;obtain⟨x,hx,ht⟩:=q6;intro hT')
     (refine bS (jf.mp q) λf9 q1 q2=>?_)
     show aJ C.M A (do holding vs (t v);assignInOrder ts vs) _ _ _;refine ai (bL (ht (i3 X W F hx q1 hV.2.1 hV.1 λs' X' W' F' hm=>?_)));exact ih ts vs gU f9 cH s' X' W' F' hT' (hV.2.2.move hm) q2
theorem PU.next(X:PU C G O sc ns env s fr wl s'):PS C G O sc ns env s .next fr wl .next s':=cM X λG1 O1 a b c=>⟨G1,O1,a,b,c,trivial⟩
theorem ve{t:Option af}{l:Nat}(h:qC e=false):swapsWith e t l env=pure false:=by induction e using bE<;>first|rfl|exact nomatch h
theorem Fu{e:OT}(R:mx C G h₀ h v e):∃bq,nU C G h₀ h 0 bq/\dO C G bq h (λk=>some (.own 0 k)) v e:=
 bS R λbq p y=>⟨bq,λa r e=>jP (p a r e) λq1 q2 q3=>⟨q1,bS q2 λk q2 q4=>⟨0,k,q2,aT _,q4⟩,q3⟩,y⟩
theorem AN{G0:Gh}{e:EV}(F0:cJ C G0 O sc ns env fr s0.heap)(X:Step C G0 G s0 s)(W:bz C G wl s.heap)(R:cD C G O s0.heap s.heap v e)
 (hx:ns[i]?=some x)(he:e.Df=some sl)(hs:setSlot fr i sl=some cH):
 aJ C.M A (storeName env x v) (λ_ s'=>PU C G0 O sc ns env s0 cH wl s') ef s:=by
 induction e using EV.casesOn with
 |bor t=>exact nn he
 |fv d=>obtain rfl:=ag he;exact i3 X.o W (F0.step X) hx hs rfl ⟨v,rfl,R⟩ λs' X' W' F' _=>⟨G,O,X',W',F'⟩
 |own t=>
  obtain rfl:=ag he;exact bS (Fu R) λbq m y=>i3 (rn (is:=[i]) X m) W (F0.zA X m) hx hs rfl ⟨v,rfl,dO.relabel (λa k e=>by unfold oo;exact eW e rfl) y⟩ λs' X' W' F' _=>⟨G,_,X',W',F'⟩
theorem Jy{pos:dN}{a:IE}(hx:ns[i]?=some x)(ha:dT C bp k sc ns e a)(hc:qC e=false):jy C bp N k sc ns (.Assign [.Name x p] e pos) (.assign i a):=λG O env A s fr wl fl cH bQ q H=>
 f7 q λy w1 q1 q=>ob q λsl eE q=>MD q λf9 q3=>xY (ha.run H q1 λv aM G1 x1 H1 R1=>cX (AN H.F x1 H1.W R1 hx eE q3) λ_ s' h=>h.next) (ve hc)
theorem AL:Stores C env x (assign (.Name x p) env):=λh=>assign_Name h
theorem AM:Stores C env x (bindName env x):=λh=>bindName_ h
theorem kf:∀{is:List Nat}{es:List af},ly ns is es=true->eJ C env ns is ((assignEach es env).map (·.2))/\(assignEach es env).findIdx? (·.1)=none/\(assignEach es env).length=is.length
 |[],es,h=>l0 h ⟨trivial,rfl,rfl⟩
 |i::is,es,h=>BM h λe es h=>an h λh1 h2=>kL h1 λx p h1=>
  have⟨a,b,c⟩:=kf h2
  ⟨⟨⟨x,eq_of_beq h1,AL⟩,a⟩,List.findIdx?_cons.trans (congrArg (Gq (·+1)) b),congrArg (·+1) c⟩
theorem nk:∀{is:List Nat}{ds:List FV}{fr:List Slot},ez fr is ds=oh fr is (ds.map .val)
 |[],[],_=>rfl
 |i::is,d::ds,fr=>congrArg _ (funext λ_=>nk)
 |[],_::_,_=>rfl
 |_::_,[],_=>rfl
theorem za(hl:is.length=ds.length)(h:bA C G vs ds):Vals C G O h' is vs (ds.map .val):=
 h.ind (P:=λvs ds=>∀is:List Nat,is.length=ds.length->Vals C G O h' is vs (ds.map .val)) (λis hl=>match is,hl with|[],_=>trivial)
  (λv d vs ds a _ ih is hl=>match is,hl with|i::is,hl=>⟨⟨v,rfl,a⟩,rfl,ih is (kM hl)⟩) is hl
theorem oH:∀{is:List Nat}{gU:List Slot}{fr cH:List Slot},oh fr is gU=some cH->is.length=gU.length
 |[],[],_,_,_=>rfl
 |i::is,sl::gU,fr,cH,q=>ob q λ_ _ q=>congrArg (·+1) (oH q)
 |[],_::_,_,_,q=>nn q
 |_::_,[],_,_,q=>nn q
theorem yg{G0:Gh}{x1}(hh:A.handled=none)(X:bW C G0 G O' O s0 s)(W:bz C G wl s.heap)(F:cJ C G O sc ns env fr s.heap)
 (R:Rep C G v (.tup ds))(ht:cY ns (.Tuple es x1 p) is=true)(hs:ez fr is ds=some cH):aJ C.M A (assign (.Tuple es x1 p) env v) (λ_ s'=>PU C G0 O' sc ns env s0 cH wl s') ef s:=by
 rw[nk]at hs
 have hl:=(oH hs).trans (aj _);refine jP (kf (C:=C) (env:=env) (g_ ht).2) λT1 T2 T3=>tupI W R λa vs n h1 r1=>nS (items:=vs.toArray) hh ⟨_,h1,rfl,n,rfl⟩ (by exact eW T3<|eW cg<|eW r1.length<|eW hl rfl) T2 λh' hx=>?_
 have k:∀b o,s.heap.get? b=some o->h'.get? b=some o:=λb o e=>hx b o (bx (bb e)) e
 have x1:Step C G G s {s with heap:=h'}:=.grow h' s.toks k;exact pD is _ _ _ fr cH _ (X.trans x1.o) (W.grow k) (F.step x1) T1 (za hl r1) hs
theorem Ju{n:Nat}{pos:dN}{a:IE}(ht:cY ns (.Tuple es n p) is=true)(ha:dT C bp k sc ns e a)(hn:∀xs k p,e≠.Tuple xs k p):
 jy C bp N k sc ns (.Assign [.Tuple es n p] e pos) (.unpack is a):=λG O env A s fr wl fl cH bQ q H=>
 f7 q λy w1 q1 q=>ob q λds h1 q=>MD q λf9 q3=>Ml (ha.run H q1 λv aM G1 x1 H1 R1=>ob h1 λd h2 h3=>cX (yg H.room.handled x1.o H1.W H1.F
  ((eh (P:=λy=>cD C G1 O s.heap aM.heap v y->Rep C G1 v (.tup ds)) h2 (FV.CV (P:=λd=>Rep C G1 v d->Rep C G1 v (.tup ds)) h3 λR=>R)) R1) ht q3) λ_ s' h=>h.next) (by induction e using bE<;>rfl) (by induction e using bE<;>first|rfl|(exact absurd rfl (hn _ _ _)))
theorem Gf{G0:Gh}{t:af}(hh:A.handled=none)(X:bW C G0 G O' O s0 s)(W:bz C G wl s.heap)(F:cJ C G O sc ns env fr s.heap)
 (R:Rep C G v d)(ht:cY ns t is=true)(hs:c7 fr is d=some cH):aJ C.M A (assign t env v) (λ_ s'=>PU C G0 O' sc ns env s0 cH wl s') ef s:=by
 revert hs
 refine vc ht (λx p i hx hs=>?_) λes n p ht hs=>?_
 . exact assign_Name (i3 X W F hx hs rfl ⟨v,rfl,R⟩ λs' X' W' F' _=>⟨G,O,X',W',F'⟩)
 . have h2:=(g_ ht).1
   revert h2 hs ht
   exact match is with
   |[]=>λ_ _ h2=>absurd h2 (Iu 1)
   |[_]=>λ_ _ h2=>absurd h2 (qR 1)
   |_::_::_=>λht hs _=>ob hs λxs h1 hs=>(FV.CV (P:=λd=>Rep C G v d->_) h1 λR=>yg hh X W F R ht hs) R
theorem Vc{pos:dN}{a:IE}(ha:dT C bp k sc ns e a):jy C bp N k sc ns (.Return (some e) pos) (.ret a):=λG O env A s fr wl fl cH bQ q H=>f7 q λy w1 q1 q=>MD q λd h1=>by
 show aJ C.M A (do standAt pos;let x<-eval e env;pure (Flow.ret x)) _ _ _;exact ai (b_ (ai (ha.run H q1 λv aM G1 x1 H1 R1=>ar ⟨G1,O,x1.o,H1.W,H1.F,(eh (P:=λy=>cD C G1 O s.heap aM.heap v y->Rep C G1 v d) h1 λR=>R) R1⟩)))
theorem GV{pos:dN}:jy C bp N k sc ns (.Return none pos) (.ret (.lit .none)):=λG O env A s fr wl fl cH bQ q H=>xo q (ai (b_ (ar ⟨G,O,(Step.refl C G s).o,H.W,H.F,(.none:Rep C G .none .none)⟩)))
theorem R7{pos:dN}:jy C bp N k sc ns (.Continue pos) .cont:=λG O env A s fr wl fl cH bQ q H=>xo q (ai (b_ (ar ⟨G,O,(Step.refl C G s).o,H.W,H.F,trivial⟩)))
theorem R0:jy C bp N k sc ns st .fail:=λG O env A s fr wl fl cH bQ q H=>nn q
theorem Here.next(H:Here C G O sc ns env fr wl k A s)(W:bz C G' bQ s'.heap)(F:cJ C G' O' sc ns env cH s'.heap):Here C G' O' sc ns env cH bQ k A s':=⟨H.base,H.room,W,F⟩
theorem Ve:qK C bp N k sc ns [] .nil:=λG O env A s fr wl fl cH bQ q H=>xo q (ar ⟨G,O,(Step.refl C G s).o,H.W,H.F,trivial⟩)
theorem R8{b:List bU}{a:IS}{r:IB}(h1:jy C bp N k sc ns st a)(h2:qK C bp N k sc ns b r):qK C bp N k sc ns (st::b) (.cons a r):=λG O env A s fr wl fl cH bQ q H=>f7 q λf1 y q1 q2=>by
 exact eW (execs_cons ..)<|ai (PS.to (h1 G O env A s fr wl f1 y.1 y.2 q1 H) λf aM G1 O1 X1 W1 F1 hf=>TC (g:=λf1=>some (f1,y)) hf q2 (λq2=>PS.back X1 (h2 G1 O1 env A aM y.1 y.2 fl cH bQ q2 (H.next W1 F1)))
  (λq2=>xo q2 (ar ⟨G1,O1,X1,W1,F1,trivial⟩)) λd v hf q2=>xo q2 (ar ⟨G1,O1,X1,W1,F1,hf⟩))
theorem Zd{t:af}{b o:List bU}{pos:dN}{a:IE}{x y:IB}(ht:dT C bp k sc ns t a)(hb:qK C bp N k sc ns b x)(ho:qK C bp N k sc ns o y):jy C bp N k sc ns (.If t b o pos) (.ite a x y):=λG O env A s fr wl fl cH bQ q H=>f7 q λz w1 q1 q2=>by
 show aJ C.M A (do standAt pos;if<-isTrue t env (eval t env)then execs b env else execs o env) _ _ _;exact ai (b_ (ai (ht.C3 H q1 λaM G1 x1 H1=>match z,q2 with
  |true,q2=>PS.back x1.o (hb G1 O env A aM fr w1 fl cH bQ q2 H1)
  |false,q2=>PS.back x1.o (ho G1 O env A aM fr w1 fl cH bQ q2 H1))))
noncomputable def listOf(vs:List aB)(n:Nat):jY:={cls:=.type "list",data:=.seq vs.toArray n}
noncomputable def U3(vs:List aB)(n:Nat):jY:={cls:=.type "tuple",data:=.seq vs.toArray n}
def lJ(C:Cx)(G:Gh)(h:eu)(a:aO)(ds:List FV):Prop:=
 (∃l vs n i,G.F l=some (listOf vs n)/\h.IsListIter a l i/\bA C G (vs.drop i) ds)\/
 (∃l vs n i,G.F l=some (U3 vs n)/\h.IsTupleIter a l i/\bA C G (vs.drop i) ds)\/
 (∃(x left st:Int),IsRangeIter h a x left st/\ds=((ae left.toNat).map λ(i:Nat)=>x+(i:Int)*st).map .int)
theorem lJ.ext(x:Ext G G')(q:c8 h h' a)(I:lJ C G h a ds):lJ C G' h' a ds:=
 I.imp (λI=>j4 I λl vs n i h1 h2 h4=>bS h2 λo h2 h3=>⟨l,vs,n,i,x.f _ _ h1,⟨o,q _ h2,h3⟩,h4.mono x⟩) λI=>I.imp (λI=>j4 I λl vs n i h1 h2 h4=>bS h2 λo h2 h3=>⟨l,vs,n,i,x.f _ _ h1,⟨o,q _ h2,h3⟩,h4.mono x⟩)
  λI=>j9 I λy left st h1 h2=>⟨y,left,st,q _ h1,h2⟩
theorem zE(W:bz C G wl s.heap)(R:Rep C G v d)(hi:items (.fv d)=some ds)
 (h:∀o,o.isFreed=false->lJ C G (s.heap.push o) s.heap.objs.size ds->Q (.ref s.heap.objs.size) {s with heap:=s.heap.push o}):aJ C.M A (pyIter v) Q E s:=
 have hi:uL d=some ds:=hi
 oe hi (λ_ hi=>ob hi λr h1 hi=>dV hi λOZ hi=>(FV.VC (P:=λd=>Rep C G v d->_) h1 λR=>m7 R.inv λa t u w e hr=>an OZ λOZ _=>an OZ λOZ _=>by
  subst e;obtain rfl:=ag hi;exact wpAny_pyIter_range (W.sub _ _ hr) OZ (h _ rfl (.inr (.inr ⟨_,_,_,bH _ rfl,rfl⟩)))) R)
  λxs h1 hi=>dV hi λ_ hi=>by
   obtain rfl:=ag hi;exact oe h1 (λ_ h1=>(FV.xD (P:=λd=>Rep C G v d->_) h1 λR=>jO R.inv λa vs n e hr r=>by
    subst e;exact wpAny_pyIter_list ⟨_,W.sub _ _ hr,rfl,_,rfl⟩ (h _ rfl (.inl ⟨_,_,_,0,hr,⟨_,bH _ rfl,rfl,rfl⟩,r⟩))) R)
    λys h2 h1=>(FV.CV (P:=λd=>Rep C G v d->_) h2 λR=>jO R.inv λa vs n e hr r=>by
     subst e;obtain rfl:=ag h1;exact wpAny_pyIter_tuple ⟨_,W.sub _ _ hr,rfl,_,rfl⟩ (h _ rfl (.inr (.inl ⟨_,_,_,0,hr,⟨_,bH _ rfl,rfl,rfl⟩,r⟩)))) R
theorem drop_cons{α:Type}{vs:List α}{x:α}{r:List α}(e:vs.drop i=x::r):vs[i]?=some x/\vs.drop (i+1)=r:=
 ⟨P_.symm.trans (congrArg YY e),(List.tail_drop.symm.trans (congrArg List.tail e))⟩
@[elab_as_elim] theorem bA.Q1{P:List aB->Prop}(h:bA C G (vs.drop i) (d::ds))(k:∀v,vs[i]?=some v->Rep C G v d->bA C G (vs.drop (i+1)) ds->P vs):P vs:=by
  generalize e:vs.drop i=ws at h;exact(h.rP (P:=λws=>vs.drop i=ws->P vs) λv ws a r e=>k v (drop_cons e).1 a ((drop_cons e).2.symm▸r)) e
theorem FC{Q:Option aB->aN->Prop}(W:bz C G wl s.heap)(I:lJ C G s.heap a (d::ds))
 (h:∀v h' tk,Rep C G v d->lJ C G h' a ds->cQ a s.heap h'->(∃o,h'.get? a=some o)->Q (some v) {s with heap:=h',toks:=tk}):aJ C.M A (pyNext (.ref a)) Q E s:=
 I.elim (λI=>j4 I λl vs n i h1 h2 h4=>h4.Q1 (P:=λ_=>_) λv e1 r1 r2=>wpAny_pyNext_list_item h2 ⟨_,W.sub _ _ h1,rfl,n,rfl⟩ (by simpa using e1) λh' hit hs=>h _ _ s.toks r1 (.inl ⟨l,vs,n,i+1,h1,hit,r2⟩) hs (bS hit λo ho _=>⟨o,ho⟩)) λI=>I.elim
  (λI=>j4 I λl vs n i h1 h2 h4=>h4.Q1 (P:=λ_=>_) λv e1 r1 r2=>wpAny_pyNext_tuple_item h2 ⟨_,W.sub _ _ h1,rfl,n,rfl⟩ (by simpa using e1) λh' hit hs=>h _ _ s.toks r1 (.inr (.inl ⟨l,vs,n,i+1,h1,hit,r2⟩)) hs (bS hit λo ho _=>⟨o,ho⟩))
  λI=>j9 I λy left st h1 h2=>by
   have hl:0<left:=fg λhl=>by rw[Int.toNat_of_nonpos (pj.mp hl)]at h2;exact nomatch h2
   have e:left.toNat=(left-1).toNat+1:=xE (Int.eq_succ_of_zero_lt hl) λn e=>by
    refine eW e ?_
    show n+1=(((n:Int)+1)-1).toNat+1;exact eW (tD ..) rfl
   rw[e,CG,bT,bT,bG]at h2;injection h2 with h2 h3
   refine wpAny_pyNext_range_item h1 hl λh' hit hs=>h _ _ _ ?_ (.inr (.inr ⟨_,_,_,hit,?_⟩)) hs ⟨_,hit⟩
   . exact eW h2<|eW Int.natCast_zero<|eW (Int.zero_mul ..)<|eW (Int.add_zero ..)<|.int _ _
   . refine eW h3<|eW bG<|eW bG ?_
     refine dB λj _=>congrArg FV.int ?_
     show y+((j+1:Nat):Int)*st=y+st+(j:Int)*st;exact eW (Int.natCast_succ ..)<|eW (Int.add_mul ..)<|eW (Y0 ..)<|eW (Mw ..)<|eW (Int.add_assoc ..) rfl
theorem bA.Sy(h:bA C G vs []):vs=[]:=n9.mp h.length
theorem KC{Q:Option aB->aN->Prop}(hh:A.handled=none)(W:bz C G wl s.heap)(I:lJ C G s.heap a [])
 (h:∀h',XG a s.heap h'->Q none {s with heap:=h'}):aJ C.M A (pyNext (.ref a)) Q E s:=
 I.elim (λI=>j4 I λl vs n i h1 h2 h4=>wpAny_pyNext_list_end hh h2 ⟨_,W.sub _ _ h1,rfl,n,rfl⟩ (by simpa using qt.mp h4.Sy) h) λI=>I.elim
  (λI=>j4 I λl vs n i h1 h2 h4=>wpAny_pyNext_tuple_end hh h2 ⟨_,W.sub _ _ h1,rfl,n,rfl⟩ (by simpa using qt.mp h4.Sy) h)
  λI=>j9 I λy left st h1 h2=>wpAny_pyNext_range_end hh h1 (Int.toNat_eq_zero.mp (by have:=congrArg List.length h2;rw[aj,aj,aq]at this;exact this.symm)) h
structure Loose(C:Cx)(G:Gh)(O:aO->Option Role)(h:eu)(a:aO):Prop where
 f:G.F a=none
 free:eQ C G a
 own:O a=none
 has:∃o,h.get? a=some o
theorem Loose.zV(L:Loose C G O h a):¬qi O a:=λq=>bS q λ_ q _=>gone L.own q
theorem Loose.step(L:Loose C G O s.heap a)(x:bW C G G' O O' s s'):Loose C G' O' s'.heap a where
 f:=xE L.has λo ho=>none_of (y:=(none:Option jY)) (λo' q=>(x.lx a o' q).elim (gone L.f) λq=>q.elim (λq=>gone q ho) λq=>absurd q L.zV) rfl
 free:=⟨L.free.1,λe=>(x.kC a e).elim L.free.2 λq=>xE L.has λo ho=>gone q ho⟩
 own:=xE L.has λo ho=>x.Ob a o ho L.own
 has:=xE L.has λo ho=>⟨o,x.keep a o L.free L.zV ho⟩
theorem Loose.same(L:Loose C G O s.heap a)(x:bW C G G' O O' s s'):c8 s.heap s'.heap a:=λo e=>x.keep a o L.free L.zV e
theorem cJ.loose(F:cJ C G O sc ns env fr h)(n:O a=none)(nc:∀(j:Nat)(y:bB),ns[j]?=some y->env.kindOf y≠some .local->env.cells.lookup y≠some a)(k:∀b,b≠a->c8 h h' b):cJ C G O sc ns env fr h':=
 have kO:∀{b:aO}{r:Role},O b=some r->c8 h h' b:=λe=>k _ λq=>gone n (q▸e)
 {F with
  iN:=λb r e=>mF (F.iN b r e) λh1 h2 o h3=>⟨h1,h2,o,kO e _ h3⟩
  loc:=bS F.loc λm hm q=>⟨m,hm.at' (kO F.lN),λi x s e1 e2 e3=>(q i x s e1 e2 e3).move λb r e _=>⟨e,kO e⟩⟩
  pY:=λi x s e1 e2 e3=>xA (F.pY i x s e1 e2 e3) λhk q=>iR q λc ov q1 q2 q3 q=>⟨hk,c,ov,q1,bS q2 λoc q2 Zn=>⟨oc,k c (λq=>nc i x e1 e3 (q▸q1)) _ q2,Zn⟩,q3.move λb r e _=>⟨e,kO e⟩,q⟩}
theorem gH.loose(W:gH C G h ow wl)(k:∀b,ow=some b->c8 h h' b):gH C G h' ow wl:=match ow,wl,W,k with
 |some b,some ds,W,k=>nW W λh1 vs n h2 r=>⟨h1,vs,n,k b rfl _ h2,r⟩
 |none,none,_,_=>trivial
theorem bz.loose(W:bz C G wl h)(f:G.F a=none)(fr:eQ C G a)(k:∀b,b≠a->c8 h h' b):bz C G wl h' where
 sub:=λb o e=>k b (λq=>gone f (q▸e)) _ (W.sub b o e)
 base:=W.base
 tabs:=λq hq=>qk (W.tabs q hq) λh1 h2 ps h3 r=>⟨h1,h2,ps,k _ (fr.1 q hq) _ h3,r⟩
 well:=W.well.loose λb e=>k b λq=>fr.2 (q▸e)
theorem bW.loose{t:Nat}(x:bW C G G' O O' s s')(n:s.heap.get? a=none)(k:∀b,b≠a->c8 s'.heap h' b):bW C G G' O O' s {s' with heap:=h',toks:=t}:=
 {x with
  keep:=λb o f hn e=>k b (λq=>gone n (q▸e)) _ (x.keep b o f hn e)
  alive:=λb o e=>xE (x.alive b o e) λo' e'=>⟨o',k b (λq=>gone n (q▸e)) _ e'⟩}
theorem eH(sb:cQ a h h'):∀b,b≠a->c8 h h' b:=λb q o e=>(sb.2 b q).trans e
theorem cJ.mS(F:cJ C G O sc ns env fr h)(n:h.get? a=none):∀(j:Nat)(y:bB),ns[j]?=some y->env.kindOf y≠some .local->env.cells.lookup y≠some a:=λj y hy hk hc=>
 xA (F.pY j y _ hy (aV (F.len.symm▸fB hy)) hk) λ_ q=>cM q λc ov q1 q2 _=>bS q2 λoc q2 _=>gone n (ag (q1.symm.trans hc)▸q2)
def L8(C:Cx)(G:Gh)(O:aO->Option Role)(sc:Sc)(ns:List bB)(env:qZ)(s:aN)(run:Gh->(aO->Option Role)->aN->Nat->St->Prop)(n:Nat)(s':aN):Prop:=
 ∃G' O' gX jk,bW C G G' O O' s s'/\bz C G' jk s'.heap/\cJ C G' O' sc ns env gX s'.heap/\run G' O' s' n (gX,jk)
theorem Nr{t:af}{b:List bU}{pos:dN}{a:IE}{x:IB}(ht:dT C bp k sc ns t a)(hb:qK C bp N k sc ns b x):jy C bp N k sc ns (.While t b [] pos) (.while a x):=λG O env A s fr wl fl cH bQ q H=>by
 refine wpAny_While (codeAny_whileLoop (L8 C G O sc ns env s λ_ _ _ n Ia=>y9 (λwV:St=>(eK bp a wV.1 wV.2).map λx=>(x.1,wV.1,x.2)) (λwV:St=>hX bp N x wV) n Ia=some (fl,cH,bQ)) (λn s' h=>?_) N ⟨G,O,fr,wl,(Step.refl C G s).o,H.W,H.F,q⟩);refine jG h λG' O' gX jk h=>fA h λX W F q=>?_;induction n using Iw with
 |zero=>exact nn q
 |succ n=>
  refine ob q λy q1 q3=>?_
  revert q3
  refine Yb q1 λc w1 q1 q3=>ht.C3 (H.next W F) q1 λaM G1 x1 H1=>?_;induction c using ax with
  |false=>exact xo q3 (Cn ⟨G1,O',X.trans x1.o,H1.W,H1.F,trivial⟩)
  |true=>
   refine f7 q3 λf1 y q4 q5=>PS.to (hb G1 O' env A aM gX w1 f1 y.1 y.2 q4 H1) λf bZ G2 O2 X2 W2 F2 hf=>?_
   have X3:=(X.trans x1.o).trans X2;exact zX hf q5 (λq5=>⟨n,bg n,G2,O2,y.1,y.2,X3,W2,F2,q5⟩) (λq5=>⟨n,bg n,G2,O2,y.1,y.2,X3,W2,F2,q5⟩) λd v hf q5=>xo q5 ⟨G2,O2,X3,W2,F2,hf⟩
theorem Kr{t:af}{it:aB}{Q:Unit->aN->Prop}(I:∀a,it=.ref a->∃o n,s.heap.get? a=some o/\o.cls=.type n/\(["enumerate","zip","dict_itemiterator","dict_reverseitemiterator","odict_iterator","itertools.zip_longest","itertools.pairwise"]:List String).contains n=false)(h:Q () s):
 aJ C.M A (letOwnedTupleGo t it v) Q E s:=by
 have fin:aJ C.M A (do
  let(.ref r,.ref a):=(it,v)|return
  let o<-load r
  match o.cls,o.data with
  |.type n,.fields vs=>
   if["enumerate","zip","dict_itemiterator","dict_reverseitemiterator","odict_iterator","itertools.zip_longest","itertools.pairwise"].contains n&&vs[0]?==some (rawInt a)then
    rule "for.unpacks-the-owned-tuple"
    updateField r 0 .none
  |_,_=>pure ():Sem Unit) Q E s:=by
  induction it using eT with
  |ref r=>
   induction v using eT with
   |ref a=>
    (refine cM (I r rfl) λo n ho hc hn=>?_)
    refine ai (Ua ho ?_);refine eW hc ?_;induction o.data using lL with
    |fields vs=>
     dsimp only;exact eW hn<|ar h
    |_=>exact ar h
   |_=>exact ar h
  |_=>exact ar h
 delta letOwnedTupleGo;induction t using bE<;>first|exact ar h|exact fin
theorem lJ.cls(I:lJ C G h a ds):∃o n,h.get? a=some o/\o.cls=.type n/\(["enumerate","zip","dict_itemiterator","dict_reverseitemiterator","odict_iterator","itertools.zip_longest","itertools.pairwise"]:List String).contains n=false:=by
 exact I.elim (λI=>j4 I λl vs n i _ h2 _=>dU h2 λo h2 h3 _=>⟨o,"list_iterator",h2,h3,by decide⟩) λI=>I.elim (λI=>j4 I λl vs n i _ h2 _=>dU h2 λo h2 h3 _=>⟨o,"tuple_iterator",h2,h3,by decide⟩)
  λI=>j9 I λy left st h1 h2=>⟨_,"range_iterator",h1,rfl,by decide⟩
theorem bW.refl(C:Cx)(G:Gh)(O:aO->Option Role)(s:aN):bW C G G O O s s:=(Step.refl C G s).o
theorem zW(h:gV e=true)(x:aB):foldedSetIterable e env x=pure x:=by induction e using bE<;>first|rfl|exact ff h
theorem yu{G0:Gh}{o:jY}(F:cJ C G O sc ns env fr s.heap)(W:bz C G wl s.heap)(x:Step C G0 G s0 s)(hf:o.isFreed=false):
 s0.heap.get? s.heap.objs.size=none/\Loose C G O (s.heap.push o) s.heap.objs.size:=
 ⟨none_of (x.alive _) eI,gM W,gq W,none_of (y:=(none:Option Role)) (λr q=>mF (F.iN _ _ q) λ_ _ o' pX=>gone eI pX) rfl,o,hH hf⟩
structure Nx(C:Cx)(G0 G:Gh)(O0 O:aO->Option Role)(sc:Sc)(ns:List bB)(env:qZ)(fr:List Slot)(wl:WL)(a:aO)(ds:List FV)(sb s s1:aN):Prop where
 X:bW C G0 G O0 O sb s1
 W:bz C G wl s1.heap
 F:cJ C G O sc ns env fr s1.heap
 I:lJ C G s1.heap a ds
 L:Loose C G O s1.heap a
 k:∀b,b≠a->c8 s.heap s1.heap b
theorem Nx.next{G0:Gh}{O1:aO->Option Role}{s1 s2:aN}(n:Nx C G0 G O0 O sc ns env fr wl a ds sb s s1)(x:bW C G G1 O O1 s1 s2)(k:bW C G0 G1 O0 O1 sb s2->lJ C G1 s2.heap a ds->Loose C G1 O1 s2.heap a->P):P:=
 k (n.X.trans x) (n.I.ext x.ext (n.L.same x)) (n.L.step x)
theorem vW{G0:Gh}{Q:Option aB->aN->Prop}(X:bW C G0 G O0 O sb s)(n0:sb.heap.get? a=none)(nc:∀(j:Nat)(y:bB),ns[j]?=some y->env.kindOf y≠some .local->env.cells.lookup y≠some a)(W:bz C G wl s.heap)(F:cJ C G O sc ns env fr s.heap)
 (I:lJ C G s.heap a (d::ds))(L:Loose C G O s.heap a)(h:∀v s1,Rep C G v d->Nx C G0 G O0 O sc ns env fr wl a ds sb s s1->Q (some v) s1):aJ C.M A (pyNext (.ref a)) Q E s:=
 FC W I λv h' tk R I' Qk al=>h v {s with heap:=h',toks:=tk} R ⟨X.loose n0 (eH Qk),W.loose L.f L.free (eH Qk),F.loose L.own nc (eH Qk),I',⟨L.f,L.free,L.own,al⟩,eH Qk⟩
theorem zF{G0:Gh}{Q:Option aB->aN->Prop}(hh:A.handled=none)(X:bW C G0 G O0 O sb s)(n0:sb.heap.get? a=none)(nc:∀(j:Nat)(y:bB),ns[j]?=some y->env.kindOf y≠some .local->env.cells.lookup y≠some a)(W:bz C G wl s.heap)(F:cJ C G O sc ns env fr s.heap)
 (I:lJ C G s.heap a [])(L:Loose C G O s.heap a)(h:∀s1,bW C G0 G O0 O sb s1->bz C G wl s1.heap->cJ C G O sc ns env fr s1.heap->(∀b,b≠a->c8 s.heap s1.heap b)->Q none s1):aJ C.M A (pyNext (.ref a)) Q E s:=
 KC hh W I λh' hx=>h {s with heap:=h'} (X.loose n0 λb q o e=>hx b o q e) (W.loose L.f L.free λb q o e=>hx b o q e) (F.loose L.own nc λb q o e=>hx b o q e) λb q o e=>hx b o q e
theorem Vl{t:af}{b:List bU}{pos:dN}{a:IE}{x:IB}(ht:cY ns t is=true)(hi:dT C bp k sc ns it a)(hn:gV it=true)(hb:qK C bp N k sc ns b x):
 jy C bp N k sc ns (.For t it b [] pos) (.for is a x):=λG O env A s fr wl fl cH bQ q H=>f7 q λy w1 q1 q=>ob q λds q2 q3=>by
 refine wpAny_For (hi.run H q1 λv aM G1 x1 H1 R1=>ob q2 λd h1 q2=>zE (d:=d) H1.W ((eh (P:=λy=>cD C G1 O s.heap aM.heap v y->Rep C G1 v d) h1 λR=>R) R1) q2 λo hf I=>?_) (zW hn)
 have x2:Step C G1 G1 aM {aM with heap:=aM.heap.push o}:=.grow _ aM.toks (cO o)
 have nc:=H1.F.mS (a:=aM.heap.objs.size) eI
 (refine xA (yu H1.F H1.W x1 hf) λn0 L0=>?_)
 generalize aM.heap.objs.size=ia at*;refine Rf (L8 C G O sc ns env s λG' O' s' n Ia=>∃rest,n=rest.length/\lJ C G' s'.heap ia rest/\Loose C G' O' s'.heap ia/\forL (λ(wV:St) v=>(c7 wV.1 is v).bind λfr=>hX bp N x (fr,wV.2)) rest Ia=some (fl,cH,bQ)) (λn s' h=>?_) ds.length
  ⟨G1,O,fr,w1,(x1.trans x2).o,H1.W.grow (cO o),H1.F.step x2,ds,rfl,I,L0,q3⟩
 refine jG h λG' O' gX jk h=>fA h λX W F h=>oz h λrest hn I L q=>?_;subst hn;induction rest using bP with
 |nil=>exact xo q (zF H.room.handled X n0 nc W F I L λs1 X W F _=>Cn ⟨G',O',X,W,F,trivial⟩)
 |cons d ds=>
  refine f7 q λf1 y q1 q6=>ob q1 λwq q4 q5=>vW X n0 nc W F I L λv s1 R n=>?_;refine Kr (λa e=>by cases e;exact n.I.cls) ?_;refine cX (Gf (s0:=s1) H.room.handled (bW.refl C G' O' _) n.W n.F R ht q4) λ_ et h=>cM h λG3 O3 X3 W3 F3=>?_;refine PS.to (hb G3 O3 env A et wq jk f1 y.1 y.2 q5 (H.next W3 F3)) λf lM G4 O4 X4 W4 F4 hf=>?_;refine n.next (X3.trans X4) λX6 I5 L5=>?_
  exact zX hf q6 (λq6=>⟨ds.length,bg _,G4,O4,y.1,y.2,X6,W4,F4,ds,rfl,I5,L5,q6⟩) (λq6=>⟨ds.length,bg _,G4,O4,y.1,y.2,X6,W4,F4,ds,rfl,I5,L5,q6⟩) λd' v hf q6=>xo q6 ⟨G4,O4,X6,W4,F4,hf⟩
theorem zh{T_:aB->aN->Prop}(h:T_ (.ref s.heap.objs.size) {s with heap:=s.heap.push (fy (eX C.w))}):
 codeAny C.M A (.call (.builtin "set.__new__") ⟨[.type "set"],[]⟩) (wants T_ E) s:=by
 refine Co ?_
 show aJ _ A.in1 (do checkBuiltinCall "set.__new__" ⟨[.type "set"],[]⟩;again (.builtin "set.__new__" ⟨[.type "set"],[]⟩)) _ _ s;refine ai (wpAny_of_eq F.newCall_set_0 (ar ⟨plainId_quiet UO _,qY F.entry_set_new ?_⟩));refine eW (pS UO _) ?_;delta qQ.«set.__new__» P8
 have ZL:=sub_set_self;obtain⟨hp,g,d,tk,os⟩:=s;dsimp only
 wp_walk
 refine eG (ar ?_);dsimp only;simp only[newObj];refine ai (tp (ar ?_));exact ar h
theorem LJ(h:Q (.ref s.heap.objs.size) {s with heap:=s.heap.push (fy (eX C.w))}):aJ C.M A (call (.type "set") []) Q E s:=by
 (refine u7 (iY.mro) λc tl adB=>?_)
 have abA:=iY.made
 have ZL:=iY.sub;refine Ub (Co ?_)
 show aJ _ _ (callAny (.type "set") _) _ _ _;refine ar ⟨Code.quiet_builtin _ (by decide+kernel),qY F.entry_type_call ?_⟩;refine eW (Around.under_plain (weight_type_call_type "set" [] []) rfl) ?_
 have h1:=iY.notType
 have h2:=iY.canCreate
 have HK:=F.typeCall_set_0
 repeat(any_goals (first|assumption|wp_step))
 refine kH (zh (E:=E) (T_:=λobj aM=>obj=.ref s.heap.objs.size/\aM={s with heap:=s.heap.push (fy (eX C.w))}) ⟨rfl,rfl⟩) λr aM hr=>?_;rcases r with e|(obj|_|_|_)<;>first|exact hr.elim|skip
 . exact hr
 . (refine xA hr ?_;clear hr;intro q1;subst q1;intro q2;subst q2)
   have hS:(s.heap.push (fy (eX C.w))).get? s.heap.objs.size=some (fy (eX C.w)):=bH _ rfl
   have hT:Shared.TypeIs {s with heap:=s.heap.push (fy (eX C.w))} (.ref s.heap.objs.size) "set":=⟨_,hS,rfl⟩
   have hli:=iY.init.lookup
   have hbi:=iY.init.bind (.ref s.heap.objs.size)
   repeat(any_goals (first|assumption|wp_step))
   refine kH (codeAny_call_builtin (R:=wants (λr bZ=>r=.none/\Q (.ref s.heap.objs.size) bZ) E) iY.init.plain F.entry_set_init (check_set_init hT ?_)) λZh bZ FG=>?_
   . delta qQ.«set.__init__» noKeywords
     delta fy at*
     wp_walk
     exact⟨rfl,h⟩
   . rcases Zh with e|(r|_|_|_)<;>first|exact FG.elim|skip
     . exact FG
     . (refine xA FG ?_;clear FG;intro q3;subst q3;intro hq)
       repeat(any_goals (first|assumption|wp_step))
theorem J0{o:jY}{t:Nat}(W:bz C G wl s.heap)(k:∀b o',s.heap.get? b=some o'->h'.get? b=some o')(ho:h'.get? s.heap.objs.size=some o)
 (R:∀G':Gh,Ext G G'->G'.F s.heap.objs.size=some o->Rep C G' (.ref s.heap.objs.size) d):PE C G O s (.fv d) wl (.ref s.heap.objs.size) {s with heap:=h',toks:=t}:=by
 have hP:∀a,a=s.heap.objs.size->s.heap.get? a=none:=λa e=>by exact eW e<|eI
 exact⟨G.with h' (λa=>a=s.heap.objs.size),yi W.sub hP k,yd W hP k,R _ (ju W.sub hP) ((fS (P:=λa=>a=s.heap.objs.size) rfl).trans ho)⟩
theorem Hb{o:jY}{x:OT}{t:Nat}(W:bz C G wl s.heap)(k:∀b o',s.heap.get? b=some o'->h'.get? b=some o')(ho:h'.get? s.heap.objs.size=some o)
 (R:∀O':aO->Option Role,O' s.heap.objs.size=some (.own 0 0)->dO C G O' h' (λk=>some (.own 0 k)) (.ref s.heap.objs.size) x):PE C G O s (.own x) wl (.ref s.heap.objs.size) {s with heap:=h',toks:=t}:=
 ⟨G,.grow _ _ k,W.grow k,N2 s.heap.objs.size,λa r e=>Dl e λh1 h2=>h1▸⟨eI,⟨0,h2,by decide⟩,gM W,gq W,o,ho⟩,R _ (if_pos rfl)⟩
theorem qy{n t:Nat}{own:Bool}(W:bz C G wl s.heap)(k:∀b o',s.heap.get? b=some o'->h'.get? b=some o')(ho:h'.get? s.heap.objs.size=some {cls:=.type "list",data:=.seq vs.toArray n})(R:bA C G vs xs):
 PE C G O s (if own then .own (.ob (.list xs))else .fv (.list xs)) wl (.ref s.heap.objs.size) {s with heap:=h',toks:=t}:=by
 induction own using ax with
 |false=>exact J0 W k ho λG' x1 x2=>.list x2 (R.mono x1)
 |true=>exact Hb W k ho λO' hO=>⟨_,rfl,hO,gq W,gM W,vs.toArray,n,ho,by simpa using R⟩
theorem uR{es:List EV}(T:uZ C G O h₀ h i vs es)(q:xR es=some xs):bA C G vs xs:=bS T λ_ _ R=>R.xR q
@[elab_as_elim] theorem bA.Kf{P:List aB->Prop}(h:bA C G vs [])(k:P []):P vs:=h.Sy▸k
@[elab_as_elim] theorem Ea{α:Type}{f:FV->Option α}{g:OT->Option α}{x:α}{a:EV}{P:List aB->Prop}(T:uZ C G O h₀ h i vs [a])(e:a.by f g=some x)(k:∀v,cD C G O h₀ h v a->P [v]):P vs:=
  bS T λbq m R=>Xg R λv R=>k v ((EV.Aa (P:=λa=>nV C G O bq h i v a->cD C G O h₀ h v a) e (λ_ _ R=>R) λ_ _ R=>R) R)
@[elab_as_elim] theorem fv1{P:List aB->Prop}(T:uZ C G O h₀ h i vs [.fv d])(k:∀v,Rep C G v d->P [v]):P vs:=
  (uR T rfl).rP λv vs r R=>R.Kf (P:=λvs=>P (v::vs)) (k v r)
@[elab_as_elim] theorem ints1{a:Int}{P:List aB->Prop}(T:uZ C G O h₀ h i vs [.fv (.int a)])(k:∀t,P [.int a t]):P vs:=
  fv1 T λv r=>uc (P:=λv=>P [v]) r k
@[elab_as_elim] theorem ints2{a b:Int}{P:List aB->Prop}(T:uZ C G O h₀ h i vs [.fv (.int a),.fv (.int b)])(k:∀t t',P [.int a t,.int b t']):P vs:=
  (uR T rfl).rP λv vs r R=>R.rP (P:=λvs=>P (v::vs)) λv' vs r' R=>R.Kf (P:=λvs=>P (v::v'::vs)) (uc (P:=λv=>P [v,v']) r λt=>uc (P:=λv'=>P [.int a t,v']) r' λt'=>k t t')
@[elab_as_elim] theorem ints3{a b c:Int}{P:List aB->Prop}(T:uZ C G O h₀ h i vs [.fv (.int a),.fv (.int b),.fv (.int c)])(k:∀t t' X9,P [.int a t,.int b t',.int c X9]):P vs:=
  (uR T rfl).rP λv vs r R=>R.rP (P:=λvs=>P (v::vs)) λv' vs r' R=>R.rP (P:=λvs=>P (v::v'::vs)) λv2 vs r2 R=>R.Kf (P:=λvs=>P (v::v'::v2::vs))
    (uc (P:=λv=>P [v,v',v2]) r λt=>uc (P:=λv'=>P [.int a t,v',v2]) r' λt'=>uc (P:=λv2=>P [.int a t,.int b t',v2]) r2 λX9=>k t t' X9)
@[elab_as_elim] theorem FV.Qj{P:FV->Prop}(h:d.seq?=some xs)(k:P (.tup xs))(l:P (.list xs)):P d:=oe h (λ_ h=>FV.xD h l) λa h1 h2=>FV.CV (h1.trans h2) k
theorem E9:∀{vs:List aB}{ds:List FV},vs.length=ds.length->(∀(i:Nat)(v:aB)(d:FV),vs[i]?=some v->ds[i]?=some d->Rep C G v d)->bA C G vs ds
 |[],[],_,_=>.nil
 |v::vs,d::ds,hl,h=>.cons (h 0 v d rfl rfl) (E9 (by simpa using hl) λi w e h1 h2=>h (i+1) w e (by simpa using h1) (by simpa using h2))
 |[],_::_,hl,_=>by simp at hl
 |_::_,[],hl,_=>by simp at hl
theorem Xr{a:EV}{n:Nat}(W:bz C G wl s.heap)(R:cD C G O h₀ s.heap v a)(e:V6 a=some n)(hn:cc n=true):aJ C.M A (call (.builtin "len") [v]) (PE C G O s (.fv (.int n)) wl) ef s:=
 have hz:=dP hn
 have lst:∀{xs:List FV}{u:aB}{a:EV}{h₀:eu},cD C G O h₀ s.heap u a->a.ei=some xs->xs.length=n->aJ C.M A (call (.builtin "len") [u]) (PE C G O s (.fv (.int n)) wl) ef s:=λR h e=>listI W R h λa vs m h1 r1=>
  have hl:vs.toArray.size=n:=r1.length.trans e
  Gp (items:=vs.toArray) ⟨_,h1,rfl,m,rfl⟩ (by refine eW hl ?_;lia) (hl▸eP _ W (.int _ _))
 (EV.Aa (P:=λa=>cD C G O h₀ s.heap v a->_) e
   (λd e R=>Am e λxs h e=>(FV.Qj (P:=λd=>Rep C G v d->_) h
     (λR=>tupI W R λa vs m h1 r1=>have hl:vs.toArray.size=n:=r1.length.trans (ag e)
       len_tuple (items:=vs.toArray) ⟨_,h1,rfl,m,rfl⟩ (by refine eW hl ?_;lia) (hl▸eP _ W (.int _ _)))
     λR=>lst (a:=.fv (.list xs)) (h₀:=h₀) R rfl (ag e)) R)
   λt e R=>oe e (λ_ e=>Am e λiH h1 e=>xE R λρ R=>(OT.Kp (P:=λt=>dO C G O s.heap (λk=>some (ρ k)) v t->_) h1 λR=>fR R λa vs m hv _ _ _ h1 q=>by
    subst hv
    have hl:vs.size=n:=(bC.symm.trans q.length).trans (ag e);exact Gp (items:=vs) ⟨_,h1,rfl,m,rfl⟩ (by refine eW hl ?_;lia) (hl▸eP _ W (.int _ _))) R)
    λo h1 e=>Am e λxs h2 e=>lst (a:=.bor t) (h₀:=h₀) R (bs h1 h2) (ag e)) R
theorem zl(a b c:Int):0<=b7 a b c:=by
 unfold b7;split<;>split<;>first|lia|(have:=Ry (a:=b-a-1) (b:=c) (by lia) (by lia);omega)|(have:=Ry (a:=a-b-1) (b:= -c) (by lia) (by lia);omega)
theorem C9{a b c:Int}{acc:Array aB}(hs:acc.size=(b7 a b c).toNat)(hi:∀(i:Nat)(v:aB),acc[i]?=some v->∃t,v=.int (a+i*c) t):bA C G acc.toList ((oM a b c).map .int):=
 E9 (by rw[aj,oM,aj,aq];exact hs) λi w d h1 h2=>get_map h2 λj h3 e=>get_map h3 λn h4 e2=>xE (c9.mp h4) λh5 h6=>xE (hi i w ((pz).symm.trans h1)) λt e3=>by
  subst e3 e e2;exact eL ((IM h5).symm.trans h6)<|.int _ _
theorem zY(e:fits xs=some ys)(k:cc xs.length=true->xs=ys->P):P:=dV e λh e=>k h (ag e)
theorem TU{a:EV}{own:Bool}(hh:A.handled=none)(W:bz C G wl s.heap)(R:cD C G O h₀ s.heap v a)(e:listItems a=some xs):
 aJ C.M A (call (.type "list") [v]) (PE C G O s (if own then .own (.ob (.list xs))else .fv (.list xs)) wl) ef s:=
 have lst:∀{x:List FV}{a:EV}{h₀:eu}{u:aB},cD C G O h₀ s.heap u a->a.ei=some x->fits x=some xs->aJ C.M A (call (.type "list") [u]) (PE C G O s (if own then .own (.ob (.list xs))else .fv (.list xs)) wl) ef s:=λR ha e=>zY e λhn e=>
  have hz:=dP hn
  listI W R ha λa vs m h1 r1=>e▸call_list_seq a (.inl rfl) h1 rfl rfl (λh' c' k ho=>qy W k ho r1) (by have:=r1.length;refine eW cg<|eW this<|eW dp ?_;lia)
 (EV.Aa (P:=λa=>cD C G O h₀ s.heap v a->_) e
   (λd e R=>oe e (λ_ e=>ob e λr h1 e=>dV e λOZ e=>(FV.VC (P:=λd=>Rep C G v d->_) h1 λR=>m7 R.inv λIa t u w hv hr=>rT OZ λ(Yh:jK r.1 r.2.1 r.2.2=true) _ ho2=>by
     subst hv
     have hz:(b7 r.1 r.2.1 r.2.2).toNat<=2^20:=dP ho2
     have h0:=zl r.1 r.2.1 r.2.2;exact call_list_range (n:=(b7 r.1 r.2.1 r.2.2).toNat) hh (W.sub _ _ hr) Yh (IT h0).symm (by lia) λh' tk acc c' k ho hi=>ag e▸qy (vs:=acc.toList) W k ho (C9 hi.1 hi.2)) R)
     λx h e=>(FV.Qj (P:=λd=>Rep C G v d->_) h
      (λR=>zY e λhn e=>have hz:=dP hn
        tupI W R λa vs m h1 r1=>e▸call_list_seq a (.inr rfl) h1 rfl rfl (λh' c' k ho=>qy W k ho r1) (by have:=r1.length;refine eW cg<|eW this<|eW dp ?_;lia))
      λR=>lst (a:=.fv (.list x)) (h₀:=h₀) R rfl e) R)
   λt e R=>ob e λx h e=>lst (a:=.bor t) (h₀:=h₀) R h e) R
theorem Xq{a:EV}{is:List Int}(hh:A.handled=none)(W:bz C G wl s.heap)(R:cD C G O h₀ s.heap v a)(e:a.ei=some xs)(e2:eZ xs=some is):
 aJ C.M A (call (.builtin "sum") [v]) (PE C G O s (.fv (.int is.sum)) wl) ef s:=listI W R e λa vs m h1 r1=>
 have hi:=fE r1 e2
 xE hi.allInts.items λys hys=>sum_intListG hh (show s.heap.IsList a (intItems ys)from hys▸⟨_,h1,rfl,m,rfl⟩) λh' tk t' k=>
  ⟨G,.grow _ _ k,W.grow k,by
    have hn:=hi.numsOf;rw[show vs=vs.toArray.toList from rfl,hys,nums_intItems]at hn;rw[preSum_eq,List.take_of_length_le (by simp),hn];exact .int _ _⟩
theorem Og(n:Int):(if n<0 then -n else n)=(n.natAbs:Int):=by
 induction n using Int.casesOn with
 |ofNat k=>exact if_neg (pj.mpr (bI k))
 |negSucc k=>exact if_pos (Int.negSucc_lt_zero k)
theorem Qn{c:Prop}[Decidable c]{a b:Int}{t t':Tok}(k:∀x o,s.heap.get? x=some o->h.get? x=some o)(W:bz C G wl s.heap):PE C G O s (.fv (.int (if c then a else b))) wl (if c then .int a t else .int b t') {s with heap:=h,toks:=tk}:=
 ⟨G,.grow _ _ k,W.grow k,by split<;>exact .int _ _⟩
theorem NX{b:BI}{own:Bool}{args:List EV}{x:EV}(hb:b≠.sorted)(hh:A.handled=none)(B:Base C)(W:bz C G wl s.heap)(T:uZ C G O h₀ s.heap i vs args)(e:jw b own args=some x):
 aJ C.M A (call b.val vs) (PE C G O s x wl) ef s:=by
 revert T
 induction b using BI.casesOn with
 |len=>exact qI e λa e T=>ob e λn h e=>dV e λhz e=>ag e▸Ea (P:=λvs=>aJ C.M A (call (.builtin "len") vs) _ ef s) T h λv R=>Xr W R h hz
 |range=>
  exact Qr e (λe=>qI e λa e=>om e λn h=>n6 h λT=>ints1 T λt=>call_range_1 (l8 _ _ rfl W λG' x1 x2=>.range x2)) λe=>Qr e
   (λe=>Ew e λa b e=>ob e λn h1 e=>om e λm h2=>n6 h1 (n6 h2 λT=>ints2 T λt t'=>call_range_2 (l8 _ _ rfl W λG' x1 x2=>.range x2)))
   λe=>TY e λa b c e=>ob e λn h1 e=>ob e λm h2 e=>ob e λl h3 e=>dV e λhc e=>ag e▸n6 h1 (n6 h2 (n6 h3 λT=>ints3 T λt t' X9=>call_range_3 hc.1 (l8 _ _ rfl W λG' x1 x2=>.range x2) (.inl (PyProof.noPylong_small hc.2))))
 |list=>exact qI e λa e=>om e λxs h T=>Ea (P:=λvs=>aJ C.M A (call (.type "list") vs) _ ef s) T h λv R=>TU (own:=own) hh W R h
 |set=>exact dV e λh e=>an h λh _=>ag e▸l0 (P:=λargs=>uZ C G O h₀ s.heap i vs args->_) h λT=>bA.Kf (P:=λvs=>aJ C.M A (call (.type "set") vs) _ ef s) (uR T rfl) (LJ (Dh s.toks rfl W λO' hO=>⟨_,rfl,hO,gq W,gM W,yl (hH rfl),eC,tG (hH rfl)⟩))
 |abs=>exact qI e λa e=>om e λn h=>n6 h λT=>ints1 T λt=>call_abs_int λu tk=>Og n▸eP tk W (.int _ _)
 |int=>exact qI e λa e=>om e λn h=>ob h λd h1 h2=>eh h1 (oe h2 (λ_ h2=>om h2 λb h2=>FV.Xt h2 λT=>fv1 T λv R=>Q3 R (call_int_bool (eP _ W (.int _ _)))) λm h2 e=>ag e▸FV.DZ h2 λT=>ints1 T λt=>call_int_int (mj W (.int _ _)))
 |max=>exact Ew e λa b e=>ob e λn h1 e=>om e λm h2=>n6 h1 (n6 h2 λT=>ints2 T λt t'=>max_two_ints hh λh' tk k=>Qn k W)
 |min=>exact Ew e λa b e=>ob e λn h1 e=>om e λm h2=>n6 h1 (n6 h2 λT=>ints2 T λt t'=>min_two_ints hh λh' tk k=>Qn k W)
 |sum=>exact qI e λa e T=>ob e λxs h1 e=>ob e λis h2 e=>dV e λ_ e=>ag e▸Ea (P:=λvs=>aJ C.M A (call (.builtin "sum") vs) _ ef s) T h1 λv R=>Xq hh W R h1 h2
 |sorted=>exact absurd rfl hb
theorem zC{f:aB}{M:Model}(hf:∀a,f≠.ref a):ph M f h:=by
 refine⟨.machine,.inr (.inl rfl),?_⟩;induction f using eT<;>first|exact Looks.now|exact absurd rfl (hf _)
theorem BI.EX(b:BI):∀a,b.val≠.ref a:=by induction b using BI.casesOn<;>intro a h<;>cases h
def Ma(C:Cx):Prop:=∀{A:fF}{G:Gh}{O:aO->Option Role}{s:aN}{wl:WL}{a:EV}{xs:List Int}{v:aB}{h₀:eu},A.handled=none->bz C G wl s.heap->cD C G O h₀ s.heap v a->Dj a=some xs->
 aJ C.M A (call (.builtin "sorted") [v]) (PE C G O s (.fv (.list ((fU xs).map .int))) wl) ef s
def lH(env:qZ)(h:eu)(x:bB)(v:aB):Prop:=
 (env.kindOf x=some .local/\∃m,h.Ns env.locals m/\m x=some v)\/(env.kindOf x≠some .local/\∃c,env.cells.lookup x=some c/\h.IsCell c (some v))
theorem Fo{m m':bB->Option aB}(x:h.Ns L m)(y:h.Ns L m'):m=m':=by
 (refine kP x ?_;clear x;intro o es ep h1 h2 _ h3)
 (refine kP y ?_;clear y;intro o' Yp Yq CB WX _ h3')
 rw[h1]at CB;cases CB;rw[h2]at WX;cases WX
 funext z
 exact eL (h3 z)<|eL (h3' z) rfl
theorem HU{c:aO}{v v':Option aB}(x:h.IsCell c v)(y:h.IsCell c v'):v=v':=by
 (refine bS x ?_;clear x;intro o h1 h2)
 (refine bS y ?_;clear y;intro o' CB WX)
 rw[h1]at CB;cases CB;rw[h2]at WX;cases WX;rfl
theorem lH.at_(n:lH env h x v)(q:c8 h h' env.locals)(q2:env.kindOf x≠some .local->∀c,env.cells.lookup x=some c->c8 h h' c):lH env h' x v:=by
 rcases n with⟨h1,m,h2,h3⟩|⟨h1,c,h2,o,h3,h4⟩
 . exact .inl ⟨h1,m,h2.at' q,h3⟩
 . exact .inr ⟨h1,c,h2,o,q2 h1 c h2 _ h3,h4⟩
theorem zy(F:cJ C G O sc ns env fr h)(hx:ns[i]?=some x)(hs:fr[i]?=some sl)(hw:sl≠.unset):∃v,lH env h x v/\cT C G O h i sl (some v):=by
 by_cases hk:env.kindOf x=some .local
 · (refine bS (F.loc) λm hm q=>?_)
   have S:=q i x sl hx hs hk;induction e:m x using aA with
   |none=>
    rw[e]at S;induction sl using Slot.casesOn with
    |unset=>exact absurd rfl hw
    |val d=>(refine bS S ?_;clear S;intro v e _);exact nn e
    |ro d=>(refine bS S ?_;clear S;intro v e _);exact nn e
    |own t=>(refine bS S ?_;clear S;intro v e _);exact nn e
    |bor t=>(refine bS S ?_;clear S;intro v e _);exact nn e
   |some v=>exact⟨v,.inl ⟨hk,m,hm,e⟩,e▸S⟩
 . (refine m9 (F.pY i x sl hx hs hk) λ_ c ov e1 e2 q1=>?_;refine xA q1 ?_;clear q1;intro S _)
   induction ov using aA with
   |none=>
    induction sl using Slot.casesOn with
    |unset=>exact absurd rfl hw
    |val d=>(refine bS S ?_;clear S;intro v e _);exact nn e
    |ro d=>(refine bS S ?_;clear S;intro v e _);exact nn e
    |own t=>(refine bS S ?_;clear S;intro v e _);exact nn e
    |bor t=>(refine bS S ?_;clear S;intro v e _);exact nn e
   |some v=>exact⟨v,.inr ⟨hk,c,e1,e2⟩,S⟩
theorem lH.step(n:lH env s.heap x v)(F:cJ C G O sc ns env fr s.heap)(hx:ns[i]?=some x)(hs:fr[i]?=some sl)(X:Step C G G' s s'):lH env s'.heap x v:=
 n.at_ (X.at_ (F.iN _ _ F.lN).2.1) λhk c qW=>by
  (refine fo (F.pY i x _ hx hs hk) λ_ c' _ e1 _ _ _ e5 _=>?_)
  rw[qW]at e1;cases e1;exact X.at_ e5
theorem cJ.mut{t':OT}(F:cJ C G O sc ns env fr h)(hx:ns[i]?=some x)(hs:fr[i]?=some (.own t))(hO:O a=some (.own i κ))(sb:∀b,b≠a->c8 h h' b)(al:∃o,h'.get? a=some o)
 (hn:lH env h x v)(T:dO C G O h' (λk=>some (.own i k)) v t'):cJ C G O sc ns env (fr.set i (.own t')) h':=by
 have hi:i<fr.length:=by
  induction q:decide (i<fr.length)using ax with
  |true=>exact of_decide_eq_true q
  |false=>rw[ba (bu (of_decide_eq_false q))]at hs;exact nn hs
 have nl:env.locals≠a:=λq=>by have:=F.lN;rw[q,hO]at this;cases this
 have other:∀{j:Nat}{sl:Slot}{ov:Option aB},j≠i->cT C G O h j sl ov->cT C G O h' j sl ov:=λ{j sl ov} hj S=>by
  refine S.move λb r hb hk=>⟨hb,sb b λq=>?_⟩;subst q;rw[hO]at hb;cases hb;rcases hk with hk|⟨k,hk⟩
  . exact Role.noConfusion hk
  . cases hk;exact hj rfl
 refine⟨F.fn,F.glob,F.bi,F.nodup,by refine eW lq ?_;exact F.len,λb r e=>?_,F.gl,F.cl,F.lN,?_,λj y sl hy eE hk=>?_,F.iU,F.code,λhm j y d hy eE=>?_⟩
 . (refine mF (F.iN b r e) λh1 h2 o h3=>?_)
   refine⟨h1,h2,?_⟩;by_cases q:b=a
   . subst q;exact al
   . exact⟨o,sb b q _ h3⟩
 . (refine bS (F.loc) λm hm q=>?_)
   refine⟨m,hm.at' (sb _ nl),λj y sl hy eE hk=>?_⟩;by_cases hj:j=i
   . subst hj
     rw[hx]at hy;cases hy;rw[ct hi]at eE;cases eE;rcases hn with⟨_,m',UB,e⟩|⟨h1,_⟩
     . exact eW (Fo hm UB)<|eW e<|⟨v,rfl,T⟩
     . exact absurd hk h1
   . rw[b9 (d6 hj)]at eE
     exact other hj (q j y sl hy eE hk)
 . by_cases hj:j=i
   . subst hj
     rw[hx]at hy;cases hy;rw[ct hi]at eE;cases eE
     (refine fo (F.pY j x _ hx hs hk) λsL c ov e1 q2=>?_;obtain⟨oc,e2,Ln⟩:=q2;intro e3 e4 e5 e6)
     have hc:c≠a:=λq=>by
      rw[q,hO]at e4;simp only[Slot.writable,if_true]at e4;cases e4
     rcases hn with⟨h1,_⟩|⟨_,c',h2,h3⟩
     . exact absurd h1 hk
     . rw[e1]at h2;cases h2
       have:=HU ⟨oc,e2,Ln⟩ h3;subst this;exact⟨sL,c,some v,e1,⟨oc,sb c hc _ e2,Ln⟩,⟨v,rfl,T⟩,e4,e5,e6⟩
   . rw[b9 (d6 hj)]at eE
     (refine fo (F.pY j y sl hy eE hk) λsL c ov e1 q3=>?_;obtain⟨oc,e2,Ln⟩:=q3;intro e3 e4 e5 e6)
     have hc:c≠a:=λq=>by
      rw[q,hO]at e4;split at e4<;>cases e4
     exact⟨sL,c,ov,e1,⟨oc,sb c hc _ e2,Ln⟩,other hj e3,e4,e5,e6⟩
 . by_cases hj:j=i
   . subst hj
     rw[ct hi]at eE;cases eE
   . rw[b9 (d6 hj)]at eE
     exact F.ro hm j y d hy eE
structure Upd(C:Cx)(G:Gh)(O:aO->Option Role)(h:eu)(a:aO)(G2:Gh)(h':eu):Prop where
 ext:Ext G G2
 iN:∀b r,O b=some r->G2.F b=none/\eQ C G2 b
 same:∀b r,O b=some r->b≠a->c8 h h' b
theorem dJ.upd{u6:Role}{o:OB}(U:Upd C G O h a G' h')(hr:O a≠some u6)(y:dJ C G O h (some u6) v o):dJ C G' O h' (some u6) v o:=by
 (refine m8 y ?_;clear y;intro b hv hO lC hF hc)
 have k:=U.same b _ hO λq=>hr (q▸hO)
 (refine xA (U.iN b _ hO) λd1 d2=>?_)
 induction o using OB.casesOn with
 |list xs=>(refine gf hc ?_;clear hc;intro vs n e q);exact⟨b,hv,hO,d2,d1,vs,n,k _ e,q.mono U.ext⟩
 |dict es=>
  (refine m9 hc ?_;clear hc;intro hs f vs e q1 q4;refine jP q4 ?_;clear q4;intro q2 q3 q4)
  (refine xE (fY e) λo ho=>?_)
  exact⟨b,hv,hO,d2,d1,hs,f,vs,lz k e,q1.mono U.ext,q2,lh k ho q3,q4⟩
 |set xs=>exact⟨b,hv,hO,d2,d1,oI k hc.1,hc.2.1,hc.2.2.at_ k⟩
theorem gv.upd(U:Upd C G O h a G' h')(hr:∀l,j<=l->O a≠some (.own i l))(y:gv C G O h (λk=>some (.own i k)) j vs iH):gv C G' O h' (λk=>some (.own i k)) j vs iH:=
 y.ind (P:=λj vs iH=>(∀l,j<=l->O a≠some (.own i l))->gv C G' O h' (λk=>some (.own i k)) j vs iH) (λ_ _=>trivial) (λj _ _ _ _ x _ ih hr=>⟨x.upd U (hr j (aT _)),ih λl hl=>hr l (fN hl)⟩) hr
theorem uF(h:O a=some (.own i j))(e:O a=some (.own i k)):j=k:=(Role.own.inj (ag (h.symm.trans e))).2
theorem gv.Jc{l:Nat}(U:Upd C G O h a G' h')(hO:O a=some (.own i (j+l)))(hl:l<iH.length)(R:dJ C G' O h' (some (.own i (j+l))) (.ref a) (.list ys))(hv:vs[l]?=some (.ref a))
 (y:gv C G O h (λk=>some (.own i k)) j vs iH):gv C G' O h' (λk=>some (.own i k)) j vs (iH.set l ys):=
 y.ind (P:=λj vs iH=>∀l,O a=some (.own i (j+l))->l<iH.length->dJ C G' O h' (some (.own i (j+l))) (.ref a) (.list ys)->vs[l]?=some (.ref a)->gv C G' O h' (λk=>some (.own i k)) j vs (iH.set l ys)) (λ_ _ _ hl=>absurd hl (dz _))
  (λj w vs xs r y1 y2 ih l=>l.casesOn (motive:=λl=>O a=some (.own i (j+l))->l<(xs::r).length->dJ C G' O h' (some (.own i (j+l))) (.ref a) (.list ys)->(w::vs)[l]?=some (.ref a)->gv C G' O h' (λk=>some (.own i k)) j (w::vs) ((xs::r).set l ys))
    (λhO _ R hv=>⟨(ag hv:w=_)▸R,y2.upd U λl hl e=>bx hl (uF hO e)⟩)
    λl hO hl R hv=>⟨y1.upd U λe=>e_ (eN (uu l)) (uF hO e),ih l ((dc j 1 l).symm▸hO) (EL hl) ((dc j 1 l).symm▸R) hv⟩) l hO hl R hv
theorem f5.upd{u6:Role}{o:OF}(U:Upd C G O h a G' h')(hr:O a≠some u6)(y:f5 C G O h (some u6) v o):f5 C G' O h' (some u6) v o:=by
 induction o using OF.casesOn with
 |fv d=>exact Rep.mono U.ext y
 |ob o=>exact dJ.upd U hr y
theorem f_.upd(U:Upd C G O h a G' h'){es:List b0}(hr:∀k∈fs.map (·.1),O a≠some (.own i (k+2)))(y:f_ C G O h (λk=>some (.own i k)) es fs):f_ C G' O h' (λk=>some (.own i k)) es fs:=
 y.ind (P:=λes fs=>(∀k∈fs.map (λp:Nat×OF=>p.1),O a≠some (.own i (k+2)))->f_ C G' O h' (λk=>some (.own i k)) es fs) (λ_=>trivial) (λ_ _ p _ a b c _ ih hr=>⟨a,b,c.upd U (hr p.1 a7),ih λj hj=>hr j (aW p.1 hj)⟩) hr
theorem f_.Jc{l:Nat}{o:OB}{es:List b0}(U:Upd C G O h a G' h')(hO:O a=some (.own i (l+2)))(R:dJ C G' O h' (some (.own i (l+2))) (.ref a) o')(nd:(fs.map (·.1)).Nodup)(hl:fs.lookup l=some (.ob o))
 (hg:getL (attrName l) es=some (some (.ref a)))(h15:l<15)(y:f_ C G O h (λk=>some (.own i k)) es fs):f_ C G' O h' (λk=>some (.own i k)) es (putField fs l (.ob o')):=
 y.ind (P:=λes fs=>(fs.map λp:Nat×OF=>p.1).Nodup->fs.lookup l=some (.ob o)->getL (attrName l) es=some (some (.ref a))->f_ C G' O h' (λk=>some (.own i k)) es (putField fs l (.ob o'))) (λ_ h=>nn h)
  (λe es p fs q hk y1 y2 ih nd hl hg=>by
    induction p using oy;rename_i k x;refine xA (ck.mp nd) λn1 n2=>xE q λt ht=>?_
    show f_ C G' O h' _ (e::es) (if k=l then(l,OF.ob o')::fs else(k,x)::putField fs l (.ob o'));by_cases e0:k=l
    . refine eW (if_pos e0) ?_
      subst e0
      have hv:e.val=.ref a:=ag (ag ((wo (i5:=es) (e:=e) (name:=attrName k) (key_is ht hk hk (beq_self_eq_true k))).symm.trans hg));exact⟨⟨t,ht⟩,hk,(show dJ C G' O h' _ e.val o' from hv▸R),y2.upd U λj hj e=>n1 (qT (uF hO e)▸hj)⟩
    . refine eW (if_neg e0) ?_
      exact V3 hl (λe _=>absurd e.symm e0) λhb hlk=>bS (sO h15 y2 hlk) λw q1 _=>⟨⟨t,ht⟩,hk,y1.upd U λe=>e0 (qT (uF hO e)).symm,
       ih n2 hlk (q1.trans ((sM (e:=e) (key_is ht hk h15 (beq_eq_false_iff_ne.mpr e0)) q1).symm.trans hg))⟩) nd hl hg
section
variable {G0:Gh}
def vm:OB->OB->Prop
 |.list _,.list _=>True
 |.dict _,.dict _=>True
 |.set _,.set _=>True
 |_,_=>False
structure lG(C:Cx)(G:Gh)(O:aO->Option Role)(env:qZ)(ns:List bB)(fr:List Slot)(h:eu)(i κ:Nat)(x:bB)(a:aO)(ob:OB)(put:OB->List Slot)(t:OT):Prop where
 hx:ns[i]?=some x
 hs:fr[i]?=some (.own t)
 hO:O a=some (.own i κ)
 rep:dJ C G O h (some (.own i κ)) (.ref a) ob
 put:∃v,lH env h x v/\∀o',vm ob o'->∃t',put o'=fr.set i (.own t')/\∀G2 h',Upd C G O h a G2 h'->dJ C G2 O h' (some (.own i κ)) (.ref a) o'->dO C G2 O h' (λk=>some (.own i k)) v t'
def wZ(C:Cx)(bp:my)(k:Nat)(sc:Sc)(ns:List bB)(o:af)(p:Path):Prop:=
 ∀(G:Gh)(O:aO->Option Role)(env:qZ)(A:fF)(s:aN)(fr:List Slot)(wl:WL)(ob:OB)(put:OB->List Slot)(bQ:WL),kD bp p fr wl=some ((ob,put),bQ)->Here C G O sc ns env fr wl k A s->
  aJ C.M A (eval o env) (λv aM=>∃G1 a κ t i x,v=.ref a/\Step C G G1 s aM/\bz C G1 bQ aM.heap/\lG C G1 O env ns fr aM.heap i κ x a ob put t) ef s
theorem mK(F:cJ C G O sc ns env fr s.heap)(hx:∃i:Nat,ns[i]?=some x)(hc:(x==("__classdict__":bB))=false)(n:lH env s.heap x v){M:Model}(h:Q v s):aJ M A (loadName env x) Q E s:=by
 rcases n with⟨h1,m,h2,h3⟩|⟨h1,c,h2,h3⟩
 . exact P2 F.fn h1 h2 h3 h
 . (refine xE hx ?_;clear hx;intro i hi)
   have hl:i<fr.length:=by
    refine eW F.len ?_;induction q:decide (i<ns.length)using ax with
    |true=>exact of_decide_eq_true q
    |false=>rw[ba (bu (of_decide_eq_false q))]at hi;exact nn hi
   rcases(F.pY i x _ hi (aV hl) h1).1 with hk|hk
   . exact Q_ F.fn hk h2 h3 h
   . exact Q' F.fn hk h2 h3 h hc
@[elab_as_elim] theorem So{α:Type u}{β:Type v}{γ:Type w}{δ:Type z}{o:Option α}{f:α->(β×γ)×δ}{b:β}{c:γ}{d:δ}{P:β->γ->δ->Prop}(h:o.map f=some ((b,c),d))(k:∀a,o=some a->P (f a).1.1 (f a).1.2 (f a).2):P b c d:=om (P:=λx=>P x.1.1 x.1.2 x.2) h k
theorem Di(F:cJ C G O sc ns env fr h)(hx:ns[i]?=some x)(q:(fr[i]?).bind Slot.own?=some t)(k:∀v,fr[i]?=some (.own t)->lH env h x v->dO C G O h (λk=>some (.own i k)) v t->P):P:=
 ob q λsl h1 h2=>(Slot.vr (P:=λsl=>fr[i]?=some sl->P) h2 λhs=>bS (zy F hx hs nofun) λv n S=>bS S λw e T=>k v hs n (ag e▸T)) h1
theorem Zo{pos:dN}(hx:ns[i]?=some x)(hd:(x==("__debug__":bB))=false)(hc:(x==("__classdict__":bB))=false):wZ C bp k sc ns (.Name x pos) (.v i):=λG O env A s fr wl o put bQ q H=>
 ob q λt q q2=>Di H.F hx q λv hs n T=>So q2 λo h1=>(OT.zt (P:=λt=>fr[i]?=some (.own t)->dO C G O s.heap (λk=>some (.own i k)) v t->_) h1 λhs T=>dU T λa hv hO _=>
  qL (mK H.F ⟨i,hx⟩ hc n ⟨G,a,0,_,i,x,hv,.refl C G s,H.W,hx,hs,hO,hv▸T,v,n,λo' _=>⟨.ob o',rfl,λG2 h' U R=>hv▸R⟩⟩) hd) hs T
theorem Upd.K5{b:aO}{r:Role}(U:Upd C G O h a G' h')(e:O b=some r):eQ C G' b:=(U.iN b r e).2
theorem A_{o:OF}:∀{fs:List (Nat×OF)}{z:OF},fs.lookup j=some z->(putField fs j o).map (·.1)=fs.map (·.1)
 |[],_,h=>nn h
 |(k,w)::fs,z,h=>by
  unfold putField;by_cases e:k=j
  . exact eW (if_pos e)<|eW bT<|eW bT<|eW e rfl
  . rw[if_neg e,bT,bT,A_ (z:=z) (by rw[bK,beq_eq_false_iff_ne.mpr (d6 e)]at h;exact h)]
theorem Gg(h:gA[j]?=some y):y=attrName j:=by unfold attrName;refine eW mf<|eW h ?_;rfl
theorem VK{pos:dN}(hx:ns[i]?=some x)(hd:(x==("__debug__":bB))=false)(hc:(x==("__classdict__":bB))=false)(hy:gA[j]?=some y)(hj:j<15):
 wZ C bp k sc ns (.Attribute (.Name x p) y pos) (.fld i j):=λG O env A s fr wl o put bQ q H=>
 ob q λt q q2=>Di H.F hx q λv hs n T=>ob q2 λcf h1 q3=>So q3 λo h2=>(OT.rL (P:=λt=>fr[i]?=some (.own t)->dO C G O s.heap (λk=>some (.own i k)) v t->_) h1 λhs T=>
  ob h2 λz hl h3=>(OF.zt (P:=λz=>cf.2.lookup j=some z->_) h3 λhl=>have HK:=T.1;m7 T.2 λxa d i5 m hv R=>iS R λhO lC hF e uM R=>iS R λO5 QQ BL ed q nd=>
   bS (sO hj q hl) λw g1(R:dJ C G O s.heap (some (.own i (j+2))) w o)=>dU R λa hw QN _=>by
    subst hw hv;refine Lm rfl (qL (mK H.F ⟨i,hx⟩ hc n ?_) hd);refine eW (Gg hy) ?_;refine jP (H.base.wK _ HK) λc1 c2 c3=>bS (H.base.z5 _ j HK hj) λattr ca cn=>get_value (QA H.base H.W) ⟨e,rfl,rfl,ed⟩ c1 (findObj_own (od:=dictOf i5 m) c3 ca cn g1) rfl ?_
    have nx:xa≠a:=λq=>absurd (Role.own.inj (ag ((hO.symm.trans (congrArg O q)).trans QN))).2 (by unfold nZ;lia)
    have nd':d≠a:=λq=>absurd (Role.own.inj (ag ((uM.symm.trans (congrArg O q)).trans QN))).2 (by omega);exact⟨G,a,j+2,_,i,x,rfl,.tok C G s _,H.W,hx,hs,QN,R,_,n,λo' _=>⟨.inst cf.1 (putField cf.2 j (.ob o')),rfl,λG2 h' U R'=>
     ⟨HK,xa,d,i5,m,rfl,hO,U.K5 hO,(U.iN _ _ hO).1,U.same _ _ hO nx _ e,uM,U.K5 uM,(U.iN _ _ uM).1,BL,U.same _ _ uM nd' _ ed,f_.Jc U QN R' nd hl g1 hj q,(A_ hl).symm▸nd⟩⟩⟩) hl) hs T
theorem Zq{pos:dN}(hx:ns[i]?=some x)(hd:(x==("__debug__":bB))=false)(hc:(x==("__classdict__":bB))=false)(he:dT C bp k sc ns e ie)(hn:gp e=true):
 wZ C bp k sc ns (.Subscript (.Name x p) e pos) (.at i ie):=λG O env A s fr wl o put bQ q H=>
 ob q λt q q2=>Di H.F hx q λv hs n T=>ob q2 λiH h1 q2=>f7 q2 λy w1 q1 q2=>ob q2 λj h2 q2=>dV q2 λhb q2=>So q2 λxs hl=>(OT.Kp (P:=λt=>fr[i]?=some (.own t)->dO C G O s.heap (λk=>some (.own i k)) v t->_) h1 λhs T=>
  fR T λla vs m hv hO lC hF eo q=>by
   subst hv;refine EK (qL (mK H.F ⟨i,hx⟩ hc n ?_) hd);refine he.run H q1 λu aM G1 x1 H1 R1=>?_;refine iB R1 h2 λt=>?_;refine bS (q.get hl) λw g1(R:dJ C G O s.heap (some (.own i (1+j.toNat))) w (.list xs))=>dU R λa hw QN _=>?_;subst hw
   have eo1:=x1.keep _ _ lC eo
   have R:=dJ.step x1 R
   have q':=q.step x1
   have n1:=n.step H.F hx hs x1;refine qg (T:="list") ⟨_,eo1,rfl⟩ kG.lookup (item_list (i:=j) (vs:=vs.toList) (by simpa using eo1) (decide_eq_true (by omega)) (by unfold Fn;exact eW (if_pos hb.1)<|g1) ?_) (jl hn _ _);refine⟨G1,a,1+j.toNat,_,i,x,rfl,x1,H1.W,hx,hs,QN,R,_,n1,λo' pX=>?_⟩
   have nl:la≠a:=λq=>absurd (Role.own.inj (ag ((hO.symm.trans (congrArg O q)).trans QN))).2 (by lia);induction o' using OB.casesOn with
   |list ys=>exact⟨.gr (iH.set j.toNat ys),rfl,λG2 h' U R'=>⟨la,vs,m,rfl,hO,U.K5 hO,(U.iN _ _ hO).1,U.same _ _ hO nl _ eo1,gv.Jc U QN (fB hl) R' g1 q'⟩⟩
   |dict _=>exact pX.elim
   |set _=>exact pX.elim) hs T
end
section
variable {G0:Gh}
theorem bW.Ki(x:bW C G G' O O' s s')(n:s.heap.get? a=none\/qi O a)(k:∀b,b≠a->c8 s'.heap h' b)(al:∃o',h'.get? a=some o'):bW C G G' O O' s {s' with heap:=h',toks:=tk}where
 ext:=x.ext
 keep:=λb o f hn e=>by
  have:b≠a:=λq=>by
   subst q;rcases n with n|n
   . rw[n]at e;exact nn e
   . exact hn n
  exact k b this _ (x.keep b o f hn e)
 alive:=λb o e=>by
  (refine xE (x.alive b o e) λo' e'=>?_)
  by_cases q:b=a
  . subst q;exact al
  . exact⟨o',k b q _ e'⟩
 lx:=x.lx
 kC:=x.kC
 own:=x.own
 Ob:=x.Ob
 Nm:=x.Nm
 gens:=x.gens
 os:=x.os
theorem yq{ob:OB}{put:OB->List Slot}(X:Step C G0 G1 s0 aM)(F1:cJ C G1 O sc ns env fr aM.heap)(P:lG C G1 O env ns fr aM.heap i κ x a ob put t)
 (x2:Step C G1 G2 aM bZ)(W2:bz C G2 wl bZ.heap)(sk:vm ob o')(k:∀b,b≠a->c8 bZ.heap h' b)(al:∃o,h'.get? a=some o)(R:dJ C G2 O h' (some (.own i κ)) (.ref a) o'):
 bW C G0 G2 O O s0 {bZ with heap:=h',toks:=tk}/\bz C G2 wl h'/\cJ C G2 O sc ns env (put o') h':=by
 (refine bS (P.put) λv n f=>?_)
 (refine bS (f o' sk) λt' e g=>?_)
 have F2:=F1.step x2
 (refine jP (F2.iN _ _ P.hO) λd1 d2 _=>?_)
 refine⟨(X.trans x2).o.Ki (.inr ⟨_,P.hO,by intro e;exact Role.noConfusion e⟩) k al,W2.loose d1 d2 k,?_⟩;refine eW e ?_;refine F2.mut P.hx P.hs P.hO k al (n.step F1 P.hx P.hs x2) (g G2 h' ⟨x2.ext,λb r e=>⟨(F2.iN b r e).1,(F2.iN b r e).2.1⟩,λb r e nb o ho=>?_⟩ R);exact k b nb _ (x2.keep b o (F1.iN b r e).2.1 ho)
theorem rt{ob:OB}{put:OB->List Slot}(X:Step C G0 G1 s0 aM)(F1:cJ C G1 O sc ns env fr aM.heap)(P:lG C G1 O env ns fr aM.heap i κ x a ob put t)
 (x2:Step C G1 G2 aM bZ)(W2:bz C G2 wl bZ.heap)(sk:vm ob o')(k:∀b,b≠a->c8 bZ.heap h' b)(al:∃o,h'.get? a=some o)(R:dJ C G2 O h' (some (.own i κ)) (.ref a) o'):
 PU C G0 O sc ns env s0 (put o') wl {bZ with heap:=h',toks:=tk}:=
 let⟨h1,h2,h3⟩:=yq (tk:=tk) X F1 P x2 W2 sk k al R
 ⟨G2,O,h1,h2,h3⟩
theorem lu(R:dJ C G O h r (.ref a) (.list xs)):O a=r/\eQ C G a/\G.F a=none/\∃vs n,h.get? a=some {cls:=.type "list",data:=.seq vs n}/\bA C G vs.toList xs:=bS R λb e h=>xd e▸h
theorem J9{es:List (Int×FV)}(R:dJ C G O h r (.ref a) (.dict es)):O a=r/\eQ C G a/\G.F a=none/\(a==sysModules)=false/\∃f vs,h.MapOf (ik C) a f/\bA C G vs (es.map (·.2))/\(∀k,f k=((es.map (·.1)).zip vs).lookup k)/\h.DictLe a es.length/\(es.map (·.1)).Nodup:=bS R λb e h=>xd e▸h
theorem rk{f:Array aB->Array aB}{vs:Array aB}{n:Nat}(ho:h.get? a=some {cls:=.type "list",data:=.seq vs n}):
 ∃n',(h.update a (o9 f)).get? a=some {cls:=.type "list",data:=.seq (f vs) n'}:=
 ⟨_,get?_update_seq (c:="list") ho f⟩
theorem vG{o:af}{id:String}{T:String}{pos:dN}{ob:OB}{put:OB->List Slot}{w1 w2:WL}{x:EV}{Q:Flow->aN->Prop}(hb:∀env,attributeBase o name env (eval o env)=eval o env)
 (pa:PlainAttrs T)(slot:Ip T name id)(ty:typeOf (.builtin id)=pure (.type "method_descriptor"))(hl:(p.endLine==pos.line)=true)
 (hp:wZ C bp k sc ns o q)(he:dT C bp k sc ns e ie)(q1:kD bp q fr wl=some ((ob,put),w1))(q2:ev bp ie fr w1=some (x,w2))(H:Here C G O sc ns env fr wl k A s)
 (h:∀v(aM:aN)(G1:Gh) a κ t i x',v=.ref a->Step C G G1 s aM->bz C G1 w1 aM.heap->cJ C G1 O sc ns env fr aM.heap->lG C G1 O env ns fr aM.heap i κ x' a ob put t->
   aM.TypeIs v T/\(∃o',aM.heap.get? a=some o'/\o'.dict=none)/\∀u(bZ:aN)(G2:Gh),Step C G1 G2 aM bZ->bz C G2 w2 bZ.heap->cD C G2 O aM.heap bZ.heap u x->aJ C.M A (call (.builtin id) [v,u]) (λ_=>Q .next) ef bZ):
 aJ C.M A (exec (.Expr (.Call (.Attribute o name p) [e] [] pos) pos') env) Q ef s:=by
 refine aaT (IF (hb env) hl (by refine eW (mG he.star) ?_;rfl) (cX (hp G O env A s fr wl ob put w1 q1 H) λv aM h'=>CJ h' λG1 a κ t i x' e1 x1 W1 P=>?_)) (by unfold interactive;exact eW H.F.fn rfl)
 have F1:=H.F.step x1
 (refine jP (h v aM G1 a κ t i x' e1 x1 W1 F1 P) λhT q2=>?_;obtain⟨o',pX,ue⟩:=q2;intro hc)
 refine⟨T,id,pa,slot,ty,hT,λb eb=>⟨o',by rw[e1]at eb;cases eb;exact pX,ue⟩,oq rfl (qf (rX (dR (he.v G1 O env A aM fr w1 x w2 q2 (H.step x1 W1)) (λu bZ q3=>dU q3 λG2 x2 W2 R2=>mC ?_) λ_ _ q=>q.elim)))⟩;exact hc u bZ G2 x2 W2 R2
theorem kY{n:Nat}(h:cc n=true):n<=sizeLine:=by exact eW dp<|ak (dP h) (by decide)
theorem Bl{put:OB->List Slot}{vs:Array aB}{n:Nat}{f:Array aB->Array aB}(X:Step C G0 G1 s0 aM)(F1:cJ C G1 O sc ns env fr aM.heap)(P:lG C G1 O env ns fr aM.heap i κ x a (.list xs) put t)
 (x2:Step C G1 G2 aM bZ)(W2:bz C G2 wl bZ.heap)(h4:aM.heap.get? a=some {cls:=.type "list",data:=.seq vs n})(hf:eQ C G1 a)(hF:G1.F a=none)(R:bA C G2 (f vs).toList ys):
 PU C G0 O sc ns env s0 (put (.list ys)) wl {bZ with heap:=bZ.heap.update a (o9 f),toks:=bZ.toks}:=
 xE (rk (f:=f) (x2.keep _ _ hf h4)) λn' h6=>rt (tk:=bZ.toks) (h':=bZ.heap.update a (o9 f)) (wl:=wl) (o':=.list ys) X F1 P x2 W2 trivial (eH (cA ..)) ⟨_,h6⟩ ⟨a,rfl,P.hO,x2.free hf h4,x2.An hF h4,_,n',h6,R⟩
theorem Jz{o:af}{pos:dN}(hb:∀env,attributeBase o "append" env (eval o env)=eval o env)(hl:(p.endLine==pos.line)=true)
 (hp:wZ C bp k sc ns o q)(he:dT C bp k sc ns e ie):jy C bp N k sc ns (.Expr (.Call (.Attribute o "append" p) [e] [] pos) pos') (.append q ie):=λG O env A s fr wl fl cH bQ q0 H=>
 ob q0 λy q1 q=>f7 q λx w2 q2 q=>ob q λd h1 q=>ob q λxs h2 q=>dV q λhz q=>(OB.xD (P:=λo'=>kD bp _ fr wl=some ((o',y.1.2),y.2)->_) h2 λq1=>(eh (P:=λx=>ev bp ie fr y.2=some (x,w2)->_) h1 λq2=>xo q
  (vG hb ja iD PySem.F.type_list_append hl hp he q1 q2 H λv aM G1 a κ t i x' hv x1 W1 F1 P=>by
    subst hv;exact fA (lu P.rep) λh1 h2 h3 h=>gf h λvs n h4 h5=>⟨⟨_,h4,rfl⟩,⟨_,h4,rfl⟩,λu bZ G2 x2 W2 R2=>
     have WW:=x2.keep _ _ h2 h4
     have hlen:vs.size=xs.length:=bC.symm.trans h5.length
     xc iD ⟨_,WW,rfl⟩ lU (lF _ _) (je a vs n u (by exact eW hlen<|kY hz)) ⟨WW,
      (Bl (f:=λz=>z.push u) (ys:=xs++[d]) x1 F1 P x2 W2 h4 h2 h3 (by exact eW mE<|(h5.mono x2.ext).append (.one R2))).next⟩⟩)) q2) q1
theorem Jx{o:af}{pos:dN}(hb:∀env,attributeBase o "extend" env (eval o env)=eval o env)(hl:(p.endLine==pos.line)=true)
 (hp:wZ C bp k sc ns o q)(he:dT C bp k sc ns e ie):jy C bp N k sc ns (.Expr (.Call (.Attribute o "extend" p) [e] [] pos) pos') (.extend q ie):=λG O env A s fr wl fl cH bQ q0 H=>
 ob q0 λy q1 q=>f7 q λx w2 q2 q=>ob q λds h1 q=>ob q λxs h2 q=>dV q λhz q=>(OB.xD (P:=λo'=>kD bp _ fr wl=some ((o',y.1.2),y.2)->_) h2 λq1=>xo q
  (vG hb ja x8 PySem.F.type_list_extend hl hp he q1 q2 H λv aM G1 a κ t i x' hv x1 W1 F1 P=>by
    subst hv;exact fA (lu P.rep) λCB h2 h3 h=>gf h λvs n h4 h5=>⟨⟨_,h4,rfl⟩,⟨_,h4,rfl⟩,λu bZ G2 x2 W2 R2=>
     have WW:=x2.keep _ _ h2 h4
     have hlen:vs.size=xs.length:=bC.symm.trans h5.length
     listI (P:=λu=>aJ C.M A (call _ [_,u]) _ ef bZ) W2 R2 (ob h1 λd g1 g2=>eh (P:=λx=>EV.ei x=some ds) g1 g2) λb us m hb0 hb2=>
      have hle:vs.size+us.toArray.size<=sizeLine:=by exact eW hlen<|eW cg<|eW hb2.length<|kY hz
      xc x8 ⟨_,WW,rfl⟩ PySem.F.entry_list_extend (PySem.F.args_list_extend_2 _ _) (AutoSeq1.list_extend_list_list_0 a vs n b us.toArray m (extend_door hle) (ak (aP _ _) hle)) ⟨WW,hb0,
       (Bl (f:=λz=>z++us.toArray) (ys:=xs++ds) x1 F1 P x2 W2 h4 h2 h3 (by exact eW qV<|(h5.mono x2.ext).append hb2)).next⟩⟩)) q1
end
section
variable {G0:Gh}
theorem set_list{vs:Array aB}{n:Nat}{j:Int}{t:Tok}{Q:Unit->aN->Prop}(ho:s.heap.get? a=some {cls:=.type "list",data:=.seq vs n})(h0:0<=j)(hf:j<2^62)(hn:j.toNat<vs.size)
 (hQ:∀h' n',cQ a s.heap h'->h'.get? a=some {cls:=.type "list",data:=.seq (vs.setIfInBounds j.toNat v) n'}->Q () {s with heap:=h'}):aJ C.M A (setItem (.ref a) (.int j t) v) Q E s:=by
 have hl:s.heap.IsList a vs:=⟨_,ho,rfl,n,rfl⟩;unfold setItem
 try with_reducible refine bL ?_
 first|refine ai (ar ?_)|skip
 refine ai (UJ hl.typeIs (by decide) ?_);refine ai (pZ (name:=aa "__setitem__") hl.typeIs UL
  (gJ UL hl.typeIs entry_list_setitem ?_ (args_list_setitem _ _ _)))
 show aJ _ _ (Yy (.int j t)>>=_) _ _ s;refine ai (wpAny_listSubscript_int (fitsIndex_of h0 (by lia)) ?_);clear hf
 (refine xE (gm h0) λi q1=>?_;subst q1)
 have hj:i<vs.size:=by simpa using hn
 have Wq:vs[i]?=some vs[i]:=mA hj
 show aJ _ _ ((seqItemAt a i>>=λr=>pure (r.map (i,·)))>>=_) _ _ s;refine ai (ai (wpAny_seqItemAt ho rfl (ar ?_)));refine eW Wq ?_
 show aJ _ _ (setSeqItemAt a i v>>=_) _ _ s
 (refine xE (rk (f:=λz=>z.setIfInBounds i v) ho) λn' h6=>?_)
 have fin:=hQ _ n' (cA ..) h6;refine ai (wpAny_setSeqItemAt ho rfl ?_)
 first
  |exact ai (ar (ar ⟨.none,rfl,ar fin⟩))
  |exact ar ⟨.none,rfl,ar fin⟩
theorem map_set{f:Int->Option aB}{n:Nat}{j:Int}{key:aB}{Q:Unit->aN->Prop}(wj:(ik C).is j key=true)(hm:s.heap.MapOf (ik C) a f)(hz:s.heap.DictLe a n)(hn:n<=sizeLine)
 (hQ:∀h',cQ a s.heap h'->h'.MapOf (ik C) a (λx=>if x=j then some v else f x)->h'.DictLe a (if(f j).isSome then n else n+1)->Q () {s with heap:=h',toks:=s.toks+1}):
 aJ C.M A (dictSet a key v) Q E s:=by
 (refine kP hm ?_;clear hm;intro o es ep ho hc hd q2;refine xA q2 ?_;clear q2;intro hk hf)
 have Z6:es.size<=n:=hz _ _ _ ho hd
 have hfj:(f j).isSome=(es.findIdx? λe=>(ik C).is j e.key).isSome:=by
  refine eL (hf j)<|eW (findBy_of_findIdx? ..) ?_;induction hi:es.findIdx? λe=>(ik C).is j e.key using aA with
  |none=>rfl
  |some i=>
   have:=(Array.findIdx?_eq_some_iff_getElem.mp hi).1;simp[this]
 unfold dictSet
 try with_reducible refine bL ?_
 refine ai ((ik C).pyHash wj ?_);unfold dictSetHashed
 try with_reducible refine bL ?_
 refine ai (wpAny_dictFind_of (s:={s with toks:=s.toks+1}) wj ho hd hk ?_);induction hi:es.findIdx? λe=>(ik C).is j e.key using aA with
 |some i=>
  have g:=en (Obj.mapDict λes=>es.modify i λe=>{e with val:=v}) ho (II (xf hd _));refine ai (xb (ai (wpAny_updateDict (s:={s with toks:=s.toks+1}) ho hd (wpAny_point (hQ _ (cA ..) ⟨_,_,ep,g,
   hc.mapDict _,xf hd _,hk.modify _ _,λx=>?_⟩ ?_)))))
  . exact eW (findBy_modify (ik C).is (ik C).inj es j x v i hi)<|eW (hf ..) rfl
  . refine eW hfj<|eW hi ?_
    intro o' Yp Yq pX ue;replace pX:=g▸pX;cases pX;replace ue:=(xf hd _)▸ue;cases ue;exact eW Array.size_modify<|Z6
 |none=>
  have g:=en (Obj.mapDictKeys λes=>es.push ⟨(ik C).hash j,key,v⟩) ho (II (qM hd _));refine ai (xb (wpAny_updateDictKeys (hz:=ak Z6 hn) (s:={s with toks:=s.toks+1}) ho hd (hQ _ (cA ..) ⟨_,_,ep+1,g,
   hc.mapDictKeys _,qM hd _,hk.push wj _,λx=>?_⟩ ?_)))
  . exact eW (findBy_push (ik C).is es j x _ _ v (KeyKind.is_eq_decide wj) hi)<|eW (hf ..) rfl
  . refine eW hfj<|eW hi ?_
    intro o' Yp Yq pX ue;replace pX:=g▸pX;cases pX;replace ue:=(qM hd _)▸ue;cases ue;refine eW (Array.size_push ..) ?_;simp;omega
theorem Nq{f:Int->Option aB}{n:Nat}{j:Int}{t:Tok}{Q:Unit->aN->Prop}(hm:s.heap.MapOf (ik C) a f)(hz:s.heap.DictLe a n)(hn:n<=sizeLine)
 (hQ:∀h',cQ a s.heap h'->h'.MapOf (ik C) a (λx=>if x=j then some v else f x)->h'.DictLe a (if(f j).isSome then n else n+1)->Q () {s with heap:=h',toks:=s.toks+1}):aJ C.M A (setItem (.ref a) (.int j t) v) Q E s:=by
 have wj:(ik C).is j (.int j t)=true:=tN j t
 have hT:=hm.typeIs
 (refine kP hm ?_;clear hm;intro o es ep ho hc hd q3;refine xA q3 ?_;clear q3;intro hk hf)
 have Z6:es.size<=n:=hz _ _ _ ho hd;unfold setItem
 try with_reducible refine bL ?_
 refine ai (UJ hT (by decide) ?_);refine ai (pZ (name:=aa "__setitem__") hT UM
  (gJ UM hT entry_dict_setitem ?_ (args_dict_setitem _ _ _)))
 show aJ _ _ (Yz "__setitem__" ⟨[.ref a,.int j t,v],[]⟩>>=_) _ _ s;refine ai (wpAny_notOrdered_dict hT ?_)
 show aJ _ _ (dictSet a (.int j t) v>>=_) _ _ s;refine ai (map_set wj ⟨o,es,ep,ho,hc,hd,hk,hf⟩ hz hn λh' e1 e2 e3=>ar ⟨.none,rfl,ar (hQ h' e1 e2 e3)⟩)
noncomputable def lk(es:List (Int×FV))(vs:List aB)(k:Int):Option aB:=((es.map (·.1)).zip vs).lookup k
theorem nB{i k:Int}{es:List (Int×FV)}:lk ((i,d)::es) (v::vs) k=if k=i then some v else lk es vs k:=by
 show XK k ((i,v)::(es.map (·.1)).zip vs)=_;rw[bK];by_cases e:k=i
 . rw[if_pos e,e,beq_self_eq_true]
 . exact eW (if_neg e)<|eW (beq_eq_false_iff_ne.mpr e) rfl
structure Mm(C:Cx)(G:Gh)(v:aB)(j:Int)(d:FV)(es:List (Int×FV))(vs Cy:List aB):Prop where
 Sf:bA C G Cy ((dE es j d).map (·.2))
 lk:∀k,lk (dE es j d) Cy k=if k=j then some v else lk es vs k
 len:(dE es j d).length=(if(Mine.lk es vs j).isSome then es.length else es.length+1)
 nd:(es.map (·.1)).Nodup->((dE es j d).map (·.1)).Nodup
 mem:∀k∈(dE es j d).map (·.1),k=j\/k∈es.map (·.1)
theorem NO{j i:Int}{e:FV}{r:List (Int×FV)}{w:aB}(q:i=j)(Rv:Rep C G v d)(r2:bA C G vs (r.map (·.2))):Mm C G v j d ((i,e)::r) (w::vs) (v::vs):=by
 subst q
 have hp:dE ((i,e)::r) i d=(i,d)::r:=if_pos rfl;exact⟨hp▸.cons Rv r2,λk=>by refine eW hp<|eW nB<|eW nB ?_;split<;>rfl,by exact eW hp<|eW nB<|eW (if_pos rfl) rfl,λh=>hp▸h,λk h=>.inr (by replace h:=hp▸h;exact h)⟩
theorem JV{j i:Int}{e:FV}{r:List (Int×FV)}{Cy:List aB}{w:aB}(q:¬i=j)(r1:Rep C G w e)(I:Mm C G v j d r vs Cy):Mm C G v j d ((i,e)::r) (w::vs) (w::Cy):=by
 have hp:dE ((i,e)::r) j d=(i,e)::dE r j d:=if_neg q;refine⟨hp▸.cons r1 I.Sf,λk=>?_,?_,λh=>?_,λk h=>?_⟩
 . refine eW hp<|eW nB<|eW nB<|eW (I.lk ..) ?_
   by_cases e:k=i
   . exact eW (if_pos e)<|eW (if_pos e) (if_neg (e▸q)).symm
   . exact eW (if_neg e)<|eW (if_neg e) rfl
 . refine eW hp<|eW nB<|eW (if_neg (d6 q))<|eW uY<|eW I.len ?_;split<;>rfl
 . refine eW hp ?_
   have n:=ck.mp h;exact ck.mpr ⟨λhm=>(I.mem _ hm).elim q n.1,I.nd n.2⟩
 . replace h:=hp▸h
   exact(a6.mp h).elim (λe=>.inr (e▸a7)) λe=>(I.mem k e).imp id λz=>aW _ z
theorem tH{j:Int}{es:List (Int×FV)}(Rv:Rep C G v d)(R:bA C G vs (es.map (·.2))):∃Cy,Mm C G v j d es vs Cy:=
 es.rec (motive:=λes=>∀vs,bA C G vs (es.map λp:Int×FV=>p.2)->∃Cy,Mm C G v j d es vs Cy) (λvs R=>bA.Kf R ⟨[v],.one Rv,λk=>nB,rfl,λ_=>ck.mpr ⟨nofun,.nil⟩,λk h=>.inl (aH.mp h)⟩)
  (λp r ih vs R=>by
    induction p using oy;rename_i i e;exact(show bA C G vs (e::r.map (·.2))from R).rP λw vs r1 r2=>if q:i=j then⟨v::vs,NO q Rv r2⟩else xE (ih vs r2) λCy I=>⟨w::Cy,JV q r1 I⟩) vs R
theorem JW{et:aN}{w3:WL}{put:OB->List Slot}{j:Int}{tk:Tok}(X:Step C G G2 s bZ)(F2:cJ C G2 O sc ns env fr bZ.heap)(P:lG C G2 O env ns fr bZ.heap i κ x a (.list xs) put t)
 (x3:Step C G2 G' bZ et)(W3:bz C G' w3 et.heap)(R:Rep C G' v d)(h0:0<=j)(hn:j.toNat<xs.length)(hf:j<2^62):
 aJ C.M A (setItem (.ref a) (.int j tk) v) (λ_ s'=>PU C G O sc ns env s (put (.list (xs.set j.toNat d))) w3 s') ef et:=fA (lu P.rep) λh1 h2 h3 h=>gf h λvs n h4 h5=>
 set_list (x3.keep _ _ h2 h4) h0 hf ((bC.symm.trans h5.length).symm▸hn) λh' n' sb ho=>
  rt (tk:=et.toks) (o':=.list (xs.set j.toNat d)) X F2 P x3 W3 trivial (eH sb) ⟨_,ho⟩ ⟨a,rfl,P.hO,x3.free h2 h4,x3.An h3 h4,_,n',ho,by
   exact eW yb<|(h5.mono x3.ext).set _ R⟩
theorem Ba{et:aN}{w3:WL}{es:List (Int×FV)}{put:OB->List Slot}{j:Int}{tk:Tok}(X:Step C G G2 s bZ)(F2:cJ C G2 O sc ns env fr bZ.heap)(P:lG C G2 O env ns fr bZ.heap i κ x a (.dict es) put t)
 (x3:Step C G2 G' bZ et)(W3:bz C G' w3 et.heap)(R:Rep C G' v d)(hz:cc es.length=true):
 aJ C.M A (setItem (.ref a) (.int j tk) v) (λ_ s'=>PU C G O sc ns env s (put (.dict (dE es j d))) w3 s') ef et:=kI (J9 P.rep) λh1 h2 h3 hs h=>gf h λf vs hm h=>fA h λh5(h6:∀k,f k=lk es vs k) h7 h8=>
 xE (fY hm) λo ho=>Nq (lz (x3.at_ h2) hm) (lh (x3.at_ h2) ho h7) (kY hz) λh' sb UB Yi=>xE (tH (j:=j) R (h5.mono x3.ext)) λCy I=>
  rt (o':=.dict (dE es j d)) X F2 P x3 W3 trivial (eH sb) (fY UB) ⟨a,rfl,P.hO,x3.free h2 ho,x3.An h3 ho,hs,_,Cy,UB,I.Sf,λk=>by
   show _=lk _ _ _;exact eW (I.lk ..)<|eL (h6 ..) rfl,by exact eW I.len<|eL (h6 ..)<|Yi,I.nd h8⟩
theorem Fs{a b:af}{l:Nat}:swapsWith e (some (.Subscript a b p)) l env=pure false:=by
 induction e using bE<;>exact@rfl (Sem Bool) (pure false)
theorem JU{j:Int}{tk:Tok}(X:Step C G G' s s')(F:cJ C G' O sc ns env fr s'.heap)(W:bz C G' (some xs) s'.heap)(R:Rep C G' v d)(Rw:Rep C G' u .well)(h0:0<=j)(hn:j.toNat<xs.length)(hf:j<2^62):
 aJ C.M A (setItem u (.int j tk) v) (λ_ qm=>PU C G O sc ns env s fr (some (xs.set j.toNat d)) qm) ef s':=by
 cases Rw with
 |well ha=>
  rename_i a
  have W':=W.well;replace W':=ha▸W'
  (refine nW W' ?_;clear W';intro n1 vs n h4 h5)
  have hlen:vs.size=xs.length:=by have:=h5.length;simpa using this
  refine set_list h4 h0 hf (by lia) λh' n' sb ho=>?_
  have nf:∀{b:aO},eQ C G' b->b≠a:=λf q=>f.2 (q▸ha)
  have no:O a=none:=by
   induction q:O a using aA with
   |none=>rfl
   |some r=>exact absurd rfl (nf (F.iN a r q).2.1)
  have k:=eH sb;refine⟨G',O,⟨X.ext,λb o f _ e=>?_,λb o e=>?_,λb o e=>(X.lx b o e).imp id .inl,X.kC,λ_ _ _ h=>h,λ_ _ _ h=>h,λ_ _ h=>h,X.gens,X.os⟩,⟨λb o e=>?_,W.base,λq hq=>?_,?_⟩,F.loose no (λj y hy hk hc=>?_) k⟩
  . exact k b (nf (X.free f e)) _ (X.keep b o f e)
  . (refine xE (X.alive b o e) λo' e'=>?_)
    by_cases q:b=a
    . subst q;exact⟨_,ho⟩
    . exact⟨o',k b q _ e'⟩
  . exact k b (λq=>by replace e:=n1▸(q▸e);exact nn e) _ (W.sub b o e)
  . (refine qk (W.tabs q hq) λt1 t2 ps t3 r=>?_)
    exact⟨t1,t2,ps,k _ (λe=>t2 (by exact eW e<|ha)) _ t3,r⟩
  . refine eW ha ?_
    refine⟨n1,_,n',ho,?_⟩;exact eW yb<|h5.set _ R
  . have hl:j<fr.length:=by
     refine eW F.len ?_;induction q:decide (j<ns.length)using ax with
     |true=>exact of_decide_eq_true q
     |false=>replace hy:=(ba (bu (of_decide_eq_false q)))▸hy;exact nn hy
    (refine fo (F.pY j y _ hy (aV hl) hk) λ_ c ov q1 _ _ _ q5 _=>?_)
    replace q1:=hc▸q1;cases q1;exact nf q5 rfl
theorem RW{pos:dN}{ie:af}{b ia:IE}(hx:ns[i]?=some x)(hd:(x==("__debug__":bB))=false)(hc:(x==("__classdict__":bB))=false)(hb:dT C bp k sc ns ie b)(ha:dT C bp k sc ns e ia):
 jy C bp N k sc ns (.Assign [.Subscript (.Name x px) ie p] e pos) (.fV (.v i) b ia):=λG O env A s fr wl fl cH bQ q H=>
 f7 q λy w1 q1 q=>ob q λd h1 q=>ob q λsl hs q=>f7 q λz w2 q3 q=>ob q λj h2 q=>Mh (ha.run H q1 λv aM G1 x1 H1 R1=>by
  replace R1:Rep C G1 v d:=eh (P:=λy=>cD C G1 O s.heap aM.heap v y->_) h1 (λR=>R) R1
  have own:∀{t:OT}{o:OB}{Q:Unit->aN->Prop},sl.own?=some t->t.o?=some o->(∀a κ i' x' t' G2 bZ(P:lG C G2 O env ns fr bZ.heap i' κ x' a o (λo'=>fr.set i (.own (.ob o'))) t')(x2:Step C G1 G2 aM bZ)(H2:Here C G2 O sc ns env fr w1 k A bZ) u et G3(x3:Step C G2 G3 bZ et)(H3:Here C G3 O sc ns env fr w2 k A et) t,
   aJ C.M A (setItem (.ref a) (.int j t) v) Q ef et)->aJ C.M A (eval (.Name x px) env) (λo s=>aJ C.M A (eval ie env) (λi s=>aJ C.M A (setItem o i v) Q ef s) ef s) ef aM:=λg1 g2 kk=>
   cX (Zo (bp:=bp) hx hd hc G1 O env A aM fr w1 _ _ w1 (bs (bs hs g1) (ms g2)) H1) λov bZ r=>Ax r λG2 a κ r=>Ax r λt' i' x' r=>fA r λhv x2 W2 P=>by
    subst hv
    have H2:=H1.step x2 W2;exact hb.run H2 q3 λiv et G3 x3 H3 R3=>iB R3 h2 λt=>kk a κ i' x' t' G2 bZ P x2 H2 iv et G3 x3 H3 t
  exact oe q (λ_ q=>ob q λt g1 q=>ob q λo g2 q=>oe q
   (λ_ q=>ob q λes g3 q=>dV q λhz q=>own g1 g2 λa κ i' x' t' G2 bZ P x2 H2 u et G3 x3 H3 t=>xo q (OB.Lw (P:=λo=>lG C G2 O env ns fr bZ.heap i' κ x' a o _ t'->_) g3
     (λP=>cX (Ba (x1.trans x2) H2.F P x3 H3.W (Rep.mono (x2.ext.trans x3.ext) R1) hz) λ_ s' h=>h.next) P))
   λxs g3 q=>dV q λhk q=>own g1 g2 λa κ i' x' t' G2 bZ P x2 H2 u et G3 x3 H3 t=>xo q (OB.xD (P:=λo=>lG C G2 O env ns fr bZ.heap i' κ x' a o _ t'->_) g3
    (λP=>cX (JW (x1.trans x2) H2.F P x3 H3.W (Rep.mono (x2.ext.trans x3.ext) R1) hk.1 hk.2.1 hk.2.2) λ_ s' h=>h.next) P))
   λw g1 q=>dV q λhw q=>ob q λxs g2 q=>dV q λhk q=>xo q (Slot.I8 (P:=λsl=>fr[i]?=some sl->_) g1 (λhs=>bS (zy H1.F hx hs nofun) λu n S=>bS S λu' e' Rw=>by
    cases e';refine qL (mK H1.F ⟨i,hx⟩ hc n ?_) hd;exact hb.run H1 q3 λiv bZ G2 x2 H2 R2=>iB R2 h2 λt=>cX (JU (x1.trans x2) H2.F (g2▸H2.W) (Rep.mono x2.ext R1) (Rep.mono x2.ext (FV.I3 (P:=λw=>Rep C G1 u w->Rep C G1 u .well) hw (λR=>R) Rw)) hk.1 hk.2.1 hk.2.2) λ_ s' h=>h.next) hs)) Fs
theorem RX{o:af}{pos:dN}{ie:af}{f:Nat}{b ia:IE}(hp:wZ C bp k sc ns o (.fld i f))(hb:dT C bp k sc ns ie b)(ha:dT C bp k sc ns e ia):
 jy C bp N k sc ns (.Assign [.Subscript o ie p] e pos) (.fV (.fld i f) b ia):=λG O env A s fr wl fl cH bQ q H=>
 f7 q λy w1 q1 q=>ob q λd h1 q=>f7 q λop w2 q3 q=>f7 q λz w3 q4 q=>ob q λj h2 q=>ob q λes g3 q=>dV q λhz q=>Mh (ha.run H q1 λv aM G1 x1 H1 R1=>by
  replace R1:Rep C G1 v d:=eh (P:=λy=>cD C G1 O s.heap aM.heap v y->_) h1 (λR=>R) R1;exact cX (hp G1 O env A aM fr w1 op.1 op.2 w2 q3 H1) λov bZ r=>Ax r λG2 a κ r=>Ax r λt i' x' r=>fA r λhv x2 W2 P=>by
   subst hv
   have H2:=H1.step x2 W2;exact hb.run H2 q4 λiv et G3 x3 H3 R3=>iB R3 h2 λtk=>xo q (OB.Lw (P:=λo=>lG C G2 O env ns fr bZ.heap i' κ x' a o op.2 t->_) g3
    (λP=>cX (Ba (x1.trans x2) H2.F P x3 H3.W (Rep.mono (x2.ext.trans x3.ext) R1) hz) λ_ s' h=>h.next) P)) Fs
end
section
variable {G0:Gh}
theorem DE{es:List b0}(hk:∀e∈es,∃t j,e.key=.str (attrName j) t/\j<15):es.any (·.refKey)=false:=by
 refine Ms.mpr λe he=>?_
 (refine gf (hk e he) λt j hk _=>?_)
 unfold EI;refine eW hk ?_;simp
theorem NZ{x dx:aO}{es:List b0}{n:Nat}{tk0:Tok}{R:Except aB Flow->aN->Prop}(X:C.K.In s.heap)(hx:s.heap.get? x=some (instObj c dx))(D:s.heap.get? dx=some (dictOf es n))
 (hp:plainOver C.K c=true)(ht:takerIn C.K c name=some none)(hh:hasDictIn C.K c=true)(nr:es.any (·.refKey)=false)(hz:es.length<900)
 (h:∀h' OV tk n',cQ dx s.heap h'->h'.get? dx=some (dictOf (putL name OV (.str name tk) v es) n')->R (.ok (.ret .none)) {s with heap:=h',toks:=s.toks+1}):
 codeAny C.M A (.call (.builtin "object.__setattr__") ⟨[.ref x,.str name tk0,v],[]⟩) R s:=by
 have I:InstAt s.heap x (instObj c dx) c (some (dictOf es n)):=⟨hx,rfl,rfl,D⟩;refine osa_open X I hp ht λb=>?_
 (refine bS (any_some hh) λcd hc ue=>?_)
 refine ai (ar (ai (ai (aaQ hx (ai ((looks_clsIn X hc).here ?_))))));refine eW ue ?_;refine ar (a:=some dx) (ai (ar (ai ?_)));unfold nsSet;refine ai (ai (eG (ar (ai (wpAny_mkText (ai (aaQ D ?_)))))));dsimp only
 have c0:(!es.toArray.any (·.key.isStr name)&&es.toArray.any (·.refKey))=false:=by
  have:es.toArray.any (·.refKey)=false:=by simpa using nr
  exact eW this<|eW (jN ..) rfl
 refine eW (aRefKeyMayBeTheName_at ..)<|eW c0 ?_
 have g:=en (Obj.putName name (xr C.w.params name) (.str name s.toks) v) D (by exact eW (putName_dict ..) rfl);rw[putName_dict]at g
 have hlen:(putL name (xr C.w.params name) (.str name s.toks) v es).length<=1000:=by
  have:∀l:List b0,(putL name (xr C.w.params name) (.str name s.toks) v l).length<=l.length+1:=λl=>by
   induction l with
   |nil=>simp[putL]
   |cons e r ih=>unfold putL;split<;>simp<;>omega
  have:=this es;lia
 refine wpAny_updatePart D ?_;refine ai (wpAny_lookBehind g (pastItsLine_dict (by refine eW cg<|eW dp ?_;lia)) ?_);exact ar (h _ _ _ _ (cA ..) g)
theorem Jr{x dx:aO}{es:List b0}{n:Nat}{Q:Unit->aN->Prop}(X:C.K.In s.heap)(hx:s.heap.get? x=some (instObj c dx))(D:s.heap.get? dx=some (dictOf es n))
 (hs:findIn C.K (.ref c) "__setattr__"=some (some (.builtin "object.__setattr__")))(hp:plainOver C.K c=true)(ht:takerIn C.K c name=some none)(hh:hasDictIn C.K c=true)(nr:es.any (·.refKey)=false)(hz:es.length<900)
 (h:∀h' OV tk n',cQ dx s.heap h'->h'.get? dx=some (dictOf (putL name OV (.str name tk) v es) n')->Q () {s with heap:=h',toks:=s.toks+2}):
 aJ C.M A (setAttr (.ref x) name v) Q E s:=by
 have I:InstAt s.heap x (instObj c dx) c (some (dictOf es n)):=⟨hx,rfl,rfl,D⟩;exact set_plain X I hs (NZ (s:={s with toks:=s.toks+1}) X hx D hp ht hh nr hz λh' OV tk n' e1 e2=>h h' OV tk n' e1 e2)
theorem f_.length{es:List b0}(y:f_ C G O h ρ es fs):es.length=fs.length:=y.ind rfl λ_ _ _ _ _ _ _ _ ih=>congrArg (·+1) ih
theorem f_.put{x:OF}{OV:Int}{tk:Tok}{es:List b0}(hj:j<15)(R:f5 C G O h (ρ (j+2)) v x)(y:f_ C G O h ρ es fs):f_ C G O h ρ (putL (attrName j) OV (.str (attrName j) tk) v es) (putField fs j x):=
 y.ind (P:=λes fs=>f_ C G O h ρ (putL (attrName j) OV (.str (attrName j) tk) v es) (putField fs j x)) ⟨⟨tk,rfl⟩,hj,R,trivial⟩ λe es p fs q hk y1 y2 ih=>by
  induction p using oy;rename_i k z;refine xE q λt ht=>?_;unfold putL putField;by_cases e0:k=j
  . refine eW (if_pos e0) ?_
    subst e0;exact eW (if_pos (key_is ht hk hk (beq_self_eq_true k))) ⟨⟨t,ht⟩,hk,R,y2⟩
  . exact eW (if_neg e0)<|eW (if_neg λz=>ff ((key_is ht hk hj (beq_eq_false_iff_ne.mpr e0)).symm.trans z)) ⟨⟨t,ht⟩,hk,y1,ih⟩
theorem xy{x:OF}(nd:(fs.map (·.1)).Nodup):((putField fs j x).map (·.1)).Nodup/\∀k∈(putField fs j x).map (·.1),k=j\/k∈fs.map (·.1):=by
 induction fs using t_ with
 |nil=>exact⟨ck.mpr ⟨a8,eC⟩,λk h=>.inl (aH.mp h)⟩
 |cons p fs ih=>
  induction p using oy;rename_i k z;unfold putField;by_cases e0:k=j
  . exact eW (if_pos e0)<|eL e0<|⟨nd,λ_ h=>.inr h⟩
  . refine eW (if_neg e0) ?_
    refine eW bT ?_;rw[bT]at nd
    (refine xA (ck.mp nd) λn1 n2=>?_)
    (refine xA (ih n2) λh1 h2=>?_)
    refine⟨ck.mpr ⟨λhm=>?_,h1⟩,λi hi=>?_⟩
    . rcases h2 _ hm with e|e
      . exact e0 e
      . exact n1 e
    . rcases a6.mp hi with e|e
      . exact .inr (e▸a7)
      . exact(h2 i e).imp id λz=>aW _ z
theorem O6{d:aO}(X:bW C G G1 O O' s aM)(h:O' d=some (.own i κ)):s.heap.get? d=none\/qi O d:=match q:s.heap.get? d with
 |none=>.inl rfl
 |some o=>.inr (Classical.byContradiction λhh=>X.own d o q hh ⟨_,h,nofun⟩)
theorem yW{y:OF}(B:Base C)(X:bW C G G1 O O' s aM)(W1:bz C G1 wl aM.heap)(F1:cJ C G1 O' sc ns env fr aM.heap)(hx:ns[i]?=some x)(hd:(x==("__debug__":bB))=false)
 (hc:(x==("__classdict__":bB))=false)(hs:fr[i]?=some (.own (.inst c fs)))(R:f5 C G1 O' aM.heap (some (.own i (j+2))) v y)(hj:j<15)(hz:fs.length<900):
 aJ C.M A (eval (.Name x px) env) (λov bZ=>aJ C.M A (setAttr ov (attrName j) v) (λ_ s'=>PU C G O sc ns env s (fr.set i (.own (.inst c (putField fs j y)))) wl s') ef bZ) ef aM:=
 bS (zy F1 hx hs nofun) λw n S=>bS S λw' e T=>by
  cases e;refine qL (mK F1 ⟨i,hx⟩ hc n ?_) hd
  have HK:=T.1;refine m7 T.2 λxa d i5 m hv R'=>iS R' λhO lC hF eo uM R'=>iS R' λO5 QQ BL ed q nd=>?_;subst hv
  have U1:=F1.iN _ _ uM;refine xA (B.LD c HK) λc1 c2=>?_;refine Jr (QA B W1) eo ed c1 c2 (B.F7 c j HK hj) (B.wK c HK).2.2 (DE (tR q)) (q.length▸hz) λh' OV tk n' sb e'=>?_
  have k:=eH sb
  have U:Upd C G1 O' aM.heap d G1 h':=⟨.refl G1,λb r e=>⟨(F1.iN b r e).1,(F1.iN b r e).2.1⟩,λb r e nb=>k b nb⟩
  have ne:∀z,O' d≠some (.own i (z+2)):=λz e=>absurd (Role.own.inj (ag (uM.symm.trans e))).2 (by omega);exact⟨G1,O',X.Ki (a:=d) (O6 X uM) k ⟨_,e'⟩,W1.loose U1.1 U1.2.1 k,F1.mut hx hs uM k ⟨_,e'⟩ n ⟨HK,xa,d,_,n',rfl,hO,lC,hF,k _ (d6 BL) _ eo,uM,O5,QQ,BL,e',f_.put hj (f5.upd U (ne j) R) (q.upd U λk _=>ne k),(xy nd).1⟩⟩
theorem Kd(hj:j<15)(e:j+2=nZ):False:=by unfold nZ at e;lia
theorem Ke{a:af}{b:bB}{l:Nat}:swapsWith e (some (.Attribute a b p)) l env=pure false:=by
 induction e using bE<;>exact@rfl (Sem Bool) (pure false)
theorem GU{pos:dN}{a:IE}(hx:ns[i]?=some x)(hd:(x==("__debug__":bB))=false)(hc:(x==("__classdict__":bB))=false)(hy:gA[j]?=some y)(hj:j<15)(ha:dT C bp k sc ns e a):
 jy C bp N k sc ns (.Assign [.Attribute (.Name x px) y p] e pos) (.setAttr i j a):=λG O env A s fr wl fl cH bQ q H=>
 f7 q λz w1 q1 q=>ob q λt h1 q=>ob q λcf h2 q=>dV q λhz q=>MD q λf h3=>by
  refine eW (Gg hy) ?_;refine plainObj_wpAny_Assign_Attribute (ha.run H q1 λv aM G1 x1 H1 R1=>?_) Ke
  have hs:fr[i]?=some (.own (.inst cf.1 cf.2)):=ob h1 λsl g1 g2=>(Slot.vr (P:=λsl=>fr[i]?=some sl->_) g2 λg1=>(OT.rL (P:=λt=>fr[i]?=some (.own t)->_) h2 λg=>g) g1) g1;induction z using EV.casesOn with
  |bor t=>exact nn h3
  |fv d=>
   have e:_=f:=ag h3;subst e;exact cX (yW H.base x1.o H1.W H1.F hx hd hc hs (y:=.fv d) R1 hj hz) λov bZ h=>cX h λ_ s' h=>h.next
  |own t=>
   (refine bS (cE.mp h3) λo h4 q1=>?_;subst q1)
   refine bS (Fu R1) λbq m y=>?_
   have m2:nU C G1 s.heap aM.heap 0 (λa=>(bq a).map λ_=>.own 0 (j+2)):=λa r e=>by
    (refine bS (cE.mp e) λr' e1 q2=>?_;subst q2)
    exact jP (m a r' e1) λq1 _ q3=>⟨q1,⟨0,_,rfl,aT _,Kd hj⟩,q3⟩
   exact cX (yW H.base (rn (is:=[i]) x1 m2) H1.W (H.F.zA x1 m2) hx hd hc hs (y:=.ob o) (dJ.relabel (λa e=>by unfold oo;dsimp only;exact eW e rfl) (OT.zt (P:=λt=>dO C G1 bq aM.heap (λk=>some (.own 0 k)) v t->dJ C G1 bq aM.heap (some (.own 0 0)) v o) h4 (λy=>y) y)) hj hz) λov bZ h=>cX h λ_ s' h=>h.next
theorem Qp{p1 p2 p3:dN}(hx:ns[i]?=some x)(hd:(x==("__debug__":bB))=false)(hc:(x==("__classdict__":bB))=false)(hl:(p2.endLine==p3.line)=true)
 (hs:fr[i]?=some (.own (.ob (.list xs))))(hg:xs.getLast?=some d)(hz:cc xs.length=true)(H:Here C G O sc ns env fr wl k A s)
 (h:∀v G1 s',bW C G G1 O O s s'->bz C G1 wl s'.heap->cJ C G1 O sc ns env (fr.set i (.own (.ob (.list xs.dropLast)))) s'.heap->Rep C G1 v d->Q v s'):
 aJ C.M A (eval (.Call (.Attribute (.Name x p1) "pop" p2) [] [] p3) env) Q ef s:=by
 refine wpAny_Call_method0_late rfl hl (cX (Zo (bp:=λ_ _ _=>none) hx hd hc G O env A s fr wl (.list xs) (λo'=>fr.set i (.own (.ob o'))) wl (bs (bs hs rfl) rfl) H) λov aM r=>Ax r λG1 a κ r=>Ax r λt i' x' r=>fA r λhv x1 W1 P=>?_);subst hv;refine fA (lu P.rep) λh1 h2 h3 h'=>gf h' λvs n h4 h5=>?_
 have F1:=H.F.step x1
 have hlen:vs.size=xs.length:=by have:=h5.length;simpa using this
 refine⟨_,_,ja,Aq,PySem.F.type_list_pop,⟨_,h4,rfl⟩,(λb eb=>by cases eb;exact⟨_,h4,rfl⟩),oq rfl (PySem.evalArgs_none ?_)⟩;rw[Ag]at hg;refine bS (h5.get hg) λy g1 R=>?_
 have g2:vs[vs.size-1]?=some y:=by refine eW hlen ?_;simpa using g1
 have e1:vs.toList=vs.toList.dropLast++[y]:=by
  have:vs.toList.getLast?=some y:=by refine eW Ag<|eW bC ?_;simpa using g2
  (refine xE (List.getLast?_eq_some_iff.mp this) λys e=>?_)
  refine eW e ?_;simp
 have e2:(vs.eraseIdxIfInBounds (vs.size-1)).toList=vs.toList.dropLast:=by
  have e3:vs=(vs.toList.dropLast++[y]).toArray:=by exact eL e1 rfl
  have e4:vs.size-1=vs.toList.dropLast.length:=by exact eW List.length_dropLast<|eW bC rfl
  refine eW e4 ?_
  have:=kl_erase vs.toList.dropLast [] y;rw[<-e3]at this;exact eW this<|eW (cC ..) rfl
 refine xE (rk (f:=λz=>z.eraseIdxIfInBounds (vs.size-1)) h4) λn' h6=>jP (yq (tk:=aM.toks) (o':=.list xs.dropLast) x1 F1 P (.refl C G1 aM) W1 trivial (eH (cA aM.heap a (o9 λz=>z.eraseIdxIfInBounds (vs.size-1)))) ⟨_,h6⟩ ⟨a,rfl,P.hO,h2,h3,_,n',h6,by refine eW e2 ?_;exact h5.dropLast⟩) λm1 m2 m3=>?_;exact xc Aq ⟨_,h4,rfl⟩ PySem.F.entry_list_pop (PySem.F.args_list_pop_1 _) (UN a vs n y g2 (by exact eW hlen<|kY hz)) ⟨h4,h _ G1 _ m1 m2 m3 R⟩
theorem s_pop{t:af}{p1 p2 p3 pos:dN}{single:Bool}(ht:cY ns t is=true)(hsg:single=(is.length==1))(hx:ns[i]?=some x)(hd:(x==("__debug__":bB))=false)(hc:(x==("__classdict__":bB))=false)
 (hl:(p2.endLine==p3.line)=true):jy C bp N k sc ns (.Assign [t] (.Call (.Attribute (.Name x p1) "pop" p2) [] [] p3) pos) (.pop is single i):=λG O env A s fr wl fl cH bQ q H=>
 ob q λxs h1 q=>ob q λd hg q=>dV q λhz q=>MD q λsN q1=>by
  have hs:fr[i]?=some (.own (.ob (.list xs))):=ob h1 λt h1 h2=>ob h1 λsl g1 g2=>(Slot.vr (P:=λsl=>fr[i]?=some sl->_) g2 λg1=>ob h2 λo h2 h3=>(OT.zt (P:=λt=>fr[i]?=some (.own t)->_) h2 λg=>(OB.xD (P:=λo=>fr[i]?=some (.own (.ob o))->_) h3 λg=>g) g) g1) g1
  have hb:c7 (fr.set i (.own (.ob (.list xs.dropLast)))) is d=some sN:=by
   subst hsg;induction is using bP with
   |nil=>exact q1
   |cons j r=>induction r using bP with
    |nil=>exact q1
    |cons j' r=>exact q1
  have fin:∀v G1 s',bW C G G1 O O s s'->bz C G1 wl s'.heap->cJ C G1 O sc ns env (fr.set i (.own (.ob (.list xs.dropLast)))) s'.heap->Rep C G1 v d->aJ C.M A (assign t env v) (λ_ qm=>PS C G O sc ns env s .next sN wl .next qm) ef s':=λv G1 s' X W F R=>
   cX (Gf H.room.handled X W F R ht hb) λ_ qm h=>h.next
  clear q1
  revert ht fin hb
  intro ht;refine vc ht (λy p j hy hb fin=>?_) λes n p ht hb fin=>?_
  . refine xY (Qp hx hd hc hl hs hg hz H λv G1 s' X W F R=>?_) (ve rfl)
    exact i3 X W F hy hb rfl ⟨v,rfl,R⟩ λs' X' W' F' _=>PU.next ⟨G1,O,X',W',F'⟩
  . exact Ml (Qp hx hd hc hl hs hg hz H λv G1 s' X W F R=>fin v G1 s' X W F R) rfl rfl
end
section
variable {G0:Gh}
theorem Va{pos:dN}{a:IE}(ha:dT C bp k sc ns e a)(hc:qC e=false):jy C bp N k sc ns (.Expr e pos) (.run a):=λG O env A s fr wl fl cH bQ q H=>f7 q λy w1 q1 q=>MD q λd h1=>
 aaT (ha.run H q1 λv aM G1 x1 H1 R1=>⟨G1,O,x1.o,H1.W,H1.F,trivial⟩) (by unfold interactive;exact eW H.F.fn rfl) (ve hc)
theorem dJ.ghost{o:OB}(x:Ext G G')(d:∀a,O a=r->G'.F a=none/\eQ C G' a)(y:dJ C G O h r v o):dJ C G' O h r v o:=by
 (refine m8 y ?_;clear y;intro a hv hO lC hF hc)
 (refine xA (d a hO) λd1 d2=>?_)
 induction o using OB.casesOn with
 |list xs=>(refine gf hc ?_;clear hc;intro vs n e q);exact⟨a,hv,hO,d2,d1,vs,n,e,q.mono x⟩
 |dict es=>
  (refine m9 hc ?_;clear hc;intro hs f vs e q1 q1;refine jP q1 ?_;clear q1;intro q2 q3 q4)
  exact⟨a,hv,hO,d2,d1,hs,f,vs,e,q1.mono x,q2,q3,q4⟩
 |set xs=>exact⟨a,hv,hO,d2,d1,hc⟩
theorem gv.ghost(x:Ext G G')(d:∀a k,O a=ρ k->G'.F a=none/\eQ C G' a)(y:gv C G O h ρ j vs iH):gv C G' O h ρ j vs iH:=y.ind (λ_=>trivial) λj _ _ _ _ y _ ih=>⟨y.ghost x λa e=>d a j e,ih⟩
theorem f5.ghost{o:OF}(x:Ext G G')(d:∀a,O a=r->G'.F a=none/\eQ C G' a)(y:f5 C G O h r v o):f5 C G' O h r v o:=o.casesOn (motive:=λo=>f5 C G O h r v o->f5 C G' O h r v o) (λ_ y=>Rep.mono x y) (λ_ y=>dJ.ghost x d y) y
theorem f_.ghost(x:Ext G G')(d:∀a k,O a=ρ k->G'.F a=none/\eQ C G' a){es:List b0}(y:f_ C G O h ρ es fs):f_ C G' O h ρ es fs:=y.ind trivial λ_ _ _ _ a b c _ ih=>⟨a,b,c.ghost x λa e=>d a _ e,ih⟩
theorem dO.ghost(x:Ext G G')(d:∀a k,O a=ρ k->G'.F a=none/\eQ C G' a)(y:dO C G O h ρ v t):dO C G' O h ρ v t:=by
 induction t using OT.casesOn with
 |ob o=>exact dJ.ghost x (λa e=>d a 0 e) y
 |gr iH=>
  (refine fR y ?_;clear y;intro a vs n hv hO lC hF e q)
  exact⟨a,vs,n,hv,hO,(d _ _ hO).2,(d _ _ hO).1,e,q.ghost x d⟩
 |inst c fs=>
  (refine Up y ?_;clear y;intro hc a q2;refine fR q2 ?_;clear q2;intro dd i5 n hv hO lC hF e q3;refine iS q3 ?_;clear q3;intro uM O5 QQ BL ed q4;refine xA q4 ?_;clear q4;intro q hn)
  exact⟨hc,a,dd,i5,n,hv,hO,(d _ _ hO).2,(d _ _ hO).1,e,uM,(d _ _ uM).2,(d _ _ uM).1,BL,ed,q.ghost x d,hn⟩
theorem cT.ghost(x:Ext G G')(q:∀a r,O a=some r->(r=.kj\/∃k,r=.own i k)->O' a=some r/\G'.F a=none/\eQ C G' a)(hl:∀a r,O' a=some r->O a=some r)(y:cT C G O h i sl ov):cT C G' O' h i sl ov:=by
 have y':=y.move (O':=O') (h':=h) λa r e hr=>⟨(q a r e hr).1,λ_ e=>e⟩;induction sl using Slot.casesOn with
 |unset=>exact y'
 |val d=>(refine bS y' ?_;clear y';intro v e p);exact⟨v,e,p.mono x⟩
 |ro d=>(refine bS y' ?_;clear y';intro v e p);exact⟨v,e,p.mono x⟩
 |own t=>(refine bS y' ?_;clear y';intro v e p);exact⟨v,e,p.ghost x λa k e=>(q a _ (hl _ _ e) (.inr ⟨k,rfl⟩)).2⟩
 |bor t=>(refine bS y' ?_;clear y';intro v e p);exact⟨v,e,p.ghost x λa k e=>(q a _ (hl _ _ e) (.inl rfl)).2⟩
noncomputable def frozen(O:aO->Option Role)(P:aO->Prop)[DecidablePred P](a:aO):Option Role:=if P a then none else O a
theorem lg{P:aO->Prop}[DecidablePred P]{b:aO}{r:Role}(e:frozen O P b=some r):O b=some r/\¬P b:=by
 unfold frozen at e;split at e
 . exact nn e
 . rename_i hn;exact⟨e,hn⟩
theorem d8{P:aO->Prop}[DecidablePred P]{b:aO}(q:¬P b):(G.with h P).F b=G.F b:=by
 unfold Gh.with;simp only[q,if_false]
theorem rM{P:aO->Prop}[DecidablePred P](D:IU C G O h)(hP:∀a,P a->∃r,O a=some r/\r≠.kj):Ext G (G.with h P):=
 ⟨λa o e=>by
   by_cases q:P a
   . (refine bS (hP a q) λr h1 _=>?_)
     rw[(D a r h1).1]at e;exact nn e
   . exact eW (d8 q)<|e,λ_ e=>e⟩
theorem TA{P:aO->Prop}[DecidablePred P](W:bz C G wl s.heap)(D:IU C G O s.heap)(hP:∀a,P a->∃r,O a=some r/\r≠.kj):
 bz C (G.with s.heap P) wl s.heap/\bW C G (G.with s.heap P) O (frozen O P) s s:=by
 have x:=rM D hP;refine⟨⟨λa o e=>?_,λa o e=>x.f _ _ (W.base a o e),λq hq=>?_,?_⟩,⟨x,λ_ _ _ _ e=>e,λ_ o e=>⟨o,e⟩,λa o e=>?_,λ_ e=>.inl e,λa o e hn hh=>?_,λa o e hn=>?_,λa i h=>(lg h).1,rfl,rfl⟩⟩
 . by_cases q:P a
   . rw[fS q]at e;exact e
   . rw[d8 q]at e;exact W.sub a o e
 . (refine u9 (W.tabs q hq) λh1 h2 ps h3 h4 h5=>?_)
   refine⟨?_,h2,ps,h3,h4,λpos cv e=>(h5 pos cv e).mono x.f⟩;rw[d8 λhp=>?_]
   . exact h1
   . (refine bS (hP _ hp) λr h1 _=>?_)
     exact(D _ r h1).2.1.1 q hq rfl
 . have W':=W.well
   show gH C (G.with s.heap P) s.heap G.aw wl;induction hw:G.aw using aA with
   |none=>rw[hw]at W';induction wl using aA<;>first|exact W'.elim|exact trivial
   |some b=>
    rw[hw]at W';induction wl using aA with
    |none=>exact W'.elim
    |some ds=>
     (refine nW W' ?_;clear W';intro h1 vs n h2 r)
     refine⟨?_,vs,n,h2,r.mono x⟩;rw[d8 λhp=>?_]
     . exact h1
     . (refine bS (hP _ hp) λr h1 _=>?_)
       exact(D _ r h1).2.1.2 hw
 . by_cases q:P a
   . exact .inr (.inr (hP a q))
   . rw[d8 q]at e;exact .inl e
 . (refine bS hh ?_;clear hh;intro r h1 h2)
   exact hn ⟨r,(lg h1).1,h2⟩
 . unfold frozen
   split
   . rfl
   . exact hn
theorem vM{f:Int->Option aB}{o:jY}(e:h.get? a=some o)(x:h.MapOf (ik C) a f)(e':h'.get? a=some o):h'.MapOf (ik C) a f:=lz (λo' q=>by rw[e]at q;cases q;exact e') x
theorem C0{f:Int->Bool}{n:Nat}{o:jY}(e:h.get? a=some o)(x:h.SetOf (ik C) a f n)(e':h'.get? a=some o):h'.SetOf (ik C) a f n:=oI (λo' q=>by rw[e]at q;cases q;exact e') x
theorem dJ.fz{o:OB}(x:Ext G G')(d:∀a,O a=r->∀o,h.get? a=some o->G'.F a=some o)(y:dJ C G O h r v o):Rep C G' v o.fz:=by
 (refine m8 y ?_;clear y;intro a q5;subst q5;intro hO lC hF hc)
 induction o using OB.casesOn with
 |list xs=>
  (refine gf hc ?_;clear hc;intro vs n e q)
  exact .list (vs:=vs.toList) (n:=n) (d a hO _ (by simpa using e)) (q.mono x)
 |dict es=>
  (refine m9 hc ?_;clear hc;intro hs f vs e q1 q6;refine jP q6 ?_;clear q6;intro q2 q3 q4)
  (refine xE (fY e) λo ho=>?_)
  exact .dict (d a hO _ ho) (λh' e'=>vM ho e e') hs (q1.mono x) q2
 |set xs=>
  (refine xE (mH hc.1) λo ho=>?_)
  exact .set (d a hO _ ho) λh' e'=>C0 ho hc.1 e'
theorem gv.fz(x:Ext G G')(d:∀a k,O a=ρ k->∀o,h.get? a=some o->G'.F a=some o)(y:gv C G O h ρ j vs iH):bA C G' vs (iH.map FV.list):=y.ind (λ_=>.nil) λj _ _ _ _ y _ ih=>.cons (y.fz x λa e=>d a j e) ih
theorem f5.fz{o:OF}(x:Ext G G')(d:∀a,O a=r->∀o,h.get? a=some o->G'.F a=some o)(y:f5 C G O h r v o):Rep C G' v o.fz:=o.casesOn (motive:=λo=>f5 C G O h r v o->Rep C G' v o.fz) (λ_ y=>Rep.mono x y) (λ_ y=>dJ.fz x d y) y
theorem f_.fz(x:Ext G G')(d:∀a k,O a=ρ k->∀o,h.get? a=some o->G'.F a=some o){es:List b0}(y:f_ C G O h ρ es fs):bA C G' (es.map (·.val)) ((fs.map λp=>(p.1,p.2.fz)).map (·.2))/\KeysAre es ((fs.map λp=>(p.1,p.2.fz)).map (·.1)):=
 y.ind ⟨.nil,trivial⟩ λ_ _ _ _ a b c _ ih=>⟨.cons (c.fz x λa e=>d a _ e) ih.1,a,b,ih.2⟩
theorem dO.fz(x:Ext G G')(d:∀a k,O a=ρ k->∀o,h.get? a=some o->G'.F a=some o)(y:dO C G O h ρ v t):Rep C G' v t.fz:=by
 induction t using OT.casesOn with
 |ob o=>exact dJ.fz x (λa e=>d a 0 e) y
 |gr iH=>
  (refine fR y ?_;clear y;intro a vs n q7;subst q7;intro hO lC hF e q)
  exact .list (vs:=vs.toList) (n:=n) (d a _ hO _ (by simpa using e)) (q.fz x d)
 |inst c fs=>
  (refine Up y ?_;clear y;intro hc a q8;refine fR q8 ?_;clear q8;intro dd i5 n NN;subst NN;intro hO lC hF e q9;refine iS q9 ?_;clear q9;intro uM O5 QQ BL ed VE;refine xA VE ?_;clear VE;intro q hn)
  (refine xA (q.fz x d) λq1 q2=>?_)
  exact .inst hc (d _ _ hO _ e) (d _ _ uM _ ed) q1 q2
theorem gY{P:aO->Prop}[DecidablePred P]{b:aO}{r:Role}(e:O b=some r)(n:¬P b):frozen O P b=some r:=by unfold frozen;exact eW (if_neg n)<|e
theorem tP{P:aO->Prop}[DecidablePred P]{b:aO}(e:O b=none):frozen O P b=none:=by unfold frozen;split;rfl;exact e
theorem cJ.Tw(F:cJ C G O sc ns env fr h)(hs:fr[i]?=some (.own t))[DecidablePred λa=>∃κ,O a=some (Role.own i κ)]:
 cJ C (G.with h λa=>∃κ,O a=some (Role.own i κ)) (frozen O λa=>∃κ,O a=some (Role.own i κ)) sc ns env (fr.set i (.val t.fz)) h:=by
 have hP:∀a,(∃κ,O a=some (Role.own i κ))->∃r,O a=some r/\r≠.kj:=λa q12=>xE q12 λκ e=>⟨_,e,by intro e;exact Role.noConfusion e⟩
 have x:=rM (P:=λa=>∃κ,O a=some (Role.own i κ)) F.iN hP
 have hi:i<fr.length:=by
  induction q:decide (i<fr.length)using ax with
  |true=>exact of_decide_eq_true q
  |false=>rw[ba (bu (of_decide_eq_false q))]at hs;exact nn hs
 have Bi:∀{b:aO}{r:Role},O b=some r->(∀κ,r≠.own i κ)->¬∃κ,O b=some (Role.own i κ):=λe n q13=>xE q13 λκ e'=>by rw[e]at e';cases e';exact n κ rfl
 have iN:∀b r,frozen O (λa=>∃κ,O a=some (Role.own i κ)) b=some r->(G.with h λa=>∃κ,O a=some (Role.own i κ)).F b=none/\eQ C (G.with h λa=>∃κ,O a=some (Role.own i κ)) b/\∃o,h.get? b=some o:=λb r e=>by
  (refine xA (lg e) λe1 e2=>?_)
  (refine jP (F.iN b r e1) λh1 h2 h3=>?_)
  exact⟨by exact eW (d8 (P:=λa=>∃κ,O a=some (Role.own i κ)) e2)<|h1,h2,h3⟩
 have other:∀{j:Nat}{sl:Slot}{ov:Option aB},j≠i->cT C G O h j sl ov->cT C (G.with h λa=>∃κ,O a=some (Role.own i κ)) (frozen O λa=>∃κ,O a=some (Role.own i κ)) h j sl ov:=λ{j sl ov} hj S=>by
  refine S.ghost x (λa r e hk=>?_) λa r e=>(lg e).1
  have n:=Bi e λκ q=>by
   rcases hk with rfl|⟨k,rfl⟩
   . exact Role.noConfusion q
   . cases q;exact hj rfl
  have e':=gY (P:=λa=>∃κ,O a=some (Role.own i κ)) e n;exact⟨e',(iN a r e').1,(iN a r e').2.1⟩
 have here:∀{ov:Option aB},cT C G O h i (.own t) ov->cT C (G.with h λa=>∃κ,O a=some (Role.own i κ)) (frozen O λa=>∃κ,O a=some (Role.own i κ)) h i (.val t.fz) ov:=λ{ov} q14=>bS q14 λv e T=>
  ⟨v,e,T.fz x λa k e o ho=>by exact eW (fS (P:=λa=>∃κ,O a=some (Role.own i κ)) ⟨k,e⟩)<|ho⟩
 refine⟨F.fn,F.glob,F.bi,F.nodup,by refine eW lq ?_;exact F.len,iN,F.gl,F.cl,gY F.lN (Bi F.lN λκ q=>by exact Role.noConfusion q),?_,λj y sl hy eE hk=>?_,F.iU,F.code.imp id λq15=>xE q15 λq c=>⟨q,c.mono x.f⟩,λhm j y d hy eE=>?_⟩
 . (refine bS (F.loc) λm hm q=>?_)
   refine⟨m,hm,λj y sl hy eE hk=>?_⟩;by_cases hj:j=i
   . subst hj
     rw[ct hi]at eE;cases eE;exact here (q j y _ hy hs hk)
   . rw[b9 (d6 hj)]at eE
     exact other hj (q j y sl hy eE hk)
 . by_cases hj:j=i
   . subst hj
     rw[ct hi]at eE;cases eE
     (refine fo (F.pY j y _ hy hs hk) λsL c ov e1 e2 e3 e4 e5 e6=>?_)
     exact⟨sL,c,ov,e1,e2,here e3,gY e4 (Bi e4 λκ q=>by simp[Slot.writable]at q),e5,λ_=>e6 rfl⟩
   . rw[b9 (d6 hj)]at eE
     (refine fo (F.pY j y sl hy eE hk) λsL c ov e1 e2 e3 e4 e5 e6=>?_)
     refine⟨sL,c,ov,e1,e2,other hj e3,?_,e5,e6⟩;induction hw:sl.writable using ax with
     |true=>rw[hw,if_pos rfl]at e4;exact eW (if_pos rfl)<|gY e4 (Bi e4 λκ q=>by exact Role.noConfusion q)
     |false=>rw[hw,if_neg ay]at e4;exact eW (if_neg ay)<|tP e4
 . by_cases hj:j=i
   . subst hj
     rw[ct hi]at eE;cases eE
   . rw[b9 (d6 hj)]at eE
     (refine gf (F.ro hm j y d hy eE) λc o h1 h2=>?_)
     exact⟨c,o,h1,x.f _ _ h2⟩
open Classical in
theorem Ze{b:List bU}{r:IB}(hb:qK C bp N k sc ns b r):qK C bp N k sc ns b (.cons (.fz i) r):=λG O env A s fr wl fl cH bQ q H=>ob q λy q1 q=>Am q1 λt h1 q1=>
 have hs:fr[i]?=some (.own t):=ob h1 λsl g1 g2=>(Slot.vr (P:=λsl=>fr[i]?=some sl->_) g2 λg=>g) g1
 xA (TA (P:=λa=>∃κ,O a=some (Role.own i κ)) H.W H.F.iN λa h=>xE h λκ e=>⟨_,e,nofun⟩) λW' X=>cX (hb _ _ env A s _ wl fl cH bQ (by rw[<-ag q1]at q;exact q) ⟨H.base,H.room,W',H.F.Tw hs⟩) λf bZ h=>h.after X
theorem cJ.V1{c:aO}(F:cJ C G O sc ns env fr h)(hx:ns[i]?=some x)(hs:fr[i]?=some (.val d))(hk:env.kindOf x≠some .local)(hc:env.cells.lookup x=some c)(qW:h.IsCell c ov)(hO:O c=some (.cell x))
 [DecidablePred λa=>a=c]:cJ C (G.with h λa=>a=c) (frozen O λa=>a=c) sc ns env (fr.set i (.ro d)) h:=by
 have hP:∀a,a=c->∃r,O a=some r/\r≠.kj:=λa e=>⟨_,e▸hO,by intro e;exact Role.noConfusion e⟩
 have xe:=rM (P:=λa=>a=c) F.iN hP
 have hi:i<fr.length:=by
  induction q:decide (i<fr.length)using ax with
  |true=>exact of_decide_eq_true q
  |false=>rw[ba (bu (of_decide_eq_false q))]at hs;exact nn hs
 have Bi:∀{b:aO}{r:Role},O b=some r->r≠.cell x->¬b=c:=λe n e'=>by rw[e',hO]at e;cases e;exact n rfl
 have iN:∀b r,frozen O (λa=>a=c) b=some r->(G.with h λa=>a=c).F b=none/\eQ C (G.with h λa=>a=c) b/\∃o,h.get? b=some o:=λb r e=>by
  (refine xA (lg e) λe1 e2=>?_)
  (refine jP (F.iN b r e1) λh1 h2 h3=>?_)
  exact⟨by exact eW (d8 (P:=λa=>a=c) e2)<|h1,h2,h3⟩
 have other:∀{j:Nat}{sl:Slot}{ov:Option aB},cT C G O h j sl ov->cT C (G.with h λa=>a=c) (frozen O λa=>a=c) h j sl ov:=λ{j sl ov} S=>by
  refine S.ghost xe (λa r e hk=>?_) λa r e=>(lg e).1
  have e':=gY (P:=λa=>a=c) e (Bi e λq=>by
   rcases hk with rfl|⟨k,rfl⟩<;>cases q)
  exact⟨e',(iN a r e').1,(iN a r e').2.1⟩
 refine⟨F.fn,F.glob,F.bi,F.nodup,by refine eW lq ?_;exact F.len,iN,F.gl,F.cl,gY F.lN (Bi F.lN λq=>by exact Role.noConfusion q),?_,λj y sl hy eE sL=>?_,F.iU,F.code.imp id λq16=>xE q16 λq c=>⟨q,c.mono xe.f⟩,λhm j y d' hy eE=>?_⟩
 . (refine bS (F.loc) λm hm q=>?_)
   refine⟨m,hm,λj y sl hy eE ud=>?_⟩
   have hj:j≠i:=λe=>by subst e;rw[hx]at hy;cases hy;exact hk ud
   rw[b9 (d6 hj)]at eE;exact other (q j y sl hy eE ud)
 . by_cases hj:j=i
   . subst hj
     rw[hx]at hy;cases hy;rw[ct hi]at eE;cases eE
     (refine fo (F.pY j x _ hx hs hk) λZ1 c' Zs e1 e2 e3 e4 e5 e6=>?_)
     rw[hc]at e1;cases e1
     (refine bS (other e3) λw q17=>?_;subst q17;intro R)
     exact⟨Z1,c,_,hc,e2,⟨w,rfl,R⟩,by simp[frozen,Slot.writable],e5,λq=>by exact ff q⟩
   . rw[b9 (d6 hj)]at eE
     (refine fo (F.pY j y sl hy eE sL) λZ1 c' Zs e1 e2 e3 e4 e5 e6=>?_)
     refine⟨Z1,c',Zs,e1,e2,other e3,?_,e5,e6⟩
     have BL:y≠x:=λe=>hj (vD F.nodup hx (e▸hy));induction hw:sl.writable using ax with
     |true=>rw[hw,if_pos rfl]at e4;exact eW (if_pos rfl)<|gY e4 (Bi e4 λq=>by cases q;exact BL rfl)
     |false=>rw[hw,if_neg ay]at e4;exact eW (if_neg ay)<|tP e4
 . by_cases hj:j=i
   . subst hj
     rw[hx]at hy;cases hy
     (refine bS qW ?_;clear qW;intro o ho _)
     exact⟨c,o,hc,by exact eW (fS (P:=λa=>a=c) rfl)<|ho⟩
   . rw[b9 (d6 hj)]at eE
     (refine gf (F.ro hm j y d' hy eE) λc' o h1 h2=>?_)
     exact⟨c',o,h1,xe.f _ _ h2⟩
open Classical in
theorem Km(hc:∀i∈aX,∃x,ns[i]?=some x/\(sc.s.names.lookup x==some .cell)=true)(H:Here C G O sc ns env fr wl k A s):∃G' O',bW C G G' O O' s s/\Here C G' O' sc ns env (pK fr aX) wl k A s:=by
 induction aX using t_ generalizing fr G O with
 |nil=>exact⟨G,O,bW.refl C G O s,H⟩
 |cons i r ih=>
  have hr:∀j∈r,∃x,ns[j]?=some x/\(sc.s.names.lookup x==some .cell)=true:=λj hj=>hc j (aW _ hj)
  show∃G' O',bW C G G' O O' s s/\Here C G' O' sc ns env (((fr[i]?).bind Slot.val?).elim (pK fr r) λd=>pK (fr.set i (.ro d)) r) wl k A s;induction hv:(fr[i]?).bind Slot.val? using aA with
  |none=>exact ih hr H
  |some d=>
   have hs:fr[i]?=some (.val d):=ob hv λsl g1 g2=>(Slot.I8 (P:=λsl=>fr[i]?=some sl->_) g2 λg=>g) g1;refine bS (hc i a7) λx hx hl=>?_
   have Yj:env.kindOf x≠some .local:=(H.F.cl x (by exact eW hl rfl)).elim (λq=>q▸nofun) λq=>q▸nofun;refine fo (H.F.pY i x _ hx hs Yj) λ_ c ov e1 e2 e3 e4 e5 _=>?_;replace e4:O c=some (.cell x):=e4;refine xA (TA (P:=λa=>a=c) H.W H.F.iN λa e=>⟨.cell x,e▸e4,nofun⟩) λW' X=>?_;exact gf (ih hr (⟨H.base,H.room,W',H.F.V1 hx hs Yj e1 e2 e4⟩:Here C _ _ sc ns env (fr.set i (.ro d)) wl k A s)) λG' O' X' H'=>⟨G',O',X.trans X',H'⟩
theorem RZ{b:List bU}{r:IB}(hc:∀i∈aX,∃x,ns[i]?=some x/\(sc.s.names.lookup x==some .cell)=true)(hb:qK C bp N k sc ns b r):qK C bp N k sc ns b (.cons (.lock aX) r):=λG O env A s fr wl fl cH bQ q H=>
 gf (Km hc H) λG' O' X H'=>cX (hb _ _ env A s _ wl fl cH bQ q H') λf bZ h=>h.after X
end
section
variable {G0:Gh}
theorem s_{pos:dN}{f:aB}{xs:List EV}(hx:sc.s.names.lookup x=some .globalImplicit)(hd:(x==("__debug__":bB))=false)(hg:C.mg x=none)(hb:C.mb x=some f)
 (hf:∀a,f≠.ref a)(L:fO (dT C bp k sc ns) es il)(q:ou bp il fr wl=some (xs,bQ))(H:Here C G O sc ns env fr wl k A s)
 (h:∀vs G1 aM,Step C G G1 s aM->bz C G1 bQ aM.heap->uZ C G1 O s.heap aM.heap 0 vs xs->aJ C.M A (call f vs) Q E aM):aJ C.M A (eval (.Call (.Name x p) es [] pos) env) Q E s:=by
 have hev:eval (.Call (.Name x p) es [] pos) env=(do callWith pos (<-eval (.Name x p) env) [] (backTo pos (starEach es env)) (backToKw pos (keywordEach [] env))):=rfl;refine eW hev ?_;refine ai (x9 H.F.fn (H.F.gl x hx) (Calls.loadGlobal_builtin (by refine eW H.F.glob ?_;exact uJ H) hg (by exact eW H.F.bi<|Bh H) hb ?_) hd)
 (refine xA (pF (pos:=pos) (env:=env) L) λh1 h2=>?_)
 refine P4 (P:=λh=>ph C.M f h) (by refine eW h1 ?_;rfl) (λ_ p=>p) (sP L (dR (qx L G O env A s fr wl xs bQ pos 0 q H) (λvs aM q1=>dU q1 λG1 x1 W1 T=>?_) λ_ _ q=>q.elim));exact⟨zC hf,h vs G1 aM x1 W1 T⟩
theorem NB{pos:dN}{b:BI}{own:Bool}(hb:b≠.sorted)(hx:sc.s.names.lookup x=some .globalImplicit)(he:x=b.word)(hg:GT.lookup x=none)(L:fO (dT C bp k sc ns) es il):
 dT C bp k sc ns (.Call (.Name x p) es [] pos) (.bj b own il):=
 .mk' (λG O env A s fr wl e bQ q H=>f7 q λxs w1 q1 q=>tK (P:=λe bQ=>aJ C.M A _ (PE C G O s e bQ) ef s) q λy q2=>
  s_ hx (by subst he;induction b using BI.casesOn<;>decide+kernel) (by subst he;exact H.base.free b hg) (by subst he;exact H.base.bi b) (BI.EX b) L q1 H λvs G1 aM x1 W1 T=>cX (NX hb H.room.handled H.base W1 T q2) λv bZ h=>h.after x1) (λ_ _=>rfl) (λ_ _=>dg rfl) rfl
theorem qH{o:af}(h:k0 o=true)(env:qZ):attributeBase o x env (eval o env)=eval o env:=by induction o using bE<;>first|rfl|exact ff h
theorem Nu{o:af}{g:IE}{pos:dN}(ho:dT C bp k sc ns o g)(hs:k0 o=true)(hl:(p.endLine==pos.line)=true):dT C bp k sc ns (.Call (.Attribute o "strip" p) [] [] pos) (.eg .strip g .nil):=
 .mk' (λG O env A s fr wl e bQ q H=>f7 q λy w1 q1 q=>tK (P:=λe bQ=>aJ C.M A _ (PE C G O s e bQ) ef s) q λr q2=>ob q2 λt h1 q2=>dV q2 λhz q2=>by
  exact eL (ag q2)<|Call_method0 (qH hs env) hl (ho.run H q1 λv aM G1 x1 H1 R1=>yO R1 h1 λtk=>SB.strip (λt' k=>PE.after x1 (eP (e:=.fv _) k H1.W (Rep.str _ t'))) (kY hz.2))) (λ_ _=>rfl) (λ_ _=>dg rfl) rfl
theorem LV{i:Int}(h:eZ ds=some [i]):ds=[.int i]:=match ds,h with
 |d::r,h=>ob h λj h1 h=>Am h λjs h2 e=>FV.DZ (P:=λd=>d::r=[.int i]) h1 (match r,js,h2,ag e with
  |[],_,h2,e=>by cases h2;cases e;rfl
  |d::r,js,h2,e=>by cases e;exact ob h2 λ_ _ h=>Am h λ_ _ e=>nomatch e)
theorem Xa{ys:List EV}(h:xR ys=some [d]):ys=[.fv d]:=match ys,h with
 |y::r,h=>ob h λe h1 h=>Am h λes h2 q=>eh (P:=λy=>y::r=[.fv d]) h1 (match r,es,h2,ag q with
  |[],_,h2,q=>by cases h2;cases q;rfl
  |z::r,es,h2,q=>by cases q;exact ob h2 λ_ _ h=>Am h λ_ _ e=>nomatch e)
theorem Xj{P:List EV->EV->Prop}{x:EV}{ys:List EV}{r:EV}(h:Px x ys=some r)(k:∀i xs is,x.ei=some xs->eZ xs=some is->P [.fv (.int i)] (.fv (.int (is.count i)))):P ys r:=
 ob h λds h1 h=>ob h λjs h2 h=>ob h λxs h3 h=>ob h λis h4 h=>js.casesOn (motive:=λjs=>eZ ds=some js->(match js with|[i]=>some (EV.fv (.int (is.count i)))|_=>ab)=some r->P ys r) (λ_ h=>nn h)
  (λi js=>js.casesOn (motive:=λjs=>eZ ds=some (i::js)->(match(i::js:List Int)with|[i]=>some (EV.fv (.int (is.count i)))|_=>ab)=some r->P ys r) (λh2 h=>(Xa (h1.trans (congrArg some (LV h2)))).symm▸sk (P:=λr=>P _ r) h (k i xs is h3 h4)) λ_ _ _ h=>nn h) h2 h
theorem Pj{a:IE}{xs:List EV}(h:ou bp (.cons a .nil) fr wl=some (xs,bQ)):∃z,xs=[z]/\ev bp a fr wl=some (z,bQ):=
 f7 (ky.symm.trans h) λz w q1 h=>sp (P:=λxs bQ=>∃z,xs=[z]/\ev bp a fr wl=some (z,bQ)) h ⟨z,rfl,q1⟩
theorem Nz{o e1:af}{g a:IE}{pos:dN}(ho:dT C bp k sc ns o g)(ha:dT C bp k sc ns e1 a)(hs:k0 o=true)(hl:(p.endLine==pos.line)=true):dT C bp k sc ns (.Call (.Attribute o "count" p) [e1] [] pos) (.eg .count g (.cons a .nil)):=
 .mk' (λG O env A s fr wl e bQ q H=>f7 q λy w1 q1 q=>f7 q λxs w2 q2 q=>tK (P:=λe bQ=>aJ C.M A _ (PE C G O s e bQ) ef s) q λr q3=>by
  refine(Xj (P:=λxs r=>ou bp (.cons a .nil) fr w1=some (xs,w2)->aJ C.M A _ (PE C G O s r w2) ef s) q3 λi xs is hx q4 q2=>?_) q2
  have q2:ev bp a fr w1=some (.fv (.int i),w2):=bS (Pj q2) λz e h=>(aK e).1▸h;refine IF (qH hs env) hl (by refine eW (mG ha.star) ?_;rfl) (ho.run H q1 λv aM G1 x1 H1 R1=>?_);refine jO (zB H1.W R1 hx) λl vs n hv h1 r1=>?_;subst hv;refine⟨_,_,ja,PySem.F.slot_list_count,PySem.F.type_list_count,⟨_,h1,rfl⟩,(λb eb=>by cases eb;exact⟨_,h1,rfl⟩),oq rfl (qf (rX (ha.run H1 q2 λu bZ G2 x2 H2 R2=>mC ?_)))⟩;refine uc R2 λt=>?_
  (refine jO (zB H2.W (R1.step x2) hx) λl' Cy n' e CB r1'=>?_)
  cases e;exact count_list_ints ⟨_,CB,rfl,n',rfl⟩ (fE r1' q4) (PE.after (x1.trans x2) (eP (e:=.fv _) _ H2.W (Rep.int _ _)))) (λ_ _=>rfl) (λ_ _=>dg rfl) rfl
theorem nV.step(x:Step C G G' s s'){e:EV}(y:nV C G O bq s.heap i v e):nV C G' O bq s'.heap i v e:=match e,y with
 |.fv _,y=>Rep.mono x.ext y
 |.bor _,y=>xE y λρ q=>⟨ρ,dO.step x q⟩
 |.own t,y=>dO.step x (show dO C G bq s.heap (λk=>some (.own i k)) v t from y)
theorem dC.step(x:Step C G G' s s'){es:List EV}(y:dC C G O bq s.heap i vs es):dC C G' O bq s'.heap i vs es:=y.ind (λ_=>trivial) λ_ _ _ _ _ y _ ih=>⟨nV.step x y,ih⟩
theorem nU.step(x:Step C G G' s s')(m:nU C G h₀ s.heap i bq):nU C G' h₀ s'.heap i bq:=λa r e=>
 let⟨h1,h2,h3,h4,o,h5⟩:=m a r e
 ⟨h1,h2,x.An h3 h5,x.free h4 h5,o,x.keep _ _ h4 h5⟩
noncomputable def QC(x:EV):Bool:=x.casesOn (λ_=>false) (λ_=>true) λ_=>false
theorem VF{e:EV}(h:e.Df=some sl):sl=e.slot/\∀t,e≠.bor t:=
 e.casesOn (motive:=λe=>e.Df=some sl->sl=e.slot/\∀t,e≠.bor t) (λ_ h=>⟨(ag h).symm,λ_ h=>ff (congrArg QC h)⟩) (λ_ h=>nn h) (λ_ h=>⟨(ag h).symm,λ_ h=>ff (congrArg QC h)⟩) h
theorem AW{es:List EV}:∀{fr cH:List Slot},jR fr is es=some cH->oh fr is (es.map EV.slot)=some cH/\∀e∈es,∀t,e≠.bor t:=
 l2 (P:=λis es=>∀{fr cH:List Slot},jR fr is es=some cH->oh fr is (es.map EV.slot)=some cH/\∀e∈es,∀t,e≠.bor t) is es (λq=>⟨q,λ_ h=>absurd h a8⟩)
  (λi is e es ih _ _ q=>ob q λsl h0 q=>ob q λf9 h1 h2=>xA (ih h2) λh3 h4=>xA (VF h0) λb1 b2=>⟨bs (b1▸h1) h3,λz hz t=>(a6.mp hz).elim (λe'=>e'▸b2 t) λhz=>h4 z hz t⟩) (λ_ _ _ _ q=>nn q) (λ_ _ _ _ q=>nn q)
theorem M8{full:List Nat}{e:EV}(h1:full[j]?=some i)(hn:∀t,e≠.bor t)(y:nV C G O bq h j v e):cT C G (oo O bq full) h i e.slot (some v)/\e.slot.writable=true:=
 e.casesOn (motive:=λe=>(∀t,e≠.bor t)->nV C G O bq h j v e->cT C G (oo O bq full) h i e.slot (some v)/\e.slot.writable=true) (λd _ y=>⟨⟨v,rfl,y⟩,rfl⟩) (λt hn _=>absurd rfl (hn t))
  (λt _ y=>⟨⟨v,rfl,dO.relabel (λa k e=>by
    unfold oo;refine eW e ?_
    show some (Role.own (full.getD j 0) k)=some (.own i k);refine eW mf<|eW h1 ?_;rfl) (show dO C G bq h (λk=>some (.own j k)) v t from y)⟩,rfl⟩) hn y
theorem M7{full:List Nat}{es:List EV}(hd:is=full.drop j)(hl:is.length=es.length)(hn:∀e∈es,∀t,e≠.bor t)(y:dC C G O bq h j vs es):Vals C G (oo O bq full) h is vs (es.map EV.slot):=
 y.ind (P:=λj vs es=>∀is,is=full.drop j->is.length=es.length->(∀e∈es,∀t,e≠.bor t)->Vals C G (oo O bq full) h is vs (es.map EV.slot)) (λ_ is _ hl _=>xn hl▸trivial)
  (λj v vs e es y _ ih is=>is.casesOn (λ_ hl=>nomatch hl) λi is hd hl hn=>xA (drop_cons hd.symm) λh1 h2=>xA (M8 h1 (hn e a7) y) λa b=>⟨a,b,ih is h2.symm (kM hl) λe he=>hn e (aW _ he)⟩) is hd hl hn
theorem zi{f9 sN:List Slot}{x y:Slot}(hn:i≠j)(h1:setSlot fr i x=some f9)(h2:setSlot f9 j y=some sN):∃fr3,setSlot fr j y=some fr3/\setSlot fr3 i x=some sN:=by
 (refine dU (set_slot h1) λo1 a1 a2 q3=>?_;subst q3)
 (refine dU (set_slot h2) λo2 b1 b2 q4=>?_;subst q4)
 rw[b9 hn]at b1
 have mk:∀{f:List Slot}{i:Nat}{o x:Slot},f[i]?=some o->o.writable=true->setSlot f i x=some (f.set i x):=λ{f i o x} e w=>by
  unfold setSlot;refine eW e ?_;induction o using Slot.casesOn<;>first|rfl|exact ff w
 refine⟨_,mk b1 b2,?_⟩;rw[mk (by rw[b9 (d6 hn)];exact a1) a2,List.set_comm _ _ hn]
theorem ym:∀{is:List Nat}{gU:List Slot}{fr cH:List Slot}{i:Nat}{x:Slot},is.length=gU.length->oh fr (is++[i]) (gU++[x])=(oh fr is gU).bind λf=>setSlot f i x
 |[],[],fr,cH,i,x,_=>by
  simp only[lp,oh,bJ];induction setSlot fr i x using aA<;>rfl
 |j::is,y::gU,fr,cH,i,x,hl=>by
  show(setSlot fr j y).bind (λf=>oh f (is++[i]) (gU++[x]))=((setSlot fr j y).bind λf=>oh f is gU).bind _;induction setSlot fr j y using aA with
  |none=>rfl
  |some f=>exact ym (cH:=cH) (by simpa using hl)
 |[],_::_,_,_,_,_,hl=>by simp at hl
 |_::_,[],_,_,_,_,hl=>by simp at hl
theorem GP{f9 sN:List Slot}{x:Slot}(hn:i∉is)(h1:setSlot fr i x=some f9)(h2:oh f9 is gU=some sN):∃f,oh fr is gU=some f/\setSlot f i x=some sN:=
 l2 (P:=λis gU=>∀fr f9,i∉is->setSlot fr i x=some f9->oh f9 is gU=some sN->∃f,oh fr is gU=some f/\setSlot f i x=some sN) is gU (λfr _ _ h1 h2=>⟨fr,rfl,h1.trans h2⟩)
  (λj is y gU ih fr f9 hn h1 h2=>bS (jf.mp h2) λg h3 h4=>bS (zi (λe=>hn (by exact eW e a7)) h1 h3) λg3 h5 h6=>bS (ih _ _ (λe=>hn (aW _ e)) h6 h4) λf h7 h8=>
    ⟨f,bs h5 h7,h8⟩) (λ_ _ _ _ _ _ h2=>nn h2) (λ_ _ _ _ _ _ h2=>nn h2) fr f9 hn h1 h2
theorem AX:∀{is:List Nat}{gU:List Slot}{fr cH:List Slot},is.Nodup->oh fr is gU=some cH->oh fr is.reverse gU.reverse=some cH
 |[],[],_,_,_,h=>h
 |i::is,x::gU,fr,cH,nd,h=>by
  (refine xA (ck.mp nd) λn1 n2=>?_)
  (refine bS (jf.mp h) λg h1 h2=>?_)
  (refine bS (GP n1 h1 h2) λf h3 h4=>?_)
  rw[dX,dX,ym (cH:=cH) (by rw[iP,iP];exact oH h2),AX n2 h3];exact h4
 |[],_::_,_,_,_,h=>by exact nn h
 |_::_,[],_,_,_,h=>by exact nn h
theorem Vals.append{js:List Nat}{tls:List Slot}(y:Vals C G O h is vs gU)(z:Vals C G O h js us tls):Vals C G O h (is++js) (vs++us) (gU++tls):=y.ind z λ_ _ _ _ _ _ a b _ ih=>⟨a,b,ih⟩
theorem Vals.rev(y:Vals C G O h is vs gU):Vals C G O h is.reverse vs.reverse gU.reverse:=
 y.ind trivial λ_ _ _ _ _ _ a b _ ih=>dX.symm▸dX.symm▸dX.symm▸ih.append ⟨a,b,trivial⟩
theorem eJ.append:∀{is js:List Nat}{ts us:List (aB->Sem Unit)},eJ C env ns is ts->eJ C env ns js us->eJ C env ns (is++js) (ts++us)
 |[],_,[],_,_,y=>y
 |_::_,_,_::_,_,x,y=>⟨x.1,eJ.append x.2 y⟩
theorem eJ.rev:∀{is:List Nat}{ts:List (aB->Sem Unit)},eJ C env ns is ts->eJ C env ns is.reverse ts.reverse
 |[],[],_=>trivial
 |i::is,t::ts,x=>by
  exact eW dX<|eW dX<|(eJ.rev x.2).append ⟨x.1,trivial⟩
end
section
variable {G0:Gh}
theorem filter_le{f:af->Option bB}:∀es:List af,(es.filterMap f).length<=es.length
 |[]=>aT _
 |e::es=>by
  refine eW lI ?_
  have:=filter_le (f:=f) es;induction f e using aA<;>simp<;>omega
theorem yp{f:af->Option bB}(hf:∀e y,f e=some y->∃p,e=.Name y p):∀{is:List Nat}{es:List af},ly ns is es=true->
 (es.filterMap f).length=es.length->eJ C env ns is ((es.filterMap f).map λn=>bindName env n)
 |[],es,h,_=>l0 h trivial
 |i::is,es,h,hn=>BM (P:=λes=>(es.filterMap f).length=es.length->eJ C env ns (i::is) ((es.filterMap f).map λn=>bindName env n)) h (λe es h hn=>an h λh1 h2=>by
  have hle:=filter_le (f:=f) es;rw[lI]at hn⊢;induction e':f e using aA with
  |none=>rw[e']at hn;exact absurd (ak (bh hn.symm) hle) (qR _)
  |some y=>
   rw[e']at hn
   (refine xE (hf e y e') λp q1=>?_;subst q1)
   exact⟨⟨y,eq_of_beq h1,AM⟩,yp hf h2 (kM hn)⟩) hn
theorem CX{vs:List af}{n n':Nat}{p':dN}(ha:ly ns is es=true)
 (hc:vs.all (constantsAlone 8)=false\/vs.all (foldedForSure 8)=true):
 swappedStores [.Tuple es n p] (.Tuple vs n' p') env=pure none\/∃names,swappedStores [.Tuple es n p] (.Tuple vs n' p') env=pure (some names)/\names.length=es.length/\eJ C env ns is (names.map λn=>bindName env n):=by
 unfold swappedStores;dsimp only;split
 . exact .inl rfl
 . split
   . exact .inl rfl
   split
   . exact .inl rfl
   . rename_i hN
     split
     . exact .inl rfl
     . rename_i hF
       rcases hc with hc|hc
       . refine eW hc ?_
         simp only[ey,if_false];simp only[gO,bne_iff_ne,ne_eq,not_or,Decidable.not_not]at hN;exact .inr ⟨_,rfl,hN.1,yp (λe y q=>by
          induction e using bE<;>simp only[reduceCtorEq]at q;split at q
          . cases q;exact⟨_,rfl⟩
          . exact nn q) ha hN.1⟩
       . exact absurd hc hF
theorem Nv{vs:List af}{n n':Nat}{p' pos:dN}(ht:cY ns (.Tuple es n p) is=true)(nd:is.Nodup)(L:fO (dT C bp k sc ns) vs il)(hv:vs.length=es.length)(hv2:vs.length<1000)
 (hc:vs.all (constantsAlone 8)=false\/vs.all (foldedForSure 8)=true):jy C bp N k sc ns (.Assign [.Tuple es n p] (.Tuple vs n' p') pos) (.jm is il):=λG O env A s fr wl fl cH bQ q H=>f7 q λxs w1 q1 q=>MD q λsN q2=>by
 refine jP (kf (C:=C) (env:=env) (g_ ht).2) λT1 T2 T3=>xA (AW q2) λqS qb=>?_
 have hls:=oH qS;rw[aj]at hls
 have O7:=sv (g_ ht).2
 have vals:∀{Q:aB->aN->Prop},(∀nX(bZ:aN) tv tn G1 O',tv=.ref tn->bZ.heap.get? tn=some {cls:=.type "tuple",data:=.seq nX.toArray 0}->nX.length=is.length->bW C G G1 O O' s bZ->bz C G1 w1 bZ.heap->cJ C G1 O' sc ns env fr bZ.heap->
  Vals C G1 O' bZ.heap is nX (xs.map EV.slot)->Q tv bZ)->aJ C.M A (eval (.Tuple vs n' p') env) Q ef s:=λ{Q} hQ=>by
  refine eW (aaV ..) ?_;refine ai (b_ (ai (cX (qx L G O env A s fr wl xs w1 p' 0 q1 H) λnX aM r=>dU r λG1 x1 W1 r=>bS r λbq m R=>?_)))
  have hl2:=R.length
  have hl:=qE L q1
  have x2:Step C G1 G1 aM {aM with heap:=aM.heap.push {cls:=.type "tuple",data:=.seq nX.toArray 0}}:=.grow _ aM.toks (cO _)
  have m2:nU C G1 s.heap _ 0 bq:=nU.step x2 m;refine aaP (hQ nX _ _ _ G1 (oo O bq is) rfl (hH rfl) (by lia) (rn (x1.trans x2) m2) (W1.grow (cO _)) (H.F.zA (x1.trans x2) m2) (M7 (j:=0) rfl hls qb (R.step x2))) (by refine eW dp ?_;lia)
 rcases CX (C:=C) (ns:=ns) (n:=n) (n':=n') (p:=p) (p':=p') (env:=env) (g_ ht).2 hc with hw|⟨names,hw,hn,hN⟩
 . refine Ml (vals λnX bZ tv tn G1 O' ev ho hl X W F V=>?_) rfl hw
   subst ev;refine nS (items:=nX.toArray) H.room.handled ⟨_,ho,rfl,0,rfl⟩ (by refine eW T3<|eW cg ?_;lia) T2 λh' hx=>?_
   have k2:∀b o,bZ.heap.get? b=some o->h'.get? b=some o:=λb o e=>hx b o (bx (bb e)) e
   have x3:Step C G1 G1 bZ {bZ with heap:=h'}:=.grow h' bZ.toks k2;exact cX (pD is _ _ _ fr sN _ (X.trans x3.o) (W.grow k2) (F.step x3) T1 (V.move λa r _ _ o e=>k2 a o e) qS) λ_ s' h=>h.next
 . refine Assign_Tuple_swapped (vals λnX bZ tv tn G1 O' ev ho hl X W F V=>?_) rfl hw
   subst ev;refine eW hn<|eW O7<|eL hl<|eW (show nX.length=nX.toArray.size from(cg (as:=nX)).symm) ?_;refine unpackItems_tuple H.room.handled ⟨_,ho,rfl,0,rfl⟩ λh' hx=>?_
   have k2:∀b o,bZ.heap.get? b=some o->h'.get? b=some o:=λb o e=>hx b o (bx (bb e)) e
   have x3:Step C G1 G1 bZ {bZ with heap:=h'}:=.grow h' bZ.toks k2
   have hT:=hN.rev;rw[<-MT]at hT;exact cX (pD is.reverse _ _ _ fr sN _ (X.trans x3.o) (W.grow k2) (F.step x3) hT (V.move λa r _ _ o e=>k2 a o e).rev (AX nd qS)) λ_ s' h=>h.next
end
section
variable {G0:Gh}
theorem cJ.oV{P:aO->Prop}(F:cJ C G O sc ns env fr h)(n:∀a,P a->O a=none)(nc:∀a,P a->∀(j:Nat)(y:bB),ns[j]?=some y->env.kindOf y≠some .local->env.cells.lookup y≠some a)(k:∀b,¬P b->c8 h h' b):cJ C G O sc ns env fr h':=
 have kO:∀{b:aO}{r:Role},O b=some r->c8 h h' b:=λe=>k _ λq=>gone (n _ q) e
 {F with
  iN:=λb r e=>mF (F.iN b r e) λh1 h2 o h3=>⟨h1,h2,o,kO e _ h3⟩
  loc:=bS F.loc λm hm q=>⟨m,hm.at' (kO F.lN),λi x s e1 e2 e3=>(q i x s e1 e2 e3).move λb r e _=>⟨e,kO e⟩⟩
  pY:=λi x s e1 e2 e3=>xA (F.pY i x s e1 e2 e3) λhk q=>iR q λc ov q1 q2 q3 q=>⟨hk,c,ov,q1,bS q2 λoc q2 Zn=>⟨oc,k c (λq=>nc c q i x e1 e3 q1) _ q2,Zn⟩,q3.move λb r e _=>⟨e,kO e⟩,q⟩}
theorem bz.oV{P:aO->Prop}(W:bz C G wl h)(f:∀a,P a->G.F a=none)(fr:∀a,P a->eQ C G a)(k:∀b,¬P b->c8 h h' b):bz C G wl h' where
 sub:=λb o e=>k b (λq=>gone (f b q) e) _ (W.sub b o e)
 base:=W.base
 tabs:=λq hq=>qk (W.tabs q hq) λh1 h2 ps h3 r=>⟨h1,h2,ps,k _ (λhp=>(fr _ hp).1 q hq rfl) _ h3,r⟩
 well:=W.well.loose λb e=>k b λq=>(fr _ q).2 e
theorem bW.oV{P:aO->Prop}{t:Nat}(x:bW C G G' O O' s s')(n:∀a,P a->s.heap.get? a=none)(k:∀b,¬P b->c8 s'.heap h' b):bW C G G' O O' s {s' with heap:=h',toks:=t}:=
 {x with
  keep:=λb o f hn e=>k b (λq=>gone (n b q) e) _ (x.keep b o f hn e)
  alive:=λb o e=>xE (x.alive b o e) λo' e'=>⟨o',k b (λq=>gone (n b q) e) _ e'⟩}
theorem GW{k1:Nat}{q1 q2 pos:dN}{b:List bU}{a:IE}{x:IB}(ht:cY ns (.Tuple es k1 p) [i,j]=true)
 (hx:sc.s.names.lookup (aa "enumerate")=some .globalImplicit)(hi:dT C bp k sc ns it a)(hb:qK C bp N k sc ns b x):
 jy C bp N k sc ns (.For (.Tuple es k1 p) (.Call (.Name (aa "enumerate") q1) [it] [] q2) b [] pos) (.kS i j a x):=λG O env A s fr wl fl cH bQ q H=>f7 q λy w1 q1 q=>ob q λxs q2 q3=>by
 have qe:ev bp a fr wl=some (.fv (.list xs),w1):=ob q2 λCw h1 h2=>zY h2 λ_ e=>e▸ob h1 λd g1 g2=>(eh (P:=λy=>ev bp a fr wl=some (y,w1)->_) g1 (FV.xD (P:=λd=>ev bp a fr wl=some (.fv d,w1)->_) g2 λh=>h)) q1;clear q q1 q2;refine jP (kf (C:=C) (env:=env) (g_ ht).2) λT1 T2 T3=>xA H.base.enum λTi D3=>?_
 have O7:=sv (g_ ht).2;refine wpAny_For (s_ hx (by decide+kernel) Ti D3 nofun (il:=.cons a .nil) ⟨hi,trivial⟩ (xs:=[.fv (.list xs)]) (bQ:=w1) (ky.trans (bs qe (ms FX))) H λvs G1 aM x1 W1 T=>fv1 T λv R=>?_) (λ_=>rfl)
 have F1:=H.F.step x1;refine jO R.inv λl us n hv hl R1=>?_;subst hv
 have hl1:=W1.sub _ _ hl
 have hlen:=R1.length;refine call_enumerate_1 hl1 λh' hE hI QF k1=>?_;refine wpAny_pyIter_enum hE ?_
 have x2:Step C G1 G1 aM {aM with heap:=h'}:=.grow h' aM.toks k1
 have Zw:∀{c:aO},aM.heap.objs.size<=c->aM.heap.get? c=none:=λ{c} hc=>by
  induction q:aM.heap.get? c using aA with
  |none=>rfl
  |some o=>exact absurd (bb q) (cV.mpr hc)
 generalize hA1:aM.heap.objs.size=n0 at*
 have hEI:n0+1≠n0:=Nat.succ_ne_self _
 have nP:∀c,(c=n0+1\/c=n0)->aM.heap.get? c=none:=λc hc=>Zw (by rcases hc with rfl|rfl<;>lia)
 have n00:∀c,(c=n0+1\/c=n0)->s.heap.get? c=none:=λc hc=>by
  induction q:s.heap.get? c using aA with
  |none=>rfl
  |some o'=>(refine xE (x1.alive _ _ q) λo2 h2=>?_);rw[nP c hc]at h2;exact nn h2
 have nc:∀c,(c=n0+1\/c=n0)->∀(j:Nat)(y:bB),ns[j]?=some y->env.kindOf y≠some .local->env.cells.lookup y≠some c:=λc hc=>F1.mS (nP c hc)
 have mkL:∀c,(c=n0+1\/c=n0)->(∃o,h'.get? c=some o)->Loose C G1 O h' c:=λc hc ho=>⟨kh W1 (nP c hc),gw W1 (nP c hc),(by
  induction q:O c using aA with
  |none=>rfl
  |some r=>(refine mF (F1.iN _ _ q) λ_ _ o' pX=>?_);rw[nP c hc]at pX;exact nn pX),ho⟩
 have L1:=mkL (n0+1) (.inl rfl) ⟨_,hE⟩
 have L2:=mkL n0 (.inr rfl) (bS (hI) λo ho _=>⟨o,ho⟩);refine Rf (L8 C G O sc ns env s λG' O' s' m Ia=>∃t rest old,m=rest.length/\xs.drop t=rest/\Ext G1 G'/\IsEnum s'.heap (n0+1) n0 ((t:Nat):Int) old/\s'.heap.IsListIter n0 l t/\Loose C G' O' s'.heap (n0+1)/\Loose C G' O' s'.heap n0/\
  K9 (λ(wV:St) n v=>(ez wV.1 [i,j] [.int n,v]).bind λfr=>hX bp N x (fr,wV.2)) rest t Ia=some (fl,cH,bQ)) (λm s' h=>?_) xs.length
  ⟨G1,O,fr,w1,(x1.trans x2).o,W1.grow k1,F1.step x2,0,xs,.none,rfl,rfl,.refl G1,hE,hI,L1,L2,q3⟩
 refine jG h λG' O' gX jk h=>fA h λX W F h=>Ax h λt rest old h=>fA h λhm hd xe h=>kI h λhE' QP US UR q=>?_;subst hm
 have Yi:s'.heap.IsList l us.toArray:=⟨_,W.sub _ _ (xe.f _ _ hl),rfl,n,rfl⟩
 have nO:∀c,(c=n0+1\/c=n0)->O' c=none:=λc hc=>by rcases hc with rfl|rfl;exact US.own;exact UR.own
 have nF:∀c,(c=n0+1\/c=n0)->G'.F c=none:=λc hc=>by rcases hc with rfl|rfl;exact US.f;exact UR.f
 have nFr:∀c,(c=n0+1\/c=n0)->eQ C G' c:=λc hc=>by rcases hc with rfl|rfl;exact US.free;exact UR.free
 induction rest using bP with
 |nil=>
  refine xo q ?_
  have hn:us.toArray[t]?=none:=by
   have:=qt.mp hd;simp;lia
  refine wpAny_pyNext_enum_end H.room.handled hE' QP Yi hn λwh hx2=>Cn ?_
  have k:∀b,¬(b=n0+1\/b=n0)->c8 s'.heap wh b:=λb q o e=>hx2 b o (λq2=>q (.inr q2)) e;exact⟨G',O',X.oV n00 k,W.oV nF nFr k,F.oV nO nc k,trivial⟩
 |cons d rest=>
  refine xA (drop_cons hd) λg1 g2=>bS (R1.get g1) λw g3 g4=>f7 q λf1 y q5 q6=>ob q5 λwq q4 q5=>?_;refine wpAny_pyNext_enum_item hE' QP Yi (by simpa using g3) hEI λkq hEo QO hT abv k₁=>?_;refine wpAny_letOwnedTupleGo_enum hEo λwh QR Js=>?_
  have k:∀b,¬(b=n0+1\/b=n0)->c8 s'.heap wh b:=λb q o e=>(Js.2 b λe=>q (.inl e)).trans (k₁ b o (λe=>q (.inl e)) (λe=>q (.inr e)) e)
  have BL:s'.heap.objs.size≠n0+1:=e_ (bb hE')
  have WQ:wh.IsTuple s'.heap.objs.size #[.int t s'.toks,w]:=⟨_,(Js.2 _ BL).trans hT,rfl,_,rfl⟩
  have XO:wh.IsListIter n0 l (t+1):=by
   (refine bS QO ?_;clear QO;intro o ho r)
   exact⟨o,(Js.2 _ (d6 hEI)).trans ho,r⟩
  have X1:=X.oV (t:=s'.toks+1) n00 k
  have W1':=W.oV nF nFr k
  have F1':=F.oV nO nc k;refine nS (items:=#[.int t s'.toks,w]) H.room.handled WQ (by refine eW T3 ?_;rfl) T2 λwg Wo=>?_
  have k3:∀b o,wh.get? b=some o->wg.get? b=some o:=λb o e=>Wo b o (bx (bb e)) e
  have x3:Step C G' G' {s' with heap:=wh,toks:=s'.toks+1} {s' with heap:=wg,toks:=s'.toks+1}:=.grow wg (s'.toks+1) k3
  have V:Vals C G' O' wg [i,j] [.int t s'.toks,w] ([FV.int t,d].map .val):=za rfl (.cons (.int _ _) (.one (g4.mono xe)))
  have L1a:Loose C G' O' wg (n0+1):=⟨US.f,US.free,US.own,_,k3 _ _ QR⟩
  have L2a:Loose C G' O' wg n0:=⟨UR.f,UR.free,UR.own,(bS (XO) λo ho _=>⟨o,k3 _ _ ho⟩)⟩;refine cX (pD (E:=ef) [i,j] _ _ _ gX wq {s' with heap:=wg,toks:=s'.toks+1} (bW.refl C G' O' _) (W1'.grow k3) (cJ.step x3 F1') T1 V (by refine eL nk ?_;exact q4)) λ_ et h=>cM h λG3 O3 X3 W3 F3=>?_;refine PS.to (hb G3 O3 env A et wq jk f1 y.1 y.2 q5 (H.next W3 F3)) λf lM G4 O4 X4 W4 F4 hf=>?_
  have X5:=X3.trans X4
  have L1b:=L1a.step (s:={s' with heap:=wg,toks:=s'.toks+1}) X5
  have L2b:=L2a.step (s:={s' with heap:=wg,toks:=s'.toks+1}) X5
  have hE4:IsEnum lM.heap (n0+1) n0 ((t+1:Nat):Int) w:=L1a.same (s:={s' with heap:=wg,toks:=s'.toks+1}) X5 _ (k3 _ _ QR)
  have hI4:lM.heap.IsListIter n0 l (t+1):=bS (XO) λo ho r=>⟨o,L2a.same (s:={s' with heap:=wg,toks:=s'.toks+1}) X5 _ (k3 _ _ ho),r⟩
  have XX:=(X1.trans x3.o).trans X5;exact zX hf q6 (λq6=>⟨rest.length,bg _,G4,O4,y.1,y.2,XX,W4,F4,t+1,rest,_,rfl,g2,xe.trans X5.ext,hE4,hI4,L1b,L2b,q6⟩) (λq6=>⟨rest.length,bg _,G4,O4,y.1,y.2,XX,W4,F4,t+1,rest,_,rfl,g2,xe.trans X5.ext,hE4,hI4,L1b,L2b,q6⟩) λd' v hf q6=>xo q6 ⟨G4,O4,XX,W4,F4,hf⟩
end
section
variable {G0:Gh}
theorem Ei{names:List (bB×lT)}:∀(acc:List (bB×aO)),(∀p∈names,p.2=.free->∃c,env.cells.lookup p.1=some c)->
 ∃cl,(forIn names acc λ(p:bB×lT)(cs:List (bB×aO))=>(if(p.2==.free)=true then do let c<-cellOf env p.1;pure (fh ((p.1,c)::cs))else pure (fh cs):Sem _))=pure (cl++acc)/\
  (∀p∈cl,(p.1,iy)∈names/\env.cells.lookup p.1=some p.2)/\∀p∈names,p.2=.free->∃c,(p.1,c)∈cl:=by
 induction names with
 |nil=>intro acc _;exact⟨[],rfl,λ_ h=>(nomatch h),λ_ h=>(nomatch h)⟩
 |cons q r ih=>
  intro acc hc
  have hr:∀p∈r,p.2=.free->∃c,env.cells.lookup p.1=some c:=λp hp=>hc p (aW _ hp);by_cases hq:q.2=.free
  · (refine xE (hc q a7 hq) λc hcc=>?_)
    (refine dU (ih ((q.1,c)::acc) hr) λcl h1 h2 h3=>?_)
    refine⟨cl++[(q.1,c)],?_,λp hp=>?_,λp hp hf=>?_⟩
    . rw[jg,if_pos (by rw[hq];rfl)]
      have O8:cellOf env q.1=pure c:=by unfold cellOf;exact eW hcc rfl
      refine eW O8 ?_;simp only[pure_bind];exact eW h1<|eW (gZ ..) rfl
    . rcases cp.mp hp with hp|hp
      . exact⟨aW _ (h2 p hp).1,(h2 p hp).2⟩
      . simp only[aH]at hp
        subst hp;exact⟨by exact eL hq<|a7,hcc⟩
    . rcases a6.mp hp with rfl|hp
      . exact⟨c,dF _ (by simp)⟩
      . (refine xE (h3 p hp hf) λc' QL=>?_)
        exact⟨c',du _ QL⟩
  . (refine dU (ih acc hr) λcl h1 h2 h3=>?_)
    refine⟨cl,?_,λp hp=>⟨aW _ (h2 p hp).1,(h2 p hp).2⟩,λp hp hf=>?_⟩
    . rw[jg,if_neg (by simpa using hq)]
      simp only[pure_bind];exact h1
    . rcases a6.mp hp with rfl|hp
      . exact absurd hf hq
      . exact h3 p hp hf
theorem tT(hc:∀p∈scope.names,p.2=.free->∃c,env.cells.lookup p.1=some c):
 ∃cl,closureFor scope env=pure cl/\(∀p∈cl,(p.1,iy)∈scope.names/\env.cells.lookup p.1=some p.2)/\∀x,(x,iy)∈scope.names->cl.lookup x=env.cells.lookup x:=by
 (refine dU (Ei [] hc) λcl h1 h2 h3=>?_)
 rw[cC]at h1;refine⟨cl,?_,h2,λx hx=>?_⟩
 . simp only[closureFor]
   exact eW h1 rfl
 . (refine xE (h3 _ hx rfl) λc hm=>?_)
   have:∀{l:List (bB×aO)},(∀p∈l,env.cells.lookup p.1=some p.2)->(∃c,(x,c)∈l)->l.lookup x=env.cells.lookup x:=λ{l}=>by
    induction l with
    |nil=>intro _ ⟨c,hm⟩;cases hm
    |cons q l ih=>
     intro hl ⟨c,hm⟩;obtain⟨y,d⟩:=q;rw[bK];by_cases e:x=y
     . subst e
       rw[beq_self_eq_true];exact(hl (x,d) a7).symm
     . refine eW (beq_eq_false_iff_ne.mpr e) ?_
       refine ih (λp hp=>hl p (aW _ hp)) ⟨c,?_⟩;rcases a6.mp hm with q|q
       . cases q;exact absurd rfl e
       . exact q
   exact this (λp hp=>(h2 p hp).2) ⟨c,hm⟩
noncomputable def ub(env:qZ)(x:bB)(k:lT):lT:=if(k==.free&&env.scope.kind==.function&&env.kindOf x==some .cell)then .cell else k
theorem E'(env:qZ)(x:bB):ub env x .free=.cell\/ub env x .free=.free:=by
 unfold ub;split
 . exact .inl rfl
 . exact .inr rfl
theorem vO:∀{names:List (bB×lT)},(names.map λ(n,k)=>if(k==.free&&env.scope.kind==.function&&env.kindOf n==some .cell)then(n,me)else(n,k)).lookup x=(names.lookup x).map (ub env x)
 |[]=>rfl
 |(n,k)::r=>by
  refine eW bT ?_
  have e:(if(k==.free&&env.scope.kind==.function&&env.kindOf n==some .cell)then(n,me)else(n,k))=(n,ub env n k):=by unfold ub;split<;>rfl
  dsimp only;rw[e,bK,bK,vO];by_cases h:x=n
  . subst h;rw[beq_self_eq_true];rfl
  . exact eW (beq_eq_false_iff_ne.mpr h) rfl
theorem LB{M:Model}{globals:aO}{qual:bB}{Q:qZ->aN->Prop}
 (hQ:∀s',InCallC s s.heap.objs.size (λ_=>none) (cellsFrom (s.heap.objs.size+1) scope.names []) (λ_=>none) s'->
   Q {scope,locals:=s.heap.objs.size,globals,cells:=cellsFrom (s.heap.objs.size+1) scope.names []++cl,qual,func:=none,code:=env.code,frame:=env.frame,builtins:=env.builtins} s'):
 aJ M A (newFunctionEnv scope globals cl [] qual none .none (some env)) Q E s:=by
 simp only[newFunctionEnv,Option.isSome_some,if_true];refine ai (tp ?_);refine ai (aaR _ (λname kind cells=>by induction MG:kind==me using ax<;>simp[MG]) _ _ _ _ ?_)
 have ok:=cellsFrom_ok scope.names (s.heap.push {cls:=.type "dict",data:=.dict #[]}) (s.heap.objs.size+1) [] ⟨λ_ _ hm=>(nomatch hm),pg⟩ (by exact eW (gb ..)<|aT _);rw[gb]at ok;refine eW (show({s with heap:=s.heap.push {cls:=.type "dict",data:=.dict #[]}}:aN).heap.objs.size=s.heap.objs.size+1 from gb ..)<|eW (fC ..) ?_;refine ai ?_;rw[mh];refine ar (ar (hQ _ ?_));exact⟨⟨⟨_,_,rfl⟩,(Rk s.heap (.type "dict")).keeps (qX _ _),λb o e=>qX _ _ b o (a_ _ e),aT _⟩,
  λn c hc=>(ok.empty n c (mem_of_lookup hc)).1,ok.apart,λn c hm=>(ok.empty n c hm).2⟩
noncomputable def mP(L D:aO)(j:Nat)(cs cl:List (bB×aO))(O:aO->Option Role)(a:aO):Option Role:=
 if a=L then some .loc else if a=D then some (.own j 0)else match cs.find? (λp=>p.2==a)with
  |some p=>some (.cell p.1)
  |none=>if cl.any (λp=>p.2==a)then none else(O a).map λ_=>.kj
theorem E6:∀{aX:List Nat}{fr cs:List Slot},fW fr aX=some cs->cs.length=aX.length/\∀(i:Nat)(s:Slot),cs[i]?=some s->∃(j:Nat)(s0:Slot),aX[i]?=some j/\fr[j]?=some s0/\s0.lend=some s
 |[],fr,cs,h=>sk (P:=λcs=>cs.length=0/\∀(i:Nat)(s:Slot),cs[i]?=some s->∃(j:Nat)(s0:Slot),[][i]?=some j/\fr[j]?=some s0/\s0.lend=some s) h ⟨rfl,λi s h=>nn h⟩
 |c::r,fr,cs,h=>ob h λs0 hs h=>ob h λx h1 h=>om h λxs h2=>xA (E6 h2) λe1 e2=>⟨congrArg (·+1) e1,λi s hi=>match i,hi with
  |0,hi=>⟨c,s0,rfl,hs,h1.trans hi⟩
  |i+1,hi=>e2 i s hi⟩
structure Ak(sc:jF)(dD:jF)(ns iw:List bB)(m:Nat)(aX:List Nat):Prop where
 kind:dD.kind=.function
 nd:iw.Nodup
 len:iw.length=m+aX.length
 own:∀(i:Nat)(x:bB),i<m->iw[i]?=some x->dD.names.lookup x=some .local\/dD.names.lookup x=some .cell
 PC:∀(i:Nat)(x:bB),m<=i->iw[i]?=some x->∃j,aX[i-m]?=some j/\ns[j]?=some x/\dD.names.lookup x=some .free/\(sc.names.lookup x==some .cell||sc.names.lookup x==some .free)=true
 free:∀p∈dD.names,p.2=.free->∃i,m<=i/\iw[i]?=some p.1
 all:∀p∈dD.names,dD.names.lookup p.1=some p.2
 Qv:(dD.names.map (·.1)).Nodup
theorem z3{sc:jF}(h:i7 sc dD ns iw m aX=true):Ak sc dD ns iw m aX:=by
 unfold i7 at h;simp only[bX,decide_eq_true_eq,beq_iff_eq]at h
 (refine xA h ?_;clear h;intro q3;obtain⟨⟨⟨⟨⟨⟨⟨⟨h1,h2⟩,h3⟩,_⟩,h5⟩,h6⟩,h7⟩,h8⟩,h9⟩:=q3;intro _)
 refine⟨h1,h2,h3,λi x hi hx=>?_,λi x hi hx=>?_,λp hp hf=>?_,λp hp=>?_,h9⟩
 . have:=aL.mp h5 x (cj.mpr ⟨i,by refine eW (dI hi) ?_;exact hx⟩)
   simpa using this
 . have oj:i<iw.length:=by
    induction q:decide (i<iw.length)using ax with
    |true=>exact of_decide_eq_true q
    |false=>rw[ba (bu (of_decide_eq_false q))]at hx;exact nn hx
   have hc:i-m<aX.length:=Ar hi (h3▸oj)
   have hd:(iw.drop m)[i-m]?=some x:=by refine eW gF<|eL hx ?_;exact congrArg (iw[·]?) (c6 hi)
   have:=aL.mp h6 (x,aX[i-m]) (cj.mpr ⟨i-m,by refine iW mD ?_;exact⟨hd,aV hc⟩⟩);simp only[bX,beq_iff_eq]at this;exact⟨_,aV hc,this.1.1,this.1.2,this.2⟩
 . have:=aL.mp h7 p hp
   rw[hf]at this;simp only[bne_self_eq_false,mY]at this
   (refine xE (cj.mp (gS.mp this)) λj hj=>?_)
   rw[gF]at hj;exact⟨m+j,aP m j,hj⟩
 . have:=aL.mp h8 p hp
   simpa using this
theorem Hs{xp:Slot}(hl:sl.lend=some xp)(q:∀a r,O a=some r->(r=.kj\/∃k,r=.own i k)->O' a=some .kj)(y:cT C G O h i sl ov):cT C G O' h j xp ov/\xp.writable=false:=by
 induction sl using Slot.casesOn with
 |unset=>exact nn hl
 |val d=>cases hl;exact⟨y,rfl⟩
 |ro d=>cases hl;exact⟨y,rfl⟩
 |own t=>cases hl;(refine bS y ?_;clear y;intro v e p);exact⟨⟨v,e,dO.relabel (λa k e=>q a _ e (.inr ⟨k,rfl⟩)) p⟩,rfl⟩
 |bor t=>cases hl;(refine bS y ?_;clear y;intro v e p);exact⟨⟨v,e,dO.relabel (λa k e=>q a _ e (.inl rfl)) p⟩,rfl⟩
theorem TM{Pt:List Slot}{od:jY}{iC:qZ}(S:Ak sc.s dD ns iw m aX)(W:bz C G wl s.heap)(F:cJ C G O sc ns env fr s.heap)(hs:fW fr aX=some Pt)
 (hD:s.heap.get? D=some od)(nD:G.F D=none)(fD:eQ C G D)(oD:O D=none)(ncD:∀(j:Nat)(y:bB),ns[j]?=some y->env.kindOf y≠some .local->env.cells.lookup y≠some D)
 (qW:∀p∈cl,(p.1,iy)∈dD.names/\env.cells.lookup p.1=some p.2)(KV:∀x,(x,iy)∈dD.names->cl.lookup x=env.cells.lookup x)(hL:L=s.heap.objs.size)(FJ:cs=cellsFrom (s.heap.objs.size+1) dD.names [])
 (hI:InCallC s L (λ_=>none) cs (λ_=>none) s')(e1:iC.scope=relabel dD env)(e2:iC.locals=L)(e3:iC.globals=env.globals)(e4:iC.cells=cs++cl)(e5:iC.code=env.code)(e6:iC.builtins=env.builtins):
 cJ C G (mP L D iw.length cs cl O) ⟨dD,none,lv⟩ iw iC (bD m .unset++Pt) s'.heap:=by
 have hk:∀x,iC.kindOf x=(dD.names.lookup x).map (ub env x):=λx=>by
  unfold Env.kindOf;exact eW e1<|vO
 have keep:=hI.toInCall.keep
 have Cw:Step C G G s s':=by
  (refine u7 (hI.toInCall.same) λh' tk q4=>?_;subst q4)
  exact .grow h' tk keep
 (refine xA (j8 dD.names (s.heap.objs.size+1) S.Qv) λcn1 cn2=>?_)
 (refine xA (E6 hs) λhlc ZN=>?_)
 have ltL:∀{a:aO}{o:jY},s.heap.get? a=some o->a≠L:=λe=>by exact eW hL<|bx (bb e)
 have Lz:∀p∈cs,s.heap.objs.size+1<=p.2:=λp hp=>by
  rw[FJ]at hp;exact of_decide_eq_true (aL.mp (fX dD.names (s.heap.objs.size+1)) p hp)
 have VT:∀{a:aO}{o:jY},s.heap.get? a=some o->cs.find? (λp=>p.2==a)=none:=λ{a o} e=>by
  refine jj.mpr λp hp hb=>?_
  have h1:=Lz p hp
  have h2:=bb e;rw[beq_iff_eq.mp hb]at h1;exact absurd h2 (cV.mpr (fN h1))
 have Xm:∀p∈cl,∃(i j:Nat)(sl:Slot),m<=i/\iw[i]?=some p.1/\aX[i-m]?=some j/\ns[j]?=some p.1/\fr[j]?=some sl/\env.kindOf p.1≠some .local:=λp hp=>by
  (refine xA (qW p hp) λh1 h2=>?_)
  (refine bS (S.free _ h1 rfl) λi h3 h4=>?_)
  (refine oz (S.PC i _ h3 h4) λj h5 h6 h7 h8=>?_)
  have oj:j<fr.length:=by
   refine eW F.len ?_;induction q:decide (j<ns.length)using ax with
   |true=>exact of_decide_eq_true q
   |false=>rw[ba (bu (of_decide_eq_false q))]at h6;exact nn h6
  refine⟨i,j,_,h3,h4,h5,h6,aV oj,λe=>?_⟩;rcases F.cl _ h8 with q|q<;>rw[q]at e<;>cases e
 have aaA:∀{b:aO},cl.any (λp=>p.2==b)=true->(O b=none\/∃x,O b=some (.cell x))/\∃o,s.heap.get? b=some o:=λ{b} hb=>by
  (refine bS (iz.mp hb) λp hp ZU=>?_)
  (refine fR (Xm p hp) λi j sl _ _ _ h6 h7 h8=>?_)
  (refine m9 (F.pY j _ sl h6 h7 h8) λ_ c ov q1 q6=>?_;obtain⟨oc,q2,_⟩:=q6;intro q5;refine jP q5 ?_;clear q5;intro _ q4 _)
  rw[(qW p hp).2]at q1;cases q1;rw[beq_iff_eq.mp ZU]at q4 q2;refine⟨?_,oc,q2⟩;split at q4
  . exact .inr ⟨_,q4⟩
  . exact .inl q4
 have aaB:∀{b:aO},cl.any (λp=>p.2==b)=true->b≠D:=λ{b} hb e=>by
  (refine bS (iz.mp hb) λp hp ZU=>?_)
  (refine fR (Xm p hp) λi j sl _ _ _ h6 h7 h8=>?_)
  exact ncD j _ h6 h8<|eW ((qW p hp).2)<|eW (beq_iff_eq.mp ZU)<|eW e rfl
 have oO:∀{a:aO}{r:Role},O a=some r->(∀x,r≠.cell x)->mP L D iw.length cs cl O a=some .kj:=λ{a r} e n=>by
  (refine mF (F.iN a r e) λ_ _ o ho=>?_)
  unfold mP;rw[if_neg (ltL ho),if_neg (λq=>by rw[q,oD]at e;exact nn e),VT ho];dsimp only;rw[if_neg λq=>?_,e]
  . rfl
  . rcases(aaA q).1 with q|⟨x,q⟩
    . rw[e]at q;exact nn q.symm
    . rw[e]at q;cases q;exact n x rfl
 refine⟨by refine eW e1 ?_;exact S.kind,by exact eW e3<|F.glob,by exact eW e6<|F.bi,S.nd,by exact eW aI<|eW gR<|eW hlc<|eW S.len rfl,λa r e=>?_,λx e=>?_,λx e=>?_,?_,?_,λi x sl hx eE QH=>?_,λnm h=>(nomatch h),?_,λh=>(nomatch h)⟩
 .
  unfold mP at e;split at e
  . rename_i ha
    subst ha
    (refine j9 (hI.toInCall.ns) λo _ _ ho _=>?_)
    rw[hL]at ho⊢;exact⟨gM W,gq W,o,ho⟩
  . split at e
    . rename_i ha
      subst ha;exact⟨nD,fD,_,keep _ _ hD⟩
    . split at e
      . rename_i p hp
        have Yg:=iF hp
        have OY:=xv hp;rw[beq_iff_eq]at OY
        have h1:=Lz p Yg
        have yD:s.heap.get? a=none:=by
         induction q:s.heap.get? a using aA with
         |none=>rfl
         |some o=>have h2:=bb q;rw[OY]at h1;exact absurd h2 (cV.mpr (fN h1))
        (refine bS (hI.cell p.1 p.2 (lookup_mem (by refine eW FJ ?_;exact cn1) Yg)) λo ho _=>?_)
        exact⟨kh W yD,gw W yD,o,OY▸ho⟩
      . split at e
        . exact nn e
        . (refine bS (cE.mp e) λr' e' _=>?_)
          (refine mF (F.iN a r' e') λh1 h2 o ho=>?_)
          exact⟨h1,h2,o,keep _ _ ho⟩
 . exact eW (hk ..)<|eW e rfl
 . refine eW (hk ..) ?_
   rcases iQ.mp e with q|q
   . exact eW (beq_iff_eq.mp q)<|.inl rfl
   . refine eW (beq_iff_eq.mp q) ?_
     show some (ub env x .free)=_\/some (ub env x .free)=_;exact(E' env x).imp (congrArg some) (congrArg some)
 . refine eW e2 ?_;unfold mP;exact eW (if_pos rfl) rfl
 . refine⟨_,e2▸hI.toInCall.ns,λi x sl hx eE hl=>?_⟩
   have hi:i<m:=by
    induction q:decide (i<m)using ax with
    |true=>exact of_decide_eq_true q
    |false=>
     (refine oz (S.PC i x (bu (of_decide_eq_false q)) hx) λj _ _ h3 _=>?_)
     rw[hk,h3]at hl;simp only[Mn,qh]at hl;unfold ub at hl;split at hl<;>cases hl
   rw[ek (by simpa using hi),og,if_pos hi]at eE;cases eE;rfl
 . by_cases hi:i<m
   . have MG:dD.names.lookup x=some .cell:=by
      rcases S.own i x hi hx with q|q
      . rw[hk,q]at QH;exact absurd rfl QH
      . exact q
     (refine xE (iO.mp (EG (x:=x) dD.names (s.heap.objs.size+1) [] (.inl MG))) λc hc=>?_)
     rw[<-FJ]at hc
     have kR:=mem_of_lookup hc
     have h1:=Lz _ kR
     have yD:s.heap.get? c=none:=by
      induction q:s.heap.get? c using aA with
      |none=>rfl
      |some o=>have h2:=bb q;exact absurd h2 (cV.mpr (fN h1))
     rw[ek (by simpa using hi),og,if_pos hi]at eE;cases eE
     have hkk:iC.kindOf x=some .cell:=by exact eW (hk ..)<|eW MG rfl
     refine⟨.inl hkk,c,none,by refine eW e4<|eW lookup_append<|eW hc ?_;rfl,hI.cell x c hc,rfl,?_,gw W yD,λ_=>hkk⟩;unfold mP;rw[if_neg (λe=>by rw[e,hL]at h1;exact absurd (Nat.lt_of_succ_le h1) (b8 _)),if_neg (λe=>by rw[e,hD]at yD;exact nn yD.symm)];induction hq:cs.find? (λp=>p.2==c)using aA with
     |some p=>
      have Yg:=iF hq
      have OY:=xv hq;obtain⟨n,c'⟩:=p;rw[beq_iff_eq]at OY;dsimp only at OY;subst OY
      have:=Mi hI.apart Yg kR;subst this;rfl
     |none=>
      have:=jj.mp hq _ kR;simp at this
   . (refine oz (S.PC i x (bu hi) hx) λj h1 h2 h3 h4=>?_)
     rw[hZ (by simpa using hi),gR]at eE
     (refine cM (ZN _ _ eE) λj' s0 q1 q2 q3=>?_)
     rw[h1]at q1;cases q1
     have ud:env.kindOf x≠some .local:=λe=>by rcases F.cl x h4 with q|q<;>rw[q]at e<;>cases e
     (refine fo (F.pY j x s0 h2 q2 ud) λsL c ov r1 r2 r3 r4 r5 r6=>?_)
     have kR:(x,iy)∈dD.names:=mem_of_lookup h3
     have hcx:cl.lookup x=some c:=(KV x kR).trans r1
     have WJ:cs.lookup x=none:=by
      induction q:cs.lookup x using aA with
      |none=>rfl
      |some c'=>
       have ZY:=cn2 _ (FJ▸mem_of_lookup q)
       have:=lookup_mem S.Qv ZY;dsimp only at this;rw[h3]at this;cases this
     (refine xA (Hs (j:=i) (O':=mP L D iw.length cs cl O) q3 (λa r e hr=>oO e λy q=>by
       rcases hr with hr|⟨k,hr⟩<;>rw[hr]at q<;>cases q) r3) λT hw=>?_)
     (refine bS r2 ?_;clear r2;intro oc w1 w2)
     have WH:∃p∈cl,p.2=c:=⟨_,mem_of_lookup hcx,rfl⟩
     have WN:cl.any (λp=>p.2==c)=true:=by
      (refine bS WH ?_;clear WH;intro p hp hpc)
      exact iz.mpr ⟨p,hp,by exact eW hpc<|beq_self_eq_true c⟩
     have WR:mP L D iw.length cs cl O c=none:=by
      unfold mP;refine eW (if_neg (ltL w1))<|eW (if_neg (aaB WN))<|eW (VT w1) ?_;dsimp only;exact eW (if_pos WN) rfl
     refine⟨?_,c,ov,by refine eW e4<|eW lookup_append<|eW WJ<|eW hcx ?_;rfl,⟨oc,keep _ _ w1,w2⟩,T.step Cw,by exact eW hw<|eW (if_neg ay)<|WR,r5,λq=>by rw[hw]at q;exact ff q⟩;refine eW (hk ..)<|eW h3 ?_
     show some (ub env x .free)=_\/some (ub env x .free)=_;exact(E' env x).imp (congrArg some) (congrArg some)
 . exact eW e5<|F.code
end
section
variable {G0:Gh}
structure PV(C:Cx)(G:Gh)(O:aO->Option Role)(sc:Sc)(ns:List bB)(env:qZ)(s:aN)(fr:List Slot)(wl:WL)(s':aN):Prop where
 x:bW C G G O O s s'
 w:bz C G wl s'.heap
 f:cJ C G O sc ns env fr s'.heap
 m:∀a r,O a=some r->(r=.kj\/∃i k,r=.own i k)->c8 s.heap s'.heap a
theorem PV.after(X:bW C G G O O s s')(m:∀a r,O a=some r->(r=.kj\/∃i k,r=.own i k)->c8 s.heap s'.heap a)(p:PV C G O sc ns env s' cH wl qm):PV C G O sc ns env s cH wl qm:=
 ⟨X.trans p.x,p.w,p.f,λa r e hr o ho=>p.m a r e hr o (m a r e hr o ho)⟩
theorem CY(is:List Nat):∀(ts:List (aB->Sem Unit))(vs:List aB)(gU:List Slot)(fr cH:List Slot)(s:aN),bz C G wl s.heap->cJ C G O sc ns env fr s.heap->
 eJ C env ns is ts->Vals C G O s.heap is vs gU->oh fr is gU=some cH->aJ C.M A (assignInOrder ts vs) (λ_ s'=>PV C G O sc ns env s cH wl s') E s:=by
 induction is with
 |nil=>
  intro ts vs gU fr cH s W F hT hV q;induction ts using bP with
  |cons _ _=>exact hT.elim
  |nil=>
   induction vs using bP with
   |cons _ _=>exact hV.elim
   |nil=>
    induction gU using bP with
    |cons _ _=>exact hV.elim
    |nil=>cases q;exact ar ⟨bW.refl C G O s,W,F,λ_ _ _ _ _ e=>e⟩
 |cons i is ih=>
  intro ts vs gU fr cH s W F hT hV q;induction ts using bP with
  |nil=>exact hT.elim
  |cons t ts=>
   induction vs using bP with
   |nil=>exact hV.elim
   |cons v vs=>
    induction gU using bP with
    |nil=>exact hV.elim
    |cons sl gU=>
     (refine xA hT ?_;clear hT;intro q1;obtain⟨x,hx,ht⟩:=q1;intro hT')
     (refine bS (jf.mp q) λf9 q1 q2=>?_)
     show aJ C.M A (do holding vs (t v);assignInOrder ts vs) _ _ _;refine ai (bL (ht (i3 (bW.refl C G O s) W F hx q1 hV.2.1 hV.1 λs' X' W' F' hm=>?_)));exact dR (ih ts vs gU f9 cH s' W' F' hT' (hV.2.2.move hm) q2) (λ_ qm p=>p.after X' hm) λ_ _ q=>q
theorem CN{x1}(hh:A.handled=none)(W:bz C G wl s.heap)(F:cJ C G O sc ns env fr s.heap)
 (R:Rep C G v (.tup ds))(ht:cY ns (.Tuple es x1 p) is=true)(hs:ez fr is ds=some cH):aJ C.M A (assign (.Tuple es x1 p) env v) (λ_ s'=>PV C G O sc ns env s cH wl s') ef s:=by
 refine jP (kf (C:=C) (env:=env) (g_ ht).2) λT1 T2 T3=>tupI W R λa vs n h1 r1=>?_;rw[nk]at hs
 have hl:=oH hs;rw[aj]at hl
 have hrl:=r1.length;refine nS (items:=vs.toArray) hh ⟨_,h1,rfl,n,rfl⟩ (by refine eW T3<|eW cg ?_;lia) T2 λh' hx=>?_
 have k:∀b o,s.heap.get? b=some o->h'.get? b=some o:=λb o e=>hx b o (bx (bb e)) e
 have x1:Step C G G s {s with heap:=h'}:=.grow h' s.toks k;exact cX (CY is _ _ _ fr cH _ (W.grow k) (F.step x1) T1 (za hl r1) hs) λ_ qm p=>p.after x1.o λa r _ _ o e=>k a o e
theorem wR{t:af}(hh:A.handled=none)(W:bz C G wl s.heap)(F:cJ C G O sc ns env fr s.heap)
 (R:Rep C G v d)(ht:cY ns t is=true)(hs:c7 fr is d=some cH):aJ C.M A (assign t env v) (λ_ s'=>PV C G O sc ns env s cH wl s') ef s:=by
 revert hs
 refine vc ht (λx p i hx hs=>?_) λes n p ht hs=>?_
 . exact assign_Name (i3 (bW.refl C G O s) W F hx hs rfl ⟨v,rfl,R⟩ λs' X' W' F' m=>⟨X',W',F',m⟩)
 . have h2:=(g_ ht).1
   revert h2 hs ht
   exact match is with
   |[]=>λ_ _ h2=>absurd h2 (Iu 1)
   |[_]=>λ_ _ h2=>absurd h2 (qR 1)
   |_::_::_=>λht hs _=>ob hs λxs h1 hs=>(FV.CV (P:=λd=>Rep C G v d->_) h1 λR=>CN hh W F R ht hs) R
theorem cJ.outside(F:cJ C G O sc ns env fr h)(hO:O a=some (.own j κ))(hj:ns.length<=j)(k:∀b,b≠a->c8 h h' b)(al:∃o,h'.get? a=some o):cJ C G O sc ns env fr h':=by
 have nl:env.locals≠a:=λq=>by have:=F.lN;rw[q,hO]at this;cases this
 have lt:∀{i:Nat}{x:bB},ns[i]?=some x->i<ns.length:=λ{i x} hx=>by
  induction q:decide (i<ns.length)using ax with
  |true=>exact of_decide_eq_true q
  |false=>rw[ba (bu (of_decide_eq_false q))]at hx;exact nn hx
 have other:∀{i:Nat}{x:bB}{sl:Slot}{ov:Option aB},ns[i]?=some x->cT C G O h i sl ov->cT C G O h' i sl ov:=λ{i x sl ov} hx S=>by
  refine S.move λb r hb hk=>⟨hb,k b λq=>?_⟩;subst q;rw[hO]at hb;cases hb;rcases hk with hk|⟨k,hk⟩
  . exact Role.noConfusion hk
  . cases hk;exact absurd (lt hx) (cV.mpr hj)
 refine⟨F.fn,F.glob,F.bi,F.nodup,F.len,λb r e=>?_,F.gl,F.cl,F.lN,?_,λi y sl hy eE hk=>?_,F.iU,F.code,F.ro⟩
 . (refine mF (F.iN b r e) λh1 h2 o h3=>?_)
   refine⟨h1,h2,?_⟩;by_cases q:b=a
   . subst q;exact al
   . exact⟨o,k b q _ h3⟩
 . (refine bS (F.loc) λm hm q=>?_)
   exact⟨m,hm.at' (k _ nl),λi y sl hy eE hk=>other hy (q i y sl hy eE hk)⟩
 . (refine fo (F.pY i y sl hy eE hk) λsL c ov e1 q2=>?_;obtain⟨oc,e2,Ln⟩:=q2;intro e3 e4 e5 e6)
   have hc:c≠a:=λq=>by
    rw[q,hO]at e4;split at e4<;>cases e4
   exact⟨sL,c,ov,e1,⟨oc,k c hc _ e2,Ln⟩,other hy e3,e4,e5,e6⟩
def PG(C:Cx)(G:Gh)(O:aO->Option Role)(sc:Sc)(ns:List bB)(env:qZ)(D:aO)(s:aN)(fr:List Slot)(acc:List FV)(wl:WL)(s':aN):Prop:=
 ∃G',bW C G G' O O s s'/\bz C G' wl s'.heap/\cJ C G' O sc ns env fr s'.heap/\dJ C G' O s'.heap (some (.own ns.length 0)) (.ref D) (.list acc)
noncomputable def mQ(elt:af)(gens:List cP)(scope:jF)(pos:dN)(d:Nat)(acc:aB)(env:qZ):Sem Unit:=
 match gens[d]?with
 |some g'=>do
  let x<-eval g'.iter env
  standAt g'.iter.pos
  let x<-if g'.is_async !=0 then foldedIterable g'.iter x else foldedSetIterable g'.iter env x
  let _<-runOwn (.compStart (.ListComp elt gens scope pos) d (<-holding [x] (if g'.is_async !=0 then asyncIter x else pyIter x)) acc env) env
 |none=>do let _<-call (.builtin "list.append") [acc,<-eval elt env]
def Ii(C:Cx)(bp:my)(k:Nat)(sc:Sc)(ns:List bB)(elt:af)(gens:List cP)(scope:jF)(pos:dN)(d:Nat)(g:IG):Prop:=
 ∀(G:Gh)(O:aO->Option Role)(env:qZ)(A:fF)(s:aN)(fr:List Slot)(acc:List FV)(wl:WL)(cH:List Slot)(lQ:List FV)(bQ:WL)(D:aO),HQ bp g fr acc wl=some (cH,lQ,bQ)->lQ.length<=2^20->Here C G O sc ns env fr wl k A s->
  dJ C G O s.heap (some (.own ns.length 0)) (.ref D) (.list acc)->aJ C.M A (mQ elt gens scope pos d (.ref D) env) (λ_ s'=>PG C G O sc ns env D s cH lQ bQ s') ef s
theorem Tv{pos:dN}{d:Nat}{a:IE}(hd:gens[d]?=none)(ha:dT C bp k sc ns elt a):Ii C bp k sc ns elt gens scope pos d (.emit a):=λG O env A s fr acc wl cH lQ bQ D q hb H R=>by
 rw[wz]at q
 revert hb
 refine f7 q λy w1 q1 q=>MD q λd0 q2 hb=>?_;delta mQ;refine eW hd ?_;refine ai (ha.run H q1 λv aM G1 x1 H1 R1=>fA (lu (R.step x1)) λh1 h2 h3 h=>gf h λvs n h4 h5=>?_);replace R1:Rep C G1 v d0:=eh (P:=λy=>cD C G1 O s.heap aM.heap v y->_) q2 (λR=>R) R1
 have hlen:vs.size=acc.length:=bC.symm.trans h5.length;rw[aI]at hb;refine ai (xc iD ⟨_,h4,rfl⟩ lU (lF _ _) (je D vs n v (by refine eW hlen<|eW dp ?_;lia)) ⟨h4,xE (rk (f:=λz=>z.push v) h4) λn' h6=>?_⟩)
 have kk:=eH (cA aM.heap D (o9 λz=>z.push v));refine ar ⟨G1,x1.o.Ki (.inr ⟨_,h1,nofun⟩) kk ⟨_,h6⟩,H1.W.loose h3 h2 kk,H1.F.outside h1 (aT _) kk ⟨_,h6⟩,D,rfl,h1,h2,h3,_,n',h6,?_⟩;exact eW mE<|h5.append (.one R1)
theorem Bj:∀l:List af,PB C G s b wl false s'->aJ C.M A (forIn l false λc r=>if r=true then do let ok<-isTrue c env (eval c env);pure (fh ok)else pure (fh r)) (PB C G s b wl) ef s'
 |[],h=>ar h
 |e::l,h=>by
  rw[jg,if_neg ay];exact ai (ar (Bj l h))
theorem Nt(L:fO (dT C bp k sc ns) ifs il):∀(G:Gh)(O:aO->Option Role)(env:qZ)(A:fF)(s:aN)(fr:List Slot)(wl:WL)(b:Bool)(bQ:WL),fI bp il fr wl=some (b,bQ)->Here C G O sc ns env fr wl k A s->
 aJ C.M A (forIn ifs true λc r=>if r=true then do let ok<-isTrue c env (eval c env);pure (fh ok)else pure (fh r)) (PB C G s b bQ) ef s:=
 L.ind (λG O env A s fr wl b bQ q H=>sp (P:=λb bQ=>aJ C.M A _ (PB C G s b bQ) ef s) q (ar ⟨rfl,G,.refl C G s,H.W⟩)) λe es a il La _ ih G O env A s fr wl b bQ q H=>by
  rw[jg,if_pos rfl];exact f7 (nK.symm.trans q) λt w1 q1 q2=>ai (ai (La.C3 H q1 λaM G1 x1 H1=>ar (bk (b:=t) q2 (λq2=>cX (ih G1 O env A aM fr w1 b bQ q2 H1) λr bZ p=>p.after x1)
   λq2=>sp (P:=λb bQ=>aJ C.M A _ (PB C G s b bQ) ef aM) q2 (Bj es ⟨rfl,G1,x1,H1.W⟩))))
theorem B6{t:af}{pos:dN}{d:Nat}{i acc:aB}(hg:gens[d]?=some ⟨t,it,ifs,0⟩)(ha:∀g∈gens,g.is_async=0):
 compTurn (.ListComp elt gens scope pos) d i acc env=(standAt it.pos>>=λ_=>pyNext i>>=λr=>match r with
  |none=>pure (.done .next)
  |some v=>letOwnedTupleGo t i v>>=λ_=>assign t env v>>=λ_=>
   (forIn ifs true λc r=>if r=true then do let ok<-isTrue c env (eval c env);pure (fh ok)else pure (fh r))>>=λok=>
   (if ok=true then mQ elt gens scope pos (d+1) acc env else pure ())>>=λ_=>again (.compLoop (.ListComp elt gens scope pos) d i acc env)):=by
 delta compTurn mQ;simp only[hg];refine congrArg (standAt it.pos>>=·) (funext λ_=>congrArg (pyNext i>>=·) (funext λr=>?_));induction r using aA with
 |none=>rfl
 |some v=>
  refine congrArg (letOwnedTupleGo t i v>>=·) (funext λ_=>congrArg (assign t env v>>=·) (funext λ_=>congrArg (forIn ifs true _>>=·) (funext λok=>?_)));induction ok using ax with
  |false=>rfl
  |true=>
   simp only[if_true];induction q:gens[d+1]?using aA with
   |none=>rfl
   |some g'=>
    have:=ha g' (aF q);obtain⟨t',it',ac7,n⟩:=g';dsimp only at this;subst this;simp only[bne_self_eq_false,ey,if_false,bind_assoc,pure_bind]
end
section
variable {G0:Gh}
theorem rD(I:lJ C G s.heap a ds)(h:Q (.ref a) s):aJ C.M A (pyIter (.ref a)) Q E s:=by
 rcases I with⟨l,vs,n,i,h1,h2,h4⟩|⟨l,vs,n,i,h1,h2,h4⟩|⟨y,left,st,h1,h2⟩
 . exact wpAny_pyIter_listiter h2 h
 . exact wpAny_pyIter_tupleiter h2 h
 . exact wpAny_pyIter_rangeiter h1 h
theorem AO{t:af}{pos:dN}{d:Nat}{i acc:aB}{R:Result->aN->Prop}(hg:gens[d]?=some ⟨t,it,ifs,0⟩)
 (h0:codeAny C.M A (.compLoop (.ListComp elt gens scope pos) d i acc env) R s)
 (h:aJ C.M A (pyIter i) (λi' s'=>codeAny C.M A (.compLoop (.ListComp elt gens scope pos) d i' acc env) R s') (notedBy C.M A env λx s'=>R (.error x) s') s):
 codeAny C.M A (.compStart (.ListComp elt gens scope pos) d i acc env) R s:=by
 refine Co ?_
 show aJ _ _ ((compStart (.ListComp elt gens scope pos) d i acc env).onRaise (λx=>do noteFrame x env;standAt theWindowsPlace)) _ _ s;refine wpAny_notedAt ?_;unfold compStart
 have hc:(clausesOf (.ListComp elt gens scope pos))[d]?=some ⟨t,it,ifs,0⟩:=hg;simp only[hc]
 show aJ _ _ (ask>>=_) _ _ s;refine ai (eG (wpAny_ite ?_));split
 . first
    |exact ai (ar (ar (CH rfl h0)))
    |exact ar (CH rfl h0)
 . first
    |exact ai (xb (ai (b_ (ai (dR h (λit' s' h'=>ar (CH rfl h')) λ_ _ x=>x)))))
    |(refine ai (xb ?_);show aJ _ _ (standAt it.pos>>=_) _ _ s;exact ai (b_ (ai (dR h (λit' s' h'=>ar (CH rfl h')) λ_ _ x=>x))))
theorem nz{σ:Type}{f:σ->FV->Option σ}{m:σ->Nat}(hf:∀a x b,f a x=some b->m a<=m b):∀{ds:List FV}{a b:σ},ki f ds a=some b->m a<=m b
 |[],_,_,q=>ag q▸aT _
 |d::ds,a,b,q=>ob q λc h1 h2=>ak (hf _ _ _ h1) (nz hf h2)
theorem BX:∀{g:IG}{fr:List Slot}{acc:List FV}{wl:WL}{x:List Slot×List FV×WL},HQ bp g fr acc wl=some x->acc.length<=x.2.1.length
 |.emit e,fr,acc,wl,x,q=>f7 (wz.symm.trans q) λy w1 _ q=>om q λd _=>by simp
 |.gen it f6 ifs rest,fr,acc,wl,x,q=>f7 (z2.symm.trans q) λy w1 _ q=>ob q λvs _ q3=>nz (m:=λa=>a.2.1.length) (λa v b q=>ob q λf9 _ q=>f7 q λt w2 _ q5=>r8 q5 (λ_ q=>BX q) λ_ q=>ag q▸aT _) q3
def AE(bp:my)(f6:List Nat)(il:IL)(g:IG)(a:List Slot×List FV×WL)(v:FV):Option (List Slot×List FV×WL):=
 (c7 a.1 f6 v).bind λf9=>(fI bp il f9 a.2.2).bind λt=>if t.1 then HQ bp g f9 a.2.1 t.2 else some (f9,a.2.1,t.2)
theorem CP{g:IG}{a b:List Slot×List FV×WL}{v:FV}(q:AE bp f6 il g a v=some b):a.2.1.length<=b.2.1.length:=
 ob q λf9 _ q=>f7 q λt w2 _ q5=>r8 q5 (λ_ q=>BX q) λ_ q=>ag q▸aT _
def Q7(C:Cx)(Gb:Gh)(O:aO->Option Role)(sc:Sc)(ns:List bB)(env:qZ)(D:aO)(sb:aN)(run:Gh->aN->Nat->List Slot×List FV×WL->Prop)(n:Nat)(s':aN):Prop:=
 ∃G' gX ti jk,bW C Gb G' O O sb s'/\bz C G' jk s'.heap/\cJ C G' O sc ns env gX s'.heap/\dJ C G' O s'.heap (some (.own ns.length 0)) (.ref D) (.list ti)/\run G' s' n (gX,ti,jk)
theorem K2{t:af}{pos:dN}{d:Nat}{g:IG}(hg:gens[d]?=some ⟨t,it,ifs,0⟩)(IC:∀g∈gens,g.is_async=0)
 (ht:cY ns t f6=true)(L:fO (dT C bp k sc ns) ifs il)(hr:Ii C bp k sc ns elt gens scope pos (d+1) g)
 {Gb:Gh}{lQ:List FV}(q:ki (AE bp f6 il g) ds (fr,acc,wl)=some (cH,lQ,bQ))(hb:lQ.length<=2^20)
 (X:bW C Gb G O O sb s)(n0:sb.heap.get? ia=none)(H:Here C G O sc ns env fr wl k A s)(R:dJ C G O s.heap (some (.own ns.length 0)) (.ref D) (.list acc))(I:lJ C G s.heap ia ds)(Lo:Loose C G O s.heap ia)
 (nc:∀(j:Nat)(y:bB),ns[j]?=some y->env.kindOf y≠some .local->env.cells.lookup y≠some ia):
 codeAny C.M A (.compLoop (.ListComp elt gens scope pos) d (.ref ia) (.ref D) env) (λr s'=>∃f,r=.ok f/\PG C Gb O sc ns env D sb cH lQ bQ s') s:=by
 refine codeAny_loop rfl (Q7 C Gb O sc ns env D sb λG' s' n a=>∃rest,n=rest.length/\lJ C G' s'.heap ia rest/\Loose C G' O s'.heap ia/\ki (AE bp f6 il g) rest a=some (cH,lQ,bQ)) (λn s' hI=>?_) ds.length ⟨G,fr,acc,wl,X,H.W,H.F,R,ds,rfl,I,Lo,q⟩;refine jG hI λG' gX ti jk h=>kI h λX W F R h=>oz h λrest hn I Lo q=>?_;subst hn
 show aJ _ A ((compTurn (.ListComp elt gens scope pos) d (.ref ia) (.ref D) env).onRaise (λx=>do noteFrame x env;theTreesLotGoes x)) _ _ s';refine wpAny_noted ?_;refine eW (B6 hg IC) ?_;refine ai (b_ (ai ?_));refine fA (lu R) λYo WT hDF h=>gf h λvs n WU hDr=>?_
 have ID:D≠ia:=λe=>by rw[e,Lo.own]at Yo;exact nn Yo
 induction rest using bP with
 |nil=>
  exact xo q<|zF H.room.handled X n0 nc W F I Lo λs1 X W F k=>ar ⟨_,rfl,G',X,W,F,D,rfl,Yo,WT,hDF,vs,n,k _ ID _ WU,hDr⟩
 |cons v0 rest=>
  refine ob q λy q1 q2=>ob q1 λwq q3 q=>f7 q λtb UY q4 q5=>?_
  have hb3:y.2.1.length<=lQ.length:=nz (m:=λa=>a.2.1.length) (λa v b q=>CP q) q2;refine vW X n0 nc W F I Lo λv s1 Rv nx=>?_
  have R1:dJ C G' O s1.heap (some (.own ns.length 0)) (.ref D) (.list ti):=⟨D,rfl,Yo,WT,hDF,vs,n,nx.k _ ID _ WU,hDr⟩;refine ai (Kr (λa e=>by cases e;exact nx.I.cls) (ai ?_));refine cX (wR (s:=s1) H.room.handled nx.W nx.F Rv ht q3) λ_ et p=>ai ?_
  have R3:dJ C G' O et.heap (some (.own ns.length 0)) (.ref D) (.list ti):=R1.at_ λa e=>p.m a _ e (.inr ⟨_,_,rfl⟩);refine cX (Nt L G' O env A et wq jk tb UY q4 ⟨H.base,H.room,p.w,p.f⟩) λok lM h=>RD h λh1 G4 x4 W4=>ai ?_;subst h1
  have X4:=p.x.trans x4.o
  have fin:∀{G5:Gh}{CW:aN}{z:List Slot×List FV×WL},z=y->bW C G' G5 O O s1 CW->bz C G5 z.2.2 CW.heap->cJ C G5 O sc ns env z.1 CW.heap->dJ C G5 O CW.heap (some (.own ns.length 0)) (.ref D) (.list z.2.1)->
   ∃m,m<(v0::rest).length/\Q7 C Gb O sc ns env D sb (λG' s' n a=>∃rest,n=rest.length/\lJ C G' s'.heap ia rest/\Loose C G' O s'.heap ia/\ki (AE bp f6 il g) rest a=some (cH,lQ,bQ)) m CW:=λe X5 W5 F5 R5=>
   nx.next X5 λX I L=>⟨rest.length,bg _,_,_,_,_,X,W5,F5,R5,rest,rfl,I,L,e▸q2⟩
  exact match ok,q5 with
  |false,q5=>ar (ar ⟨rfl,fin (ag q5) X4 W4 (p.f.step x4) (R3.step x4)⟩)
  |true,q5=>cX (hr G4 O env A lM wq ti UY y.1 y.2.1 y.2.2 D q5 (ak hb3 hb) ⟨H.base,H.room,W4,p.f.step x4⟩ (R3.step x4)) λ_ CW h=>oz h λG5 X5 W5 F5 R5=>ar ⟨rfl,fin rfl (X4.trans X5) W5 F5 R5⟩
theorem W9{t:af}{pos:dN}{d:Nat}{a:IE}{g:IG}(hg:gens[d]?=some ⟨t,it,ifs,0⟩)(IC:∀g∈gens,g.is_async=0)
 (hi:dT C bp k sc ns it a)(hn:gV it=true)(ht:cY ns t f6=true)(L:fO (dT C bp k sc ns) ifs il)(hr:Ii C bp k sc ns elt gens scope pos (d+1) g):Ii C bp k sc ns elt gens scope pos d (.gen a f6 il g):=λG O env A s fr acc wl cH lQ bQ D q hb H R=>by
 rw[z2]at q;refine f7 q λy w1 q1 q=>ob q λds q2 q3=>ob q2 λd0 h1 q2=>?_;unfold mQ;refine eW hg ?_;refine ai (hi.run H q1 λv aM G1 x1 H1 R1=>ai (b_ ?_));replace R1:Rep C G1 v d0:=eh (P:=λy=>cD C G1 O s.heap aM.heap v y->_) h1 (λR=>R) R1
 have W1:=H1.W
 have F1:=H1.F
 have Rs:=R.step x1;simp only[bne_self_eq_false,ey,if_false];refine eW (zW hn v) ?_;refine ai (ar (ai (bL (zE W1 R1 q2 λo hf I=>ai (wpAny_runOwn ?_)))))
 have x2:Step C G1 G1 aM {aM with heap:=aM.heap.push o}:=.grow _ aM.toks (cO o)
 have nc:=F1.mS (a:=aM.heap.objs.size) eI;refine xA (yu F1 W1 x1 hf) λn0 L0=>?_
 have H2:Here C G1 O sc ns env fr w1 k A {aM with heap:=aM.heap.push o}:=⟨H.base,H.room,W1.grow (cO o),F1.step x2⟩
 have go:codeAny C.M A (.compLoop (.ListComp elt gens scope pos) d (.ref aM.heap.objs.size) (.ref D) env) (λr s'=>∃f,r=.ok f/\PG C G O sc ns env D s cH lQ bQ s') {aM with heap:=aM.heap.push o}:=
  K2 hg IC ht L hr q3 hb (x1.trans x2).o n0 H2 (Rs.step x2) I L0 nc
 have go':=kH go (R':=λr s'=>match r with|.ok f=>aJ C.M A (pure ()) (λ_ s'=>PG C G O sc ns env D s cH lQ bQ s') ef s'|.error e=>cameBackBy C.M A env ef e s') λr s' ⟨f,e,p⟩=>by
  subst e;exact ar p
 exact AO hg go' (rD I go')
end
section
variable {G0:Gh}
structure Mz(C:Cx)(G:Gh)(s:aN)(wl:WL)(D L:aO)(G':Gh)(s':aN):Prop where
 x:Step C G G' s s'
 w:bz C G' wl s'.heap
 nD:s.heap.get? D=none
 nL:s.heap.get? L=none
 ne:D≠L
 fL:G'.F L=none
 yI:eQ C G' L
 ns:∃m,s'.heap.Ns L m
 fD:G'.F D=none
 wx:eQ C G' D
theorem HC(I:lJ C G h a ds):∃o,h.get? a=some o/\∀v,o.data≠.cell v:=by
 exact I.elim (λI=>j4 I λl vs n i _ h2 _=>dU h2 λo h2 h3 h5=>⟨o,h2,λv e=>uX (h5.symm.trans e)⟩) λI=>I.elim (λI=>j4 I λl vs n i _ h2 _=>dU h2 λo h2 h3 h5=>⟨o,h2,λv e=>uX (h5.symm.trans e)⟩)
  λI=>j9 I λy left st h1 h2=>⟨_,h1,λv e=>uX e⟩
theorem wH{g0:cP}{zw:Sem aB}{use:Option (aB->Sem Unit)}{Pt:List Slot}{od:jY}{ia':IE}{d0:FV}{w1 w2:WL}
 {P:Gh->eu->aO->aO->Prop}(qW:clausesOf e=g0::gs)(hg0:g0.iter=it)(hn:gV it=true)(Ao:sc.lv=lv+1)(S:Ak sc.s dD ns iw m aX)(hi:dT C bp k sc ns it ia')
 (Tf:∀{s:aN}{Q:aB->aN->Prop},Q (.ref s.heap.objs.size) {s with heap:=s.heap.push od}->aJ C.M A zw Q ef s)(hod:od.isFreed=false)
 (q1:ev bp ia' fr wl=some (.fv d0,w1))(q2:items (.fv d0)=some ds)(q3:fW fr aX=some Pt)(H:Here C G O sc ns env fr wl k A s)
 (loop:∀G1(O':aO->Option Role) iC lM D ia L,Here C G1 O' ⟨dD,none,lv⟩ iw iC (bD m .unset++Pt) w1 k A lM->O' D=some (.own iw.length 0)->lM.heap.get? D=some od->lJ C G1 lM.heap ia ds->Loose C G1 O' lM.heap ia->
   (∀(j:Nat)(y:bB),iw[j]?=some y->iC.kindOf y≠some .local->iC.cells.lookup y≠some ia)->bW C G G1 O' O' s lM->s.heap.get? ia=none->s.heap.get? D=none->iC.locals=L->D≠L->(D==sysModules)=false->
   codeAny C.M A (.compStart e 0 (.ref ia) (.ref D) iC) (λr s'=>∃f,r=.ok f/\∃G',bW C G G' O' O' s s'/\bz C G' w2 s'.heap/\(∃cH,cJ C G' O' ⟨dD,none,lv⟩ iw iC cH s'.heap)/\P G' s'.heap D L) lM)
 (h:∀D L G' s' f,Mz C G s w2 D L G' s'->P G' s'.heap D L->compPost C.M A ef use Q (.ref D) L (.ok f) s'):
 aJ C.M A (comprehension e dD env p zw false (eval it env) use) Q ef s:=by
 have wk:∀p∈dD.names,p.2=.free->∃c,env.cells.lookup p.1=some c:=λp hp hf=>by
  (refine bS (S.free _ hp hf) λi h3 h4=>?_)
  (refine oz (S.PC i _ h3 h4) λj h5 h6 h7 h8=>?_)
  have oj:j<fr.length:=by
   refine eW H.F.len ?_;induction q:decide (j<ns.length)using ax with
   |true=>exact of_decide_eq_true q
   |false=>rw[ba (bu (of_decide_eq_false q))]at h6;exact nn h6
  (refine nW (H.F.pY j _ _ h6 (aV oj) λe=>by rcases H.F.cl _ h8 with q|q<;>rw[q]at e<;>cases e) λ_ c _ q1 _=>?_)
  exact⟨c,q1⟩
 (refine dU (tT wk) λcl aaa To KV=>?_)
 refine wpAny_comprehension_free qW (λx=>by refine eW hg0 ?_;exact zW hn x) aaa S.kind (λx hx hl=>by exact eW (S.all x hx)<|eW hl rfl) (cX (hi.v G O env A s fr wl _ w1 q1 H) λv aM q1=>dU q1 λG1 x1 W1 R1=>?_)
 have F1:=H.F.step x1;refine zE W1 R1 q2 λo hf I=>Tf (LB λlM hI=>?_)
 have x2:Step C G1 G1 aM {aM with heap:=aM.heap.push o}:=.grow _ aM.toks (cO o)
 have x3:Step C G1 G1 {aM with heap:=aM.heap.push o} {aM with heap:=(aM.heap.push o).push od}:=.grow _ aM.toks λ_ _ e=>a_ _ e
 have x4:Step C G1 G1 {aM with heap:=(aM.heap.push o).push od} lM:=by
  (refine u7 (hI.toInCall.same) λh' tk e=>?_)
  subst e;exact .grow h' tk hI.toInCall.keep
 have xs:=x1.trans (x2.trans (x3.trans x4))
 have W3:bz C G1 w1 ((aM.heap.push o).push od):=(W1.grow (cO o)).grow λ_ _ e=>a_ _ e
 have F3:=F1.step (x2.trans x3);generalize Z3:aM.heap.objs.size=ia at*
 have Yn:(aM.heap.push o).objs.size=ia+1:=by exact eW (gb ..)<|eW Z3 rfl
 have Yl:((aM.heap.push o).push od).objs.size=ia+2:=by exact eW (gb ..)<|eW Yn rfl
 have old:∀{c:aO},ia<=c->aM.heap.get? c=none:=λ{c} hc=>by
  induction q:aM.heap.get? c using aA with
  |none=>rfl
  |some o=>have:=bb q;rw[Z3]at this;exact absurd this (cV.mpr hc)
 have Dm:∀{c:aO},ia<=c->s.heap.get? c=none:=λ{c} hc=>by
  induction q:s.heap.get? c using aA with
  |none=>rfl
  |some o'=>(refine xE (x1.alive _ _ q) λo2 h2=>?_);rw[old hc]at h2;exact nn h2
 have hO0:∀{c:aO},ia<=c->O c=none:=λ{c} hc=>by
  induction q:O c using aA with
  |none=>rfl
  |some r=>(refine mF (H.F.iN _ _ q) λ_ _ o' pX=>?_);rw[Dm hc]at pX;exact nn pX
 have WV:((aM.heap.push o).push od).get? (ia+1)=some od:=by exact eL Yn<|bH _ hod
 have hi3:((aM.heap.push o).push od).get? ia=some o:=a_ _ (by exact eL Z3<|bH _ hf)
 have S':Ak sc.s dD ns iw m aX:=S
 have ncs:∀c,ia<=c->∀(j:Nat)(y:bB),ns[j]?=some y->env.kindOf y≠some .local->env.cells.lookup y≠some c:=λc hc=>H.F.mS (Dm hc)
 have nF1:∀{c:aO},ia<=c->G1.F c=none:=λhc=>kh W1 (old hc)
 have VX:∀{c:aO},ia<=c->eQ C G1 c:=λhc=>gw W1 (old hc);dsimp only at hI⊢;rw[Yl]at hI;refine eW Yn<|eW Yl ?_
 have Fin:=TM (lv:=lv) (D:=ia+1) (L:=ia+2) (s:={aM with heap:=(aM.heap.push o).push od}) S W3 F3 q3 WV (nF1 (by lia)) (VX (by lia)) (hO0 (by lia)) (ncs _ (by lia)) To KV Yl.symm (by exact eW Yl rfl) hI (iC:={scope:=relabel dD env,locals:=ia+2,globals:=env.globals,cells:=cellsFrom (ia+2+1) dD.names []++cl,qual:=env.qual,func:=none,code:=env.code,frame:=env.frame,builtins:=env.builtins}) rfl rfl rfl rfl rfl rfl
 have Fz:=hI.toInCall.keep
 have csb:∀q∈cellsFrom (ia+2+1) dD.names [],ia+2+1<=q.2:=λq hq=>of_decide_eq_true (aL.mp (fX dD.names (ia+2+1)) q hq)
 have VT:∀{c:aO},c<ia+3->(cellsFrom (ia+2+1) dD.names []).find? (λp=>p.2==c)=none:=λ{c} hc=>by
  refine jj.mpr λq hq hb=>?_
  have h1:=csb q hq;rw[beq_iff_eq.mp hb]at h1;exact absurd hc (cV.mpr h1)
 have e01:ia≠ia+1:=bx (bg _)
 have e02:ia≠ia+2:=bx (eN (by decide))
 have e12:ia+1≠ia+2:=bx (bg _);generalize WR:mP (ia+2) (ia+1) iw.length (cellsFrom (ia+2+1) dD.names []) cl O=O' at*
 have yF:O' (ia+1)=some (.own iw.length 0):=by refine eL WR ?_;unfold mP;exact eW (if_neg e12)<|eW (if_pos rfl) rfl
 have hOi:O' ia=none:=by
  refine eL WR ?_;unfold mP;rw[if_neg e02,if_neg e01,VT (eN (by decide))];dsimp only;split
  . rfl
  . exact eW (hO0 (aT _)) rfl
 have I4:lJ C G1 lM.heap ia ds:=I.ext (.refl G1) λo' e=>Fz _ _ (a_ _ e)
 have held:∀c o',s.heap.get? c=some o'->¬qi O' c:=λc o' e q2=>bS q2 λr hr hl=>by
  have hc:c<ia:=by
   induction q:decide (c<ia)using ax with
   |true=>exact of_decide_eq_true q
   |false=>rw[Dm (bu (of_decide_eq_false q))]at e;exact nn e
  rw[<-WR]at hr;unfold mP at hr;rw[if_neg (bx (az hc (aP _ _))),if_neg (bx (az hc (aP _ _))),VT (az hc (aP _ _))]at hr;dsimp only at hr;split at hr
  . exact nn hr
  . (refine bS (cE.mp hr) λ_ _ q3=>?_;subst q3)
    exact hl rfl
 have Y9:(ia+1==sysModules)=false:=by
  have:=Fp (s:={aM with heap:=aM.heap.push o}) H.base (W1.grow (cO o));dsimp only at this;rw[Yn]at this;exact this
 have rd:=H.room.depth
 have ru:=H.room.units;rw[Ao]at rd ru;refine kH (loop G1 O' _ lM (ia+1) ia (ia+2) ⟨H.base,⟨H.room.handled,(room_in H Ao).1,(room_in H Ao).2⟩,W3.grow Fz,Fin⟩ yF (Fz _ _ WV) I4 ⟨nF1 (aT _),VX (aT _),hOi,o,Fz _ _ hi3⟩ (λj y hy hk hc=>?_) xs.o (Dm (aT _)) (Dm (by lia)) rfl e12 Y9) λr s' h'=>M4 h' λf e G' X' W' h' p=>xE h' λcH F'=>?_
 . have hl:j<(bD m Slot.unset++Pt).length:=by
    refine eW Fin.len ?_;induction q:decide (j<iw.length)using ax with
    |true=>exact of_decide_eq_true q
    |false=>rw[ba (bu (of_decide_eq_false q))]at hy;exact nn hy
   (refine m9 (Fin.pY j y _ hy (aV hl) hk) λ_ c ov e1 q4=>?_;obtain⟨oc,e2,e3⟩:=q4;intro _)
   rw[hc]at e1;cases e1
   (refine bS (HC I4) λo2 e4 e5=>?_)
   rw[e4]at e2;cases e2;exact e5 _ e3
 . subst e
   (refine jP (F'.iN _ _ F'.lN) λl1 l2 _=>?_)
   (refine jP (F'.iN _ _ yF) λd1 d2 _=>?_)
   (refine bS (F'.loc) λmm hm _=>?_)
   exact h (ia+1) (ia+2) G' s' f ⟨bW.out (Step.refl C G s) X' held,W',Dm (by lia),Dm (by lia),e12,l1,l2,⟨mm,hm⟩,d1,d2⟩ p
end
section
variable {G0:Gh}
def Sz(C:Cx)(G:Gh)(h₀ h:eu)(v:aB)(L:aO):EV->Prop
 |.fv d=>Rep C G v d
 |.bor _=>False
 |.own t=>∃bq:aO->Option Role,(∀a r,bq a=some r->h₀.get? a=none/\(∃k,r=.own 0 k/\k≠nZ)/\G.F a=none/\eQ C G a/\∃o,h.get? a=some o)/\dO C G bq h (λk=>some (.own 0 k)) v t/\bq L=none
structure uk(C:Cx)(G:Gh)(s:aN)(wl:WL)(D L:aO)(e:EV)(G':Gh)(s':aN):Prop where
 x:Step C G G' s s'
 w:bz C G' wl s'.heap
 nL:s.heap.get? L=none
 fL:G'.F L=none
 yI:eQ C G' L
 ns:∃m,s'.heap.Ns L m
 r:Sz C G' s.heap s'.heap (.ref D) L e
theorem Mz.freeze(e:Mz C G s wl D L G' s'){o:jY}(ho:s'.heap.get? D=some o)(R:∀ES:Gh,Ext G' ES->ES.F D=some o->Rep C ES (.ref D) d):∃ES,uk C G s wl D L (.fv d) ES s':=by
 have hx:Ext G' (G'.with s'.heap λa=>a=D):=⟨λa o q=>by
  by_cases z:a=D
  . subst z;rw[e.fD]at q;exact nn q
  . exact eW (d8 (P:=λa=>a=D) z)<|q,λ_ q=>q⟩
 refine⟨G'.with s'.heap λa=>a=D,⟨e.x.ext.trans hx,e.x.keep,e.x.alive,λa o q=>?_,e.x.kC,e.x.gens,e.x.os⟩,⟨λa o q=>?_,λa o q=>hx.f _ _ (e.w.base a o q),λq hq=>?_,?_⟩,e.nL,?_,e.yI,e.ns,R _ hx ((fS (P:=λa=>a=D) rfl).trans ho)⟩
 . by_cases z:a=D
   . subst z;exact .inr e.nD
   . rw[d8 (P:=λa=>a=D) z]at q;exact e.x.lx a o q
 . by_cases z:a=D
   . rw[fS (P:=λa=>a=D) z]at q;exact q
   . rw[d8 (P:=λa=>a=D) z]at q;exact e.w.sub a o q
 . (refine u9 (e.w.tabs q hq) λh1 h2 ps h3 h4 h5=>?_)
   refine⟨?_,h2,ps,h3,h4,λpos cv e=>(h5 pos cv e).mono hx.f⟩;exact eW (d8 (P:=λa=>a=D) λz=>e.wx.1 q hq z)<|h1
 . have W':=e.w.well
   show gH C (G'.with s'.heap λa=>a=D) s'.heap G'.aw wl;induction hw:G'.aw using aA with
   |none=>rw[hw]at W';induction wl using aA<;>first|exact W'.elim|exact trivial
   |some b=>
    rw[hw]at W';induction wl using aA with
    |none=>exact W'.elim
    |some ds=>
     (refine nW W' ?_;clear W';intro h1 vs n h2 r)
     refine⟨?_,vs,n,h2,r.mono hx⟩;exact eW (d8 (P:=λa=>a=D) λz=>e.wx.2 (z▸hw))<|h1
 . exact eW (d8 (P:=λa=>a=D) λz=>e.ne z.symm)<|e.fL
theorem Mz.own(e:Mz C G s wl D L G' s'){o:jY}(ho:s'.heap.get? D=some o)(R:∀bq:aO->Option Role,bq D=some (.own 0 0)->dO C G' bq s'.heap (λk=>some (.own 0 k)) (.ref D) t):uk C G s wl D L (.own t) G' s':=by
 refine⟨e.x,e.w,e.nL,e.fL,e.yI,e.ns,λa=>if a=D then some (.own 0 0)else none,λa r q=>?_,R _ (if_pos rfl),if_neg (d6 e.ne)⟩;dsimp only at q;by_cases z:a=D
 . subst z
   rw[if_pos rfl]at q;cases q;exact⟨e.nD,⟨0,rfl,by decide⟩,e.fD,e.wx,o,ho⟩
 . rw[if_neg z]at q;exact nn q
theorem uk.pe{e:EV}(x:uk C G s wl D L e G' s')(sb:cQ L s'.heap h'):PE C G O s e wl (.ref D) {s' with heap:=h'}:=by
 refine⟨G',x.x.mod (t:=s'.toks) x.nL sb,x.w.mod x.fL x.yI sb,?_⟩
 have r:=x.r;induction e using EV.casesOn with
 |fv d=>exact r
 |bor t=>exact r.elim
 |own t=>
  (refine dU r ?_;clear r;intro bq m T nL)
  refine⟨bq,λa r q=>?_,T.at_ λa k q o ho=>(sb.2 a λz=>by rw[z,nL]at q;exact nn q).trans ho⟩
  (refine m_ (m a r q) λh1 h2 h3 h4 o h5=>?_)
  have:a≠L:=λz=>by rw[z,nL]at q;exact nn q
  exact⟨h1,h2,h3,h4,o,(sb.2 a this).trans h5⟩
theorem uk.post{e:EV}(x:uk C G s wl D L e G' s')(f:Flow):compPost C.M A ef none (PE C G O s e wl) (.ref D) L (.ok f) s':=
 xE (x.ns) λm hm=>
 ⟨m,hm,λ_ sb=>x.pe sb⟩
theorem uk.stored{e:EV}(V:uk C G s wl D L e G' s')(F0:cJ C G O sc ns env fr s.heap)(hx:ns[i]?=some x)(he:e.Df=some sl)(hs:setSlot fr i sl=some cH)(f:Flow):
 compPost C.M A ef (some (assign (.Name x px) env)) (λ_ qm=>PS C G O sc ns env s .next cH wl .next qm) (.ref D) L (.ok f) s':=by
 show aJ C.M A (assign (.Name x px) env (.ref D)) _ _ _
 have oL:O L=none:=by
  induction q:O L using aA with
  |none=>rfl
  |some r=>(refine mF (F0.iN _ _ q) λ_ _ o ho=>?_);rw[V.nL]at ho;exact nn ho
 have ncL:=F0.mS V.nL
 have fin:∀{O2:aO->Option Role},bW C G G' O O2 s s'->cJ C G' O2 sc ns env fr s'.heap->O2 L=none->cT C G' O2 s'.heap i sl (some (.ref D))->sl.writable=true->
  aJ C.M A (assign (.Name x px) env (.ref D)) (λ_ qm=>∃m,qm.heap.Ns L m/\∀h',cQ L qm.heap h'->PS C G O sc ns env s .next cH wl .next {qm with heap:=h'}) ef s':=λ{O2} X F oL2 S hw=>by
  refine assign_Name (vg V.w F hx hs hw F.iN (λ_ _ e _=>e) (λ_ _ e=>.inr e) (λ_ _ e=>.inl e) S λqm a W' F' he sb hr al=>?_)
  (refine u7 he ?_;clear he;intro h'' tk q1;subst q1)
  (refine xE (V.ns) λm hm=>?_)
  have haL:L≠a:=λz=>by
   (refine bS hr ?_;clear hr;intro r h1 _)
   rw[<-z,oL2]at h1;exact nn h1
  refine⟨m,hm.sameBut sb haL,λh' Qk=>?_⟩
  have hn:s.heap.get? a=none\/qi O a:=by
   induction q:s.heap.get? a using aA with
   |none=>exact .inl rfl
   |some o=>
    by_cases hh:qi O a
    . exact .inr hh
    . exact absurd (FI hr) (X.own a o q hh)
  have X2:=X.mod (t:=tk) hn sb al
  have k:=eH Qk;exact⟨G',O2,X2.loose (t:=tk) V.nL k,W'.loose V.fL V.yI k,F'.loose oL2 ncL k,trivial⟩
 exact match e,he,V.r with
 |.fv d,he,r=>fin V.x.o (F0.step V.x) oL (ag he▸⟨_,rfl,r⟩) (ag he▸rfl)
 |.own t,he,r=>dU r λbq p T nL=>by
  have m:nU C G' s.heap s'.heap 0 bq:=λa r e=>jP (p a r e) λq1 q2 q3=>⟨q1,bS q2 λk h1 h2=>⟨0,k,h1,aT _,h2⟩,q3⟩;refine fin (rn (is:=[i]) V.x m) (F0.zA V.x m) ?_ (ag he▸⟨_,rfl,dO.relabel (λa k e=>?_) T⟩) (ag he▸rfl)
  . unfold oo
    exact eW nL<|oL
  . unfold oo;exact eW e rfl
def P0(C:Cx)(bp:my)(k:Nat)(sc:Sc)(ns:List bB)(e:af)(ir:IE):Prop:=
 ∀(G:Gh)(O:aO->Option Role)(env:qZ)(A:fF)(s:aN)(fr:List Slot)(wl:WL)(y:EV)(bQ:WL)(x:bB)(px:dN)(i:Nat)(sl:Slot)(cH:List Slot),ev bp ir fr wl=some (y,bQ)->Here C G O sc ns env fr wl k A s->ns[i]?=some x->
  y.Df=some sl->setSlot fr i sl=some cH->aJ C.M A (evalThenUse e env (assign (.Name x px) env)) (λ_ s'=>PS C G O sc ns env s .next cH bQ .next s') ef s
theorem GH{l:Nat}:(∃b,swapsWith e (some (.Name x px)) l env=pure b):=by
 induction e using bE<;>first|exact⟨false,rfl⟩|exact⟨_,rfl⟩
theorem GX{pos:dN}{a:IE}(hx:ns[i]?=some x)(ha:dT C bp k sc ns e a)(hu:P0 C bp k sc ns e a):jy C bp N k sc ns (.Assign [.Name x p] e pos) (.assign i a):=λG O env A s fr wl fl cH bQ q H=>f7 q λy w1 q1 q=>ob q λsl hs q=>MD q λf9 q3=>xE (GH (env:=env) (e:=e) (x:=x) (px:=p) (l:=pos.line)) λb hb=>match b,hb with
 |false,hb=>xY (ha.run H q1 λv aM G1 x1 H1 R1=>cX (AN H.F x1 H1.W R1 hx hs q3) λ_ s' h=>h.next) hb
 |true,hb=>by
  exact eW (exec_Assign_Name_used _ _ _ _ hb)<|ai (b_ (ai (cX (hu G O env A s fr wl y w1 x p i sl f9 q1 H hx hs q3) λ_ s' h=>ar h)))
end
section
variable {G0:Gh}
abbrev ft:jY:={cls:=.type "list",data:=.seq ([]:List aB).toArray}
def xX(C:Cx)(bp:my)(k:Nat)(sc:Sc)(ns:List bB)(e it:af)(dD:jF)(zw:Sem aB)(ir:IE):Prop:=
 ∀(G:Gh)(O:aO->Option Role)(env:qZ)(A:fF)(s:aN)(fr:List Slot)(wl:WL)(y:EV)(bQ:WL)(p:dN)(use:Option (aB->Sem Unit))(Q:aB->aN->Prop),ev bp ir fr wl=some (y,bQ)->Here C G O sc ns env fr wl k A s->
  (∀D L G' s' f,uk C G s bQ D L y G' s'->compPost C.M A ef use Q (.ref D) L (.ok f) s')->aJ C.M A (comprehension e dD env p zw false (eval it env) use) Q ef s
theorem xX.list{t:af}{pos:dN}(h:xX C bp k sc ns (.ListComp elt (⟨t,it,ifs,0⟩::gs) dD pos) it dD (newList []) ir)
 (he:∀fr wl,eK bp ir fr wl=(ev bp ir fr wl).bind λx=>(iT x.1).map λb=>(b,x.2)):
 dT C bp k sc ns (.ListComp elt (⟨t,it,ifs,0⟩::gs) dD pos) ir/\P0 C bp k sc ns (.ListComp elt (⟨t,it,ifs,0⟩::gs) dD pos) ir:=by
 refine⟨.mk' (λG O env A s fr wl e bQ q H=>?_) (λ_ _=>rfl) he rfl,λG O env A s fr wl y bQ x px i sl cH q H hx hy hs=>?_⟩
 . exact h G O env A s fr wl e bQ it.pos none _ q H λD L G' s' f V=>V.post f
 . show aJ C.M A (do let _<-comprehension (.ListComp elt (⟨t,it,ifs,0⟩::gs) dD pos) dD env it.pos (newList []) false (eval it env) (some (assign (.Name x px) env))) _ ef s
   exact ai (cX (h G O env A s fr wl y bQ it.pos (some (assign (.Name x px) env)) (λ_ s'=>PS C G O sc ns env s .next cH bQ .next s') q H λD L G' s' f V=>V.stored H.F hx hy hs f) λ_ _ p=>ar p)
theorem xX.dict{kx vx t:af}{pos:dN}(h:xX C bp k sc ns (.DictComp kx vx (⟨t,it,ifs,0⟩::gs) dD pos) it dD newDict ir)
 (he:∀fr wl,eK bp ir fr wl=(ev bp ir fr wl).bind λx=>(iT x.1).map λb=>(b,x.2)):
 dT C bp k sc ns (.DictComp kx vx (⟨t,it,ifs,0⟩::gs) dD pos) ir/\P0 C bp k sc ns (.DictComp kx vx (⟨t,it,ifs,0⟩::gs) dD pos) ir:=by
 refine⟨.mk' (λG O env A s fr wl e bQ q H=>?_) (λ_ _=>rfl) he rfl,λG O env A s fr wl y bQ x px i sl cH q H hx hy hs=>?_⟩
 . exact h G O env A s fr wl e bQ it.pos none _ q H λD L G' s' f V=>V.post f
 . show aJ C.M A (do let _<-comprehension (.DictComp kx vx (⟨t,it,ifs,0⟩::gs) dD pos) dD env it.pos newDict false (eval it env) (some (assign (.Name x px) env))) _ ef s
   exact ai (cX (h G O env A s fr wl y bQ it.pos (some (assign (.Name x px) env)) (λ_ s'=>PS C G O sc ns env s .next cH bQ .next s') q H λD L G' s' f V=>V.stored H.F hx hy hs f) λ_ _ p=>ar p)
theorem JB{t:af}{pos:dN}{own:Bool}{a:IE}{g:IG}(Ao:sc.lv=lv+1)(hi:dT C bp k sc ns it a)(hn:gV it=true)
 (Ws:i7 sc.s dD ns iw m aX=true)(ht:cY iw t f6=true)(L:fO (dT C bp k ⟨dD,none,lv⟩ iw) ifs il)(IC:∀g∈(⟨t,it,ifs,0⟩::gs:List cP),g.is_async=0)
 (hr:Ii C bp k ⟨dD,none,lv⟩ iw elt (⟨t,it,ifs,0⟩::gs) dD pos 1 g):xX C bp k sc ns (.ListComp elt (⟨t,it,ifs,0⟩::gs) dD pos) it dD (newList []) (.comp own m aX a f6 il g):=λG O env A s fr wl y bQ p use Q q H mN=>by
 refine f7 q λy0 w1 q1 q=>ob q λds q2 q=>ob q2 λd0 h1 q2=>ob q λPt q3 q=>ob q λz q4 q=>dV q λhz q=>?_
 have q1:ev bp a fr wl=some (.fv d0,w1):=eh (P:=λy0=>ev bp a fr wl=some (y0,w1)->_) h1 (λh=>h) q1;clear h1
 revert mN
 refine sp (P:=λy bQ=>(∀D L G' s' f,uk C G s bQ D L y G' s'->compPost C.M A ef use Q (.ref D) L (.ok f) s')->_) q λmN=>?_;refine wH (od:=ft) (w2:=z.2.2) (P:=λG' h D L=>∃vs n,h.get? D=some {cls:=.type "list",data:=.seq vs n}/\bA C G' vs.toList z.2.1) rfl rfl hn Ao (z3 Ws) hi (λh=>jE h) rfl q1 q2 q3 H
  (λG1 O' iC lM D ia L' H4 yF hD I Lo nc X n0 _ _ _ _=>?_) λD L' G' s' f e h=>gf h λvs n hD hR=>?_
 . have d:=H4.F.iN _ _ yF
   have go:=K2 (d:=0) (gens:=⟨t,it,ifs,0⟩::gs) (elt:=elt) (scope:=dD) (pos:=pos) rfl IC ht L hr (show ki (AE bp f6 il g) ds (_,[],w1)=some (z.1,z.2.1,z.2.2)from q4) (dP hz) X n0 H4 ⟨D,rfl,yF,d.2.1,d.1,#[],0,hD,.nil⟩ I Lo nc
   have go':=kH go (R':=λr s'=>∃f,r=.ok f/\∃G',bW C G G' O' O' s s'/\bz C G' z.2.2 s'.heap/\(∃cH,cJ C G' O' ⟨dD,none,lv⟩ iw iC cH s'.heap)/\∃vs n,s'.heap.get? D=some {cls:=.type "list",data:=.seq vs n}/\bA C G' vs.toList z.2.1) λr s' h=>
    bS h λf e h=>oz h λG' X' W' F' R'=>⟨f,e,G',X',W',⟨_,F'⟩,(lu R').2.2.2⟩
   exact AO (d:=0) (gens:=⟨t,it,ifs,0⟩::gs) rfl go' (rD I go')
 . induction own using ax with
   |true=>exact mN D L' G' s' f (e.own hD λbq hO=>⟨D,rfl,hO,e.wx,e.fD,vs,n,hD,hR⟩)
   |false=>exact xE (e.freeze hD (d:=.list z.2.1) λES x hF=>.list (vs:=vs.toList) (n:=n) (by simpa using hF) (hR.mono x)) λG2 V=>mN D L' G2 s' f V
end
section
variable {G0:Gh}
def Jd(bp:my)(f6:Nat)(v:IE)(a:List Slot×List (Int×FV)×WL)(k:FV):Option (List Slot×List (Int×FV)×WL):=Pm f6 a (λf9=>ev bp v f9 a.2.2) k
theorem yh{f6:Nat}{v:IE}{a b:List Slot×List (Int×FV)×WL}{k:FV}(q:Jd bp f6 v a k=some b):∃i f9 d w,k=.int i/\c7 a.1 [f6] (.int i)=some f9/\ev bp v f9 a.2.2=some (.fv d,w)/\b=(f9,dE a.2.1 i d,w):=
 ob q λi h0 q=>ob q λf9 h1 q=>f7 q λy w h2 q=>Am q λd h3 e=>⟨i,f9,d,w,FV.DZ (P:=λk=>k=.int i) h0 rfl,h1,(eh (P:=λy=>ev bp v f9 a.2.2=some (y,w)->_) h3 λh=>h) h2,(ag e).symm⟩
theorem tI{i:Int}:∀{es:List (Int×FV)},es.length<=(dE es i d).length
 |[]=>aU _
 |(j,e)::r=>by
  unfold dE;split
  . exact aT _
  . exact cB tI
theorem vb{f6:Nat}{v:IE}{a b:List Slot×List (Int×FV)×WL}{k:FV}(q:Jd bp f6 v a k=some b):a.2.1.length<=b.2.1.length:=by
 exact jG (yh q) λi f9 d w h=>fA h λ_ _ _ e=>e▸tI
def DictAt(C:Cx)(G:Gh)(h:eu)(D:aO)(es:List (Int×FV)):Prop:=
 ∃f vs,h.MapOf (ik C) D f/\bA C G vs (es.map (·.2))/\(∀k,f k=((es.map (·.1)).zip vs).lookup k)/\h.DictLe D es.length/\(es.map (·.1)).Nodup
theorem DictAt.step{es:List (Int×FV)}(x:Step C G G' s s')(f:eQ C G D)(d:DictAt C G s.heap D es):DictAt C G' s'.heap D es:=by
 exact gf d λf0 vs h1 h=>fA h λh2 h3 h4 h5=>xE (fY h1) λo ho=>⟨f0,vs,lz (x.at_ f) h1,h2.mono x.ext,h3,lh (x.at_ f) ho h4,h5⟩
theorem DictAt.same{es:List (Int×FV)}(k:c8 h h' D)(d:DictAt C G h D es):DictAt C G h' D es:=by
 exact gf d λf0 vs h1 h=>fA h λh2 h3 h4 h5=>xE (fY h1) λo ho=>⟨f0,vs,lz k h1,h2,h3,lh k ho h4,h5⟩
def Xz(C:Cx)(G:Gh)(O:aO->Option Role)(sc:Sc)(ns:List bB)(env:qZ)(D:aO)(s:aN)(run:Gh->aN->Nat->List Slot×List (Int×FV)×WL->Prop)(n:Nat)(s':aN):Prop:=
 ∃G' gX yM jk,bW C G G' O O s s'/\bz C G' jk s'.heap/\cJ C G' O sc ns env gX s'.heap/\DictAt C G' s'.heap D yM/\run G' s' n (gX,yM,jk)
theorem GY{vx t:af}{pos:dN}{own:Bool}{f6:Nat}{a b:IE}(Ao:sc.lv=lv+1)(hi:dT C bp k sc ns it a)(hn:gV it=true)
 (Ws:i7 sc.s dD ns iw m aX=true)(ht:cY iw t [f6]=true)(hx:iw[f6]?=some x)(hd:(x==("__debug__":bB))=false)(hc:(x==("__classdict__":bB))=false)(hv:dT C bp k ⟨dD,none,lv⟩ iw vx b):
 xX C bp k sc ns (.DictComp (.Name x p) vx [⟨t,it,[],0⟩] dD pos) it dD newDict (.rO own m aX a f6 b):=λG O env A s fr wl y bQ p' use Q q H mN=>by
 refine f7 q λy0 w1 q1 q=>ob q λds q2 q=>ob q2 λd0 h1 q2=>ob q λPt q3 q=>ob q λz q4 q=>dV q λhz q=>?_
 have q1:ev bp a fr wl=some (.fv d0,w1):=eh (P:=λy0=>ev bp a fr wl=some (y0,w1)->_) h1 (λh=>h) q1;clear h1
 have Td:∃y py,t=.Name y py:=kL ht λx p _=>⟨_,_,rfl⟩
 (refine u7 Td ?_;clear Td;intro yt pt q1;subst q1)
 revert mN
 refine sp (P:=λy bQ=>(∀D L G' s' f,uk C G s bQ D L y G' s'->compPost C.M A ef use Q (.ref D) L (.ok f) s')->_) q λmN=>?_;refine wH (od:={cls:=.type "dict",data:=.dict #[]}) (w2:=z.2.2) (P:=λG' h D L=>DictAt C G' h D z.2.1/\(D==sysModules)=false) rfl rfl hn Ao (z3 Ws) hi (λh=>by simp only[newDict,newObj];exact ai (tp (ar h))) rfl q1 q2 q3 H
  (λG1 O' iC lM D ia L' H4 yF hD I Lo nc X n0 hDn _ _ KR=>?_) λD L' G' s' f e h=>xA h λhD KR=>?_
 . have d:=H4.F.iN _ _ yF
   have ID:D≠ia:=λe=>by rw[e,Lo.own]at yF;exact nn yF
   have D0:DictAt C G1 lM.heap D []:=by
    refine⟨λ_=>none,[],⟨_,#[],0,hD,⟨rfl,rfl,rfl⟩,rfl,λe he=>(by simp at he),λk=>rfl⟩,.nil,λ_=>rfl,λo es ep ho hd=>?_,eC⟩;rw[hD]at ho;cases ho;cases hd;exact aT _
   have go:codeAny C.M A (.compLoop (.DictComp (.Name x p) vx [⟨.Name yt pt,it,[],0⟩] dD pos) 0 (.ref ia) (.ref D) iC)
    (λr s'=>∃f,r=.ok f/\∃G',bW C G G' O' O' s s'/\bz C G' z.2.2 s'.heap/\(∃cH,cJ C G' O' ⟨dD,none,lv⟩ iw iC cH s'.heap)/\DictAt C G' s'.heap D z.2.1/\(D==sysModules)=false) lM:=by
    refine codeAny_compLoop_testsD (Xz C G O' ⟨dD,none,lv⟩ iw iC D s λG' s' n a=>∃rest,n=rest.length/\lJ C G' s'.heap ia rest/\Loose C G' O' s'.heap ia/\ki (Jd bp f6 b) rest a=some (z.1,z.2.1,z.2.2)) (λn s' hI=>?_) ds.length ⟨G1,_,[],w1,X,H4.W,H4.F,D0,ds,rfl,I,Lo,q4⟩;refine jG hI λG' gX yM jk h=>kI h λX W F DA h=>oz h λrest hn I Lo q=>?_;subst hn
    have d:=F.iN _ _ yF;induction rest using bP with
    |nil=>
     have e1:gX=z.1:=(gc (ag q)).1
     have e2:yM=z.2.1:=(gc (gc (ag q)).2).1
     have e3:jk=z.2.2:=(gc (gc (ag q)).2).2;subst e1 e2 e3;exact zF H.room.handled X n0 nc W F I Lo λs1 X W F k=>⟨_,rfl,G',X,W,⟨_,F⟩,DA.same (k _ ID),KR⟩
    |cons v0 rest=>
     refine ob q λy q6 q7=>?_
     have hb3:y.2.1.length<=z.2.1.length:=nz (m:=λa=>a.2.1.length) (λa v b q=>vb q) q7
     have hb1:=vb q6;refine jG (yh q6) λi0 K3 dv Y6 h=>fA h λe0 q8 q9 e6=>?_;subst e0 e6;dsimp only at hb1 hb3;refine vW X n0 nc W F I Lo λv s1 Rv nx=>?_;refine cX (wR (s:=s1) H.room.handled nx.W nx.F Rv ht q8) λ_ et pv=>wpAny_tests_nil ?_
     have DA3:DictAt C G' et.heap D yM:=(DA.same (nx.k _ ID)).same (pv.m D _ yF (.inr ⟨_,_,rfl⟩));refine eW (if_pos rfl) ?_
     have Z4:K3[f6]?=some (.val (.int i0)):=by
      exact dU (set_slot q8) λold h1 _ h3=>h3▸ct (fB h1)
     have H3:Here C G' O' ⟨dD,none,lv⟩ iw iC K3 jk k A et:=⟨H4.base,H4.room,pv.w,pv.f⟩;refine(Ql (bp:=bp) hx hd hc).run (x:=.fv (.int i0)) (bQ:=jk) H3 (by refine eW fi<|eW Z4 ?_;rfl) λkv CW G5 x5 H5 R5=>uc R5 λtkk=>hv.run H5 q9 λvv acs G6 x6 H6 R6=>?_
     have xx:=x5.trans x6
     have d3:=H6.F.iN _ _ yF;refine gf (DA3.step xx (pv.f.iN _ _ yF).2.1) λf0 vs h1 h=>fA h λh2(h3:∀k,f0 k=lk yM vs k) h4 h5=>?_;refine nx.next (pv.x.trans xx.o) λX I L=>?_
     refine map_set (C:=C) (tN i0 _) h1 h4 (by have:=kY hz;lia) λh7 sb7 ZX hl7=>xE (tH (j:=i0) R6 h2) λCy I7=>?_
     have k7:=eH sb7;exact⟨rest.length,bg _,G6,K3,_,Y6,X.Ki (.inl hDn) k7 (fY ZX),H6.W.loose d3.1 d3.2.1 k7,H6.F.outside yF (aT _) k7 (fY ZX),⟨_,Cy,ZX,I7.Sf,λk=>by
      show _=lk _ _ _;exact eW (I7.lk ..)<|eL (h3 ..) rfl,by exact eW I7.len<|eL (h3 ..)<|hl7,I7.nd h5⟩,rest,rfl,I.ext (.refl G6) (k7 _ (d6 ID)),⟨L.f,L.free,L.own,xE L.has λo3 ZV=>⟨o3,k7 _ (d6 ID) _ ZV⟩⟩,q7⟩
   exact codeAny_compStart_dict go (rD I go)
 . refine gf hD λf0 vs h1 h=>fA h λh2 h3 h4 h5=>xE (fY h1) λo ho=>?_
   induction own using ax with
   |true=>exact mN D L' G' s' f (e.own ho λbq hO=>⟨D,rfl,hO,e.wx,e.fD,KR,f0,vs,h1,h2,h3,h4,h5⟩)
   |false=>exact xE (e.freeze ho (d:=.dict z.2.1) λES x hF=>.dict hF (λh' e'=>vM ho h1 e') KR (h2.mono x) h3) λG2 V=>mN D L' G2 s' f V
end
section
variable {G0:Gh}
structure pn(C:Cx)(G:Gh)(O:aO->Option Role)(s:aN)(h:eu)(D L ia:aO)(b:aO):Prop where
 lo:Loose C G O h b
 eq:h.get? b=some ft
 new:s.heap.get? b=none
 nD:b≠D
 nL:b≠L
 ni:b≠ia
theorem pn.step{b:aO}(x:bW C G G' O O' s' qm)(f:pn C G O s s'.heap D L ia b):pn C G' O' s qm.heap D L ia b:=⟨f.lo.step x,f.lo.same x _ f.eq,f.new,f.nD,f.nL,f.ni⟩
theorem pn.same{b:aO}(k:c8 h h' b)(f:pn C G O s h D L ia b):pn C G O s h' D L ia b:=⟨⟨f.lo.f,f.lo.free,f.lo.own,_,k _ f.eq⟩,k _ f.eq,f.new,f.nD,f.nL,f.ni⟩
noncomputable def placeOf(bs:List aO)(a:aO):Option Nat:=bs.findIdx? (λb=>b==a)
theorem JZ{bs:List aO}(nd:bs.Nodup){b:aO}(hj:bs[j]?=some b):placeOf bs b=some j:=by
 unfold placeOf
 have oj:=fB hj;refine iW jB ?_;rw[aV oj]at hj;refine⟨oj,by simpa using ag hj,λi hi=>?_⟩;simp only[beq_iff_eq];intro e
 have WA:i<bs.length:=dk hi oj
 have e2:bs[j]=b:=ag hj
 have:i=j:=(jL WA nd).mp (by refine eW (aV WA)<|eW (aV oj) ?_;exact congrArg some (e.trans e2.symm));exact absurd hi (by exact eW this<|b8 _)
theorem sq{bs:List aO}(h:placeOf bs a=some j):bs[j]?=some a:=by
 unfold placeOf at h
 (refine bS (jB.mp h) λoj h1 _=>?_)
 exact eW (aV oj)<|eW (beq_iff_eq.mp h1) rfl
theorem Dy{bs:List aO}(hl:bs.length=xs.length)(hb:∀(i:Nat)(b:aO),bs[i]?=some b->bq b=some (.own 0 (j+i))/\eQ C G b/\G.F b=none/\h.get? b=some ft):
 gv C G bq h (λk=>some (.own 0 k)) j (bs.map .ref) (xs.map λ_=>[]):=
 l2 (P:=λbs xs=>∀j,bs.length=xs.length->(∀(i:Nat)(b:aO),bs[i]?=some b->bq b=some (.own 0 (j+i))/\eQ C G b/\G.F b=none/\h.get? b=some ft)->gv C G bq h (λk=>some (.own 0 k)) j (bs.map .ref) (xs.map λ_=>[])) bs xs (λ_ _ _=>trivial)
  (λb bs x xs ih j hl hb=>fA (hb 0 b rfl) λh1 h2 h3 h4=>⟨⟨b,rfl,h1,h2,h3,#[],0,h4,.nil⟩,ih (j+1) (kM hl) λi b' hi=>(dc j 1 i).symm▸hb (i+1) b' hi⟩) (λ_ _ _ hl=>nomatch hl) (λ_ _ _ hl=>nomatch hl) j hl hb
theorem HB(e:uL d=some ds):ds.length<=2^20:=oe e
 (λ_ e=>ob e λr _ e=>dV e λOZ e=>rT OZ λ_ _ h=>by
   have:=dP h;rw[<-ag e,aj,oM,aj,aq];exact this)
 λx _ e=>zY e λhn e=>e▸dP hn
def LLs(C:Cx)(G:Gh)(s:aN)(h:eu)(D L:aO)(l:Nat):Prop:=
 ∃(bs:List aO)(n:Nat),h.get? D=some {cls:=.type "list",data:=.seq (bs.map um).toArray n}/\bs.Nodup/\bs.length=l/\∀b∈bs,s.heap.get? b=none/\b≠D/\b≠L/\eQ C G b/\G.F b=none/\h.get? b=some ft
def Xy(C:Cx)(G:Gh)(O:aO->Option Role)(sc:Sc)(ns:List bB)(env:qZ)(D ia:aO)(s:aN)(wl:WL)(f6 l n:Nat)(s':aN):Prop:=
 ∃G' gX rest,∃bs:List aO,∃m0:Nat,n=rest.length/\bW C G G' O O s s'/\bz C G' wl s'.heap/\cJ C G' O sc ns env gX s'.heap/\(∃sl,gX[f6]?=some sl/\sl.writable=true)/\
  s'.heap.get? D=some {cls:=.type "list",data:=.seq (bs.map um).toArray m0}/\bs.Nodup/\bs.length+rest.length=l/\(∀b∈bs,pn C G' O s s'.heap D env.locals ia b)/\lJ C G' s'.heap ia rest/\Loose C G' O s'.heap ia
theorem C2{t:af}{pos:dN}{f6:Nat}{a:IE}(Ao:sc.lv=lv+1)(hi:dT C bp k sc ns it a)(hn:gV it=true)
 (Ws:i7 sc.s dD ns iw m aX=true)(ht:cY iw t [f6]=true):xX C bp k sc ns (.ListComp (.List [] p) [⟨t,it,[],0⟩] dD pos) it dD (newList []) (.sU m aX a f6):=λG O env A s fr wl y bQ p' use Q q H mN=>by
 refine f7 q λy0 w1 q1 q=>ob q λds q2 q=>ob q2 λd0 h1 q2=>ob q λPt q3 q=>dV q λhm q=>?_
 have q1:ev bp a fr wl=some (.fv d0,w1):=eh (P:=λy0=>ev bp a fr wl=some (y0,w1)->_) h1 (λh=>h) q1;clear h1
 have Td:∃y py,t=.Name y py/\iw[f6]?=some y:=by
  have ht:zz iw f6 t=true:=ht;exact kL ht λx p h=>⟨_,_,rfl,eq_of_beq h⟩
 (refine gf Td ?_;clear Td;intro yt pt q1;subst q1;intro hyt)
 revert mN
 refine sp (P:=λy bQ=>(∀D L G' s' f,uk C G s bQ D L y G' s'->compPost C.M A ef use Q (.ref D) L (.ok f) s')->_) q λmN=>?_
 have hlen:=HB q2;refine wH (od:=ft) (w2:=w1) (P:=λG' h D L=>LLs C G' s h D L ds.length) rfl rfl hn Ao (z3 Ws) hi (λh=>jE h) rfl q1 q2 q3 H
  (λG1 O' iC lM D ia L' H4 yF hD I Lo nc X n0 hDn qW hDL KR=>?_) λD L' G' s' f e h=>u7 h λbs n h=>fA h λhD Uz BN hb=>?_
 . have ID:D≠ia:=λe=>by rw[e,Lo.own]at yF;exact nn yF
   subst qW
   have hLO:O' iC.locals=some .loc:=H4.F.lN
   have go:codeAny C.M A (.compLoop (.ListComp (.List [] p) [⟨.Name yt pt,it,[],0⟩] dD pos) 0 (.ref ia) (.ref D) iC)
    (λr s'=>∃f,r=.ok f/\∃G',bW C G G' O' O' s s'/\bz C G' w1 s'.heap/\(∃cH,cJ C G' O' ⟨dD,none,lv⟩ iw iC cH s'.heap)/\LLs C G' s s'.heap D iC.locals ds.length) lM:=by
    refine codeAny_compLoop_list (Xy C G O' ⟨dD,none,lv⟩ iw iC D ia s w1 f6 ds.length) (λn s' hI=>?_) ds.length
     ⟨G1,_,ds,[],0,rfl,X,H4.W,H4.F,⟨.unset,by rw[ek (by simpa using hm),og,if_pos hm],rfl⟩,hD,eC,dZ _,λb h=>(nomatch h),I,Lo⟩
    refine jG hI λG' gX rest bs h=>oz h λm0 hn X W h=>kI h λF hs WU Uz h=>fA h λBN lC I Lo=>bS hs λsl eE hwr=>?_;subst hn;induction rest using bP with
    |nil=>
     refine KC H.room.handled W I λh' hx=>?_
     have kk:∀b,b≠ia->c8 s'.heap h' b:=λb q o e=>hx b o q e;exact⟨_,rfl,G',X.loose n0 kk,W.loose Lo.f Lo.free kk,⟨_,F.loose Lo.own nc kk⟩,bs,m0,kk _ ID _ WU,Uz,by simpa using BN,λb hb=>⟨(lC b hb).new,(lC b hb).nD,(lC b hb).nL,(lC b hb).lo.free,(lC b hb).lo.f,kk _ (lC b hb).ni _ (lC b hb).eq⟩⟩
    |cons v0 rest=>
     refine FC W I λv h' tk Rv I' Qk al=>?_
     have kk:=eH Qk
     have X1:=X.loose (t:=tk) n0 kk
     have W1':=W.loose Lo.f Lo.free kk
     have F1':=F.loose Lo.own nc kk
     have L1:Loose C G' O' h' ia:=⟨Lo.f,Lo.free,Lo.own,al⟩
     have ZM:setSlot gX f6 (.val v0)=some (gX.set f6 (.val v0)):=by
      unfold setSlot;refine eW eE ?_;induction sl using Slot.casesOn<;>first|rfl|exact ff hwr
     have Td:=fB eE;refine cX (wR (cH:=gX.set f6 (.val v0)) (s:={s' with heap:=h',toks:=tk}) H.room.handled W1' F1' Rv ht ZM) λ_ et pv=>?_
     have d1:=pv.f.iN _ _ yF
     have WV:=pv.m D _ yF (.inr ⟨_,_,rfl⟩) _ (kk _ ID _ WU);refine eW (Il ..) ?_;refine ai (b_ (ai (m:=spliced []) (mC (jE ?_))))
     have x4:Step C G' G' et {et with heap:=et.heap.push ft}:=.grow _ et.toks (cO _)
     have W4:=pv.w.grow (cO ft)
     have F4:=pv.f.step x4
     have hD4:=cO ft _ _ WV
     have Ye:((bs.map um).toArray).size=bs.length:=by simp
     refine xc iD ⟨_,hD4,rfl⟩ lU (lF _ _) (je D _ m0 _ (by refine eW Ye<|eW dp ?_;exact ak (ak (aP _ _) (bh BN)) (ak hlen (by decide)))) ⟨hD4,?_⟩;refine xE (rk (f:=λz=>z.push (.ref et.heap.objs.size)) hD4) λn' h6=>?_
     have k7:=eH (cA (et.heap.push ft) D (o9 λz=>z.push (.ref et.heap.objs.size)))
     have WS:D≠et.heap.objs.size:=bx (bb WV)
     have XX:=pv.x.trans x4.o
     have L4:=L1.step (s:={s' with heap:=h',toks:=tk}) XX
     have nb:s.heap.get? et.heap.objs.size=none:=none_of ((X1.trans pv.x).alive _) eI
     have nOb:O' et.heap.objs.size=none:=none_of (y:=et.heap.get? et.heap.objs.size) (λr q=>(pv.f.iN _ _ q).2.2) eI;refine xE (pv.f.iN _ _ hLO).2.2 λoL Ww=>xE (L1.step (s:={s' with heap:=h',toks:=tk}) pv.x).has λoi hoi=>?_
     have aaq:pn C G' O' s (et.heap.push ft) D iC.locals ia et.heap.objs.size:=
      ⟨⟨gM pv.w,gq pv.w,nOb,_,hH rfl⟩,hH rfl,nb,d6 WS,e_ (bb Ww),e_ (bb hoi)⟩
     have WC:∀b∈bs,pn C G' O' s (et.heap.push ft) D iC.locals ia b:=λb hb=>pn.step (s':={s' with heap:=h',toks:=tk}) XX ((lC b hb).same (kk _ (lC b hb).ni))
     have WK:∀b∈bs,b≠et.heap.objs.size:=λb hb e=>gone eI (e▸(pn.step (s':={s' with heap:=h',toks:=tk}) pv.x ((lC b hb).same (kk _ (lC b hb).ni))).eq);refine⟨rest.length,bg _,G',_,rest,bs++[et.heap.objs.size],n',rfl,(X1.trans XX).Ki (.inl hDn) k7 ⟨_,h6⟩,W4.loose d1.1 d1.2.1 k7,F4.outside yF (aT _) k7 ⟨_,h6⟩,⟨.val v0,ct Td,rfl⟩,?_,?_,?_,λb hb=>?_,?_,?_⟩
     . refine eW bf ?_
       simpa using h6
     . refine mV.mpr ⟨Uz,by simp,λb hb c hc=>?_⟩
       simp only[aH]at hc;exact eW hc<|WK b hb
     . exact eW aI<|(dc bs.length 1 rest.length).trans BN
     . rcases cp.mp hb with hb|hb
       . exact(WC b hb).same (k7 _ (WC b hb).nD)
       . simp only[aH]at hb
         subst hb;exact aaq.same (k7 _ (d6 WS))
     . exact(I'.ext XX.ext (L1.same (s:={s' with heap:=h',toks:=tk}) XX)).ext (.refl G') (k7 _ (d6 ID))
     . exact⟨L4.f,L4.free,L4.own,xE L4.has λo3 ZV=>⟨o3,k7 _ (d6 ID) _ ZV⟩⟩
   exact codeAny_compStart_list go (rD I go)
 . refine mN D L' G' s' f ⟨e.x,e.w,e.nL,e.fL,e.yI,e.ns,λc=>if c=D then some (.own 0 0)else(placeOf bs c).map λj=>.own 0 (1+j),λc r q=>?_,?_,?_⟩
   . dsimp only at q
     split at q
     . rename_i hc
       cases q;subst hc;exact⟨e.nD,⟨0,rfl,by decide⟩,e.fD,e.wx,_,hD⟩
     . (refine bS (cE.mp q) λj h1 q2=>?_;subst q2)
       (refine iS (hb c (aF (sq h1))) λb1 b2 b3 b4 b5 b6=>?_)
       have hj:j<bs.length:=(c9.mp (sq h1)).1;exact⟨b1,⟨_,rfl,λe=>by
        have:1+j=1073741824:=e;lia⟩,b5,b4,_,b6⟩
   . refine⟨D,_,n,rfl,if_pos rfl,e.wx,e.fD,hD,?_⟩
     refine Dy BN λi b hi=>?_
     (refine iS (hb b (aF hi)) λb1 b2 b3 b4 b5 b6=>?_)
     refine⟨?_,b4,b5,b6⟩;exact eW (if_neg b2)<|eW (JZ Uz hi) rfl
   . dsimp only
     refine eW (if_neg (d6 e.ne)) ?_;induction q:placeOf bs L' using aA with
     |none=>rfl
     |some j=>exact absurd rfl (hb _ (aF (sq q))).2.2.1
end
section
variable {G0:Gh}
theorem BP{P:aO}{Nw:aO->Prop}[DecidablePred Nw](B:Base C)(W:bz C G wl s.heap)(hx:∀b o,b≠P->s.heap.get? b=some o->h.get? b=some o)(hN:∀a,Nw a->s.heap.get? a=none)(hP:∃c,(c,P)∈C.tabs)
 (hT:∃ps,h.get? P=some (tabObj ps)/\TriplesOk ps.toList/\∀pos cv,codeAmong pos ps.toList=some cv->mW (G.with h Nw).F cv (C.tq P)):
 Ext G (G.with h Nw)/\Step C G (G.with h Nw) s {s with heap:=h,toks:=tk}/\bz C (G.with h Nw) wl h:=by
 (refine xE hP ?_;clear hP;intro c hc)
 have xe:Ext G (G.with h Nw):=ju W.sub hN
 (refine qk (W.tabs _ hc) λtF tA ps0 t0 _=>?_)
 have Sv:∀{a:aO}{o:jY},s.heap.get? a=some o->¬Nw a:=λe q=>by rw[hN _ q]at e;exact nn e
 refine⟨xe,⟨xe,λa o f e=>hx a o (λq=>f.1 _ hc q.symm) e,λa o e=>?_,λa o e=>?_,λ_ e=>.inl e,rfl,rfl⟩,⟨λa o e=>?_,λa o e=>xe.f _ _ (W.base a o e),λq hq=>?_,?_⟩⟩
 . by_cases q:a=P
   . subst q;(refine bS hT ?_;clear hT;intro ps h1 _);exact⟨_,h1⟩
   . exact⟨o,hx a o q e⟩
 . by_cases q:Nw a
   . exact .inr (hN a q)
   . rw[d8 (P:=Nw) q]at e;exact .inl e
 . by_cases q:Nw a
   . rw[fS (P:=Nw) q]at e;exact e
   . rw[d8 (P:=Nw) q]at e
     exact hx a o (λz=>by rw[z,tF]at e;exact nn e) (W.sub a o e)
 . (refine u9 (W.tabs q hq) λh1 h2 ps h3 h4 h5=>?_)
   by_cases z:q.2=P
   . (refine dU hT ?_;clear hT;intro ps' g1 g2 g3)
     refine⟨by refine eW (d8 (P:=Nw) (Sv h3)) ?_;exact h1,h2,ps',by exact eW z<|g1,g2,λpos cv e=>by exact eW z<|g3 pos cv e⟩
   . exact⟨by exact eW (d8 (P:=Nw) (Sv h3))<|h1,h2,ps,hx _ _ z h3,h4,λpos cv e=>(h5 pos cv e).mono xe.f⟩
 . have W':=W.well
   show gH C (G.with h Nw) h G.aw wl;induction hw:G.aw using aA with
   |none=>rw[hw]at W';induction wl using aA<;>first|exact W'.elim|exact trivial
   |some b=>
    rw[hw]at W';induction wl using aA with
    |none=>exact W'.elim
    |some ds=>
     (refine nW W' ?_;clear W';intro h1 vs n h2 r)
     exact⟨by exact eW (d8 (P:=Nw) (Sv h2))<|h1,vs,n,hx _ _ (λz=>tA (by exact eL z<|hw)) h2,r.mono xe⟩
def Qe(C:Cx)(G:Gh)(env:qZ)(Hk:List bB)(n:Nat)(cs:List FV):Prop:=
 ∃vs,bA C G vs cs/\vs.length=n/\∀(j:Nat)(x:bB),Hk[j]?=some x->∃c o v,env.cells.lookup x=some c/\G.F c=some o/\o.data=.cell (some v)/\vs[j]?=some v
theorem Pz(W:bz C G wl s.heap)(F:cJ C G O sc ns env fr s.heap)(hm:sc.iU.isSome=true)(h1:ns[i]?=some x)(CB:sc.s.names.lookup x=some .cell)(hs:fr[i]?=some (.ro d)):
 ∃c o v,env.cells.lookup x=some c/\G.F c=some o/\o.data=.cell (some v)/\Rep C G v d:=by
 refine gf (F.ro hm i x d h1 hs) λc o e1 e2=>?_
 have ud:env.kindOf x≠some .local:=(F.cl x (by exact eW CB rfl)).elim (λq=>q▸nofun) λq=>q▸nofun
 (refine m9 (F.pY i x _ h1 hs ud) λ_ c' ov e3 q2=>?_;obtain⟨oc,e4,e5⟩:=q2;intro q1;refine xA q1 ?_;clear q1;intro q3;obtain⟨v,rfl,R⟩:=q3;intro _)
 obtain rfl:=ag (e1.symm.trans e3);obtain rfl:=ag ((W.sub _ _ e2).symm.trans e4);exact⟨c,o,v,e1,e2,e5,R⟩
theorem PA{Hk:List bB}{cs:List FV}(h:qG fr aX=some cs)(ha:((Hk.zip aX).all λp=>ns[p.2]?==some p.1&&(sc.s.names.lookup p.1==some .cell))=true)(hl:Hk.length=aX.length)(hm:sc.iU.isSome=true)(W:bz C G wl s.heap)
 (F:cJ C G O sc ns env fr s.heap):Qe C G env Hk aX.length cs:=
 l2 (P:=λaX Hk=>∀cs,qG fr aX=some cs->((Hk.zip aX).all λp=>ns[p.2]?==some p.1&&(sc.s.names.lookup p.1==some .cell))=true->Hk.length=aX.length->Qe C G env Hk aX.length cs) aX Hk
  (λcs h _ _=>sk (P:=λcs=>Qe C G env [] 0 cs) h ⟨[],.nil,rfl,λj x hx=>nn hx⟩)
  (λi r x Hk ih cs h ha hl=>an ha λh1 h2=>an h1 λh1 CB=>ob h λsl h3 h=>ob h λd h4 h=>om (P:=λcs=>Qe C G env (x::Hk) (r.length+1) cs) h λcs' q1=>dU (ih cs' q1 h2 (kM hl)) λvs g1 g2 g3=>
    kP (Pz W F hm (eq_of_beq h1) (eq_of_beq CB) (Slot.Vv (P:=λsl=>fr[i]?=some sl->_) h4 (λh=>h) h3)) λc o v e1 e2 e5 R=>⟨v::vs,.cons R g1,congrArg (·+1) g2,λj y hy=>
     j.casesOn (motive:=λj=>(x::Hk)[j]?=some y->∃c o v',env.cells.lookup y=some c/\G.F c=some o/\o.data=.cell (some v')/\(v::vs)[j]?=some v') (λhy=>⟨c,o,v,ag hy▸e1,e2,e5,rfl⟩) (λj hy=>g3 j y hy) hy⟩)
  (λ_ _ _ _ _ hl=>nomatch hl) (λ_ _ _ _ _ hl=>nomatch hl) cs h ha hl
theorem Ex{a b:Int}{c:aB}:∀{l:List aB},TriplesOk l->codeAmong pos' (l++[rawInt a,rawInt b,c])=some cv->codeAmong pos' l=some cv\/cv=c:=λ{l} h=>by
 fun_induction TriplesOk l with
 |case1=>
  intro e;simp only[lp,rawInt,codeAmong]at e;split at e
  . cases e;exact .inr rfl
  . exact nn e
 |case2 a' t b' u x rest ih=>
  intro e;simp only[MY,codeAmong]at e⊢;split
  . rename_i hc;rw[if_pos hc]at e;exact .inl e
  . rename_i hc;rw[if_neg hc]at e;exact ih h e
 |case3 l h1 h2=>exact h.elim
open Classical in
theorem HV{n:Nat}(hf:LT[n]?=some f)(h:sY sc ns n aX=true):(((f.names.drop (f.names.length-aX.length)).zip aX).all λp=>ns[p.2]?==some p.1&&(sc.s.names.lookup p.1==some .cell))=true:=
 oP h λg hg h=>ag (hg.symm.trans hf)▸h
theorem Qx{nm:bB}{fb:FuncBody}{pos:dN}{n fl:Nat}{cs:List FV}(QI:sc.iU=some nm)(Cz:Bu n args fb dD aX.length=true)(O8:sY sc ns n aX=true)(FJ:qG fr aX=some cs)(H:Here C G O sc ns env fr wl k A s):
 aJ C.M A (makeTail name (env.qual++nm) args fb dD env .none .none none pos fl) (λv s'=>PE C G O s (.fv (.mB n cs)) wl v s') ef s:=by
 (refine cM (H.F.iU nm QI) λc P QK kR hq=>?_)
 (refine u9 (H.W.tabs _ kR) λtF tA ps hP ht Tp=>?_)
 refine oP Cz λf hf Cz=>?_
 . have O8:=HV hf O8
   simp only[bX]at Cz
   (refine xA Cz ?_;clear Cz;intro q4;obtain⟨⟨⟨⟨l1,l2⟩,_⟩,_⟩,l5⟩:=q4;intro l6)
   have Z9:f.dflt=[]:=by simpa using l1
   have sd:=l5;unfold rN at sd;simp only[bX,decide_eq_true_eq]at sd
   (refine xA sd ?_;clear sd;intro q5;obtain⟨⟨⟨⟨⟨⟨⟨sp,nd⟩,hn⟩,sa⟩,sb⟩,U7⟩,acz⟩,Qv⟩:=q5;intro _)
   have Z8:(f.names.drop (f.names.length-aX.length)).length=aX.length:=by exact eW n_<|ot (ak (ji _ _) hn)
   refine dU (PA FJ O8 Z8 (by refine eW QI ?_;rfl) H.W H.F) λvs R Yf hv=>?_
   have wk:∀p∈dD.names,p.2=.free->p.1∈f.names.drop (f.names.length-aX.length):=λp hp hf=>by
    have:=aL.mp U7 p hp;rw[hf]at this;simpa using this
   (refine dU (tT (scope:=dD) (env:=env) λp hp hf=>by
     obtain⟨j,hj⟩:=cj.mp (wk p hp hf);obtain⟨c,_,_,e,_⟩:=hv j _ hj;exact⟨c,e⟩) λcl qW To KV=>?_)
   have hbm:∃bm o,C.mg "__builtins__"=some (.ref bm)/\bm≠dq/\bm≠bM/\bm≠P/\s.heap.get? bm=some o/\o.cls=.type "module"/\o.dict=some dq/\o.data=.plain:=by
    (refine iI (H.base.bm) λbm o b1 b2 b3 b4 b5=>?_)
    refine⟨bm,o,b1,b2,b3,λe=>?_,H.W.sub _ _ (H.W.base _ _ b4),b5⟩
    have:=H.base.tg _ kR;rw[<-e,b4]at this;exact nn this.symm
   have hgP:bM≠P:=λe=>by
    (refine j9 (H.base.g) λo _ _ ho _=>?_)
    have:=H.base.tg _ kR;rw[<-e,ho]at this;exact nn this.symm
   have hd:CodeHd s.heap c P:=(H.base.hd _ kR).keeps λb o e=>H.W.sub _ _ (H.W.base _ _ e)
   have fin:∀{G':Gh}{fa:aO}{fd:iX}{o:jY},Ext G G'->G'.F fa=some o->o.data=.func fd->fd.params=args->fd.body=fb->fd.scope=dD->fd.globals=bM->fd.builtins=dq->fd.closure=cl->fd.defaults=.none->mW G'.F fd.code fd.qualname->Rep C G' (.ref fa) (.mB n cs):=λ{G' fa fd o} x h1 h2 p1 p2 p3 p4 p5 p6 p7 p8=>by
    refine .mB (f:=f) (fd:=fd) (vs:=vs) hf Z9 p7 ⟨⟨o,h1,h2⟩,⟨none,⟨by refine eW p1 ?_;exact l2,by exact eW p3<|eW Yf<|l5,by exact eW p2<|eW p3<|l6⟩,λ_ h=>by exact nn h⟩,p4,p5,p8,λj y hy=>?_,λhv0=>?_⟩ (R.mono x)
    . rw[Yf]at hy
      (refine kP (hv j y hy) λc o v e1 e2 e3 e4=>?_)
      have hm:(y,iy)∈dD.names:=by
       have:=aL.mp sb y (cj.mpr ⟨j,hy⟩);exact mem_of_lookup (by simpa using this)
      exact⟨c,o,v,by exact eW p6<|eW (KV y hm)<|e1,x.f _ _ e2,e3,e4⟩
    . refine eW p6 ?_
      have hc0:aX=[]:=by
       rw[hv0]at Yf;exact xn Yf.symm
      induction cl using bP with
      |nil=>rfl
      |cons p r=>
       have h3:=wk _ (To p a7).1 rfl;rw[hc0]at h3;simp at h3
   induction hca:codeAmong pos ps.toList using aA with
   |none=>
    refine kdv_makeTail qW H.F.glob (uJ H) QK hd hP ht hca hgP hbm λc' UI doc h' tk hx hge oj Wu htb=>?_
    (refine u7 Wu ?_;clear Wu;intro c₂ oc q6;refine iR q6 ?_;clear q6;intro cvs t e2 hoc hdc hvc)
    cases e2
    have nw:∀a,(a=h'.objs.size\/a=c')->s.heap.get? a=none:=λa ha=>by
     induction q:s.heap.get? a using aA with
     |none=>rfl
     |some o=>
      have h1:=bb q;rcases ha with rfl|rfl
      . exact absurd h1 (cV.mpr (bV (aQ hge oj)))
      . exact absurd h1 (cV.mpr hge)
    have oc2:∀ob:jY,(h'.push ob).get? c'=some oc:=λob=>a_ _ hoc
    have hCF:mW (G.with (h'.push (kdv_obj name (env.qual++nm) args fb dD cl .none doc ((C.mg "__name__").getD .none) c' UI)) λa=>a=h'.objs.size\/a=c').F (.ref c') (env.qual++nm):=
     ⟨c',oc,cvs,t,rfl,by exact eW (fS (P:=λa=>a=h'.objs.size\/a=c') (.inr rfl))<|oc2 _,hdc,hvc⟩
    have hT:∀pos' cv,codeAmong pos' (ps.toList++[rawInt pos.line,rawInt pos.col,.ref c'])=some cv->codeAmong pos' ps.toList=some cv\/cv=.ref c':=λpos' cv e=>Ex ht e
    (refine jP (BP (Nw:=λa=>a=h'.objs.size\/a=c') (tk:=tk) (s:=s) (h:=h'.push (kdv_obj name (env.qual++nm) args fb dD cl .none doc ((C.mg "__name__").getD .none) c' UI)) H.base H.W (λb o hb e=>a_ _ (hx b o hb e)) nw ⟨c,kR⟩
      ⟨_,a_ _ htb,by exact eW qV<|TriplesOk_snoc _ _ _ _ ht,λpos' cv e=>by
        rw[qV]at e;rcases hT pos' cv e with q|rfl
        . exact(Tp pos' cv q).mono (ju H.W.sub nw).f
        . exact eL hq<|hCF⟩) λxe X W'=>?_)
    refine⟨_,X,W',fin xe (o:=kdv_obj name (env.qual++nm) args fb dD cl .none doc ((C.mg "__name__").getD .none) c' UI) ?_ rfl rfl rfl rfl rfl rfl rfl rfl hCF⟩;exact eW (fS (P:=λa=>a=h'.objs.size\/a=c') (.inl rfl))<|bH _ rfl
   |some cv=>
    refine kdv_makeTailHit qW H.F.glob (uJ H) QK hd hP ht hca hbm λUI doc h' tk hx QF=>?_
    have nw:∀a,a=h'.objs.size->s.heap.get? a=none:=λa ha=>by
     induction q:s.heap.get? a using aA with
     |none=>rfl
     |some o=>
      have h1:=bb q;rw[ha]at h1;exact absurd h1 (cV.mpr QF)
    (refine jP (BP (Nw:=λa=>a=h'.objs.size) (tk:=tk) (s:=s) (h:=h'.push {cls:=.type "function",data:=.func (kdv_fn name (env.qual++nm) args fb dD cl .none doc ((C.mg "__name__").getD .none) cv UI)}) H.base H.W (λb o hb e=>a_ _ (hx b o e)) nw ⟨c,kR⟩
      ⟨ps,a_ _ (hx _ _ hP),ht,λpos' cv' e=>(Tp pos' cv' e).mono (ju H.W.sub nw).f⟩) λxe X W'=>?_)
    refine⟨_,X,W',fin xe (o:={cls:=.type "function",data:=.func (kdv_fn name (env.qual++nm) args fb dD cl .none doc ((C.mg "__name__").getD .none) cv UI)}) ?_ rfl rfl rfl rfl rfl rfl rfl rfl ?_⟩
    . exact eW (fS (P:=λa=>a=h'.objs.size) rfl)<|bH _ rfl
    . have:=(Tp pos cv hca).mono xe.f
      dsimp only at this;rw[<-hq]at this;exact this
theorem LX{l:List Arg}(h:(l.all (·.annotation.isNone))=true):annotationsOf l env=[]:=by
 induction l with
 |nil=>rfl
 |cons x r ih=>
  rw[Uj,bX]at h;obtain⟨y,a,p⟩:=x
  (refine xA h ?_;clear h;intro h1 h2)
  induction a using aA with
  |none=>exact ih h2
  |some a=>exact ff h1
theorem zo{a:Arguments}(h:jS a f=true):annTrees a none env=[]:=by
 unfold jS at h;simp only[bX]at h
 (refine xA h ?_;clear h;intro q7;obtain⟨⟨⟨⟨⟨h1,h2⟩,h3⟩,h4⟩,_⟩,_⟩:=q7;intro h7)
 obtain⟨po,as,va,ko,kd,kwa,df⟩:=a
 have e1:po=[]:=by simpa using h1
 have e2:va=none:=by simpa using h2
 have e3:ko=[]:=by simpa using h3
 have e4:kwa=none:=by simpa using h4
 subst e1 e2 e3 e4
 show annotationsOf (as++[]++[]++[]++[]) env++[]=[];simp only[cC];exact LX h7
theorem Kw{n:Nat}{fb:FuncBody}(Cz:Bu n args fb dD m=true):args.defaults=[]/\args.kw_defaults=[]/\∃f,jS args f=true:=by
 exact oP Cz λf hf Cz=>MI Cz λ_ l2 l3 l4 _ _=>⟨fe.mp l3,fe.mp l4,_,l2⟩
theorem Vh{body:af}{pos:dN}{n:Nat}(QI:sc.iU=some "<lambda>")(Cz:Bu n args (.expr body) dD aX.length=true)(O8:sY sc ns n aX=true):
 dT C bp k sc ns (.Lambda args body dD pos) (.lam n aX):=by
 refine .mk' (λG O env A s fr wl e bQ q H=>?_) (λ_ _=>rfl) (λ_ _=>dg rfl) rfl;rw[TH]at q;refine tK q λcs q1=>?_
 (refine jP (Kw Cz) λd1 d2 _=>?_)
 refine kla_eval (by refine eW (defaultsOf_eq ..)<|eW d1<|eW d2 ?_;rfl) ?_;refine eW (Yw ..) ?_;simp only[IK,IP,oa,if_true,pure_bind];exact Qx QI Cz O8 q1 H
theorem R4{body:List bU}{pos:dN}{n:Nat}(QI:sc.iU=some name)(Cz:Bu n args (.stmts body) dD aX.length=true)(O8:sY sc ns n aX=true)(hx:ns[i]?=some name):
 jy C bp N k sc ns (.FunctionDef name args body [] none [] dD none name pos) (.defn i n aX):=λG O env A s fr wl fl cH bQ q H=>ob q λcs q1 q=>MD q λf9 q2=>by
 (refine mF (Kw Cz) λd1 d2 f hp=>?_)
 have Yj:(env.kindOf name==some .globalExplicit)=false:=by
  have hl:i<fr.length:=H.F.len.symm▸fB hx;by_cases hk:env.kindOf name=some .local
  · exact eW hk rfl
  . rcases(H.F.pY i name _ hx (aV hl) hk).1 with q|q<;>refine eW q ?_<;>rfl
 have hqn:qualnameIn env name name=env.qual++name:=by unfold qualnameIn;exact eW Yj rfl
 refine nestDef_K d1 d2 (zo hp) ?_;refine eW hqn<|eW (Yw ..) ?_;simp only[IK,IP,oa,if_true,pure_bind];refine cX (Qx QI Cz O8 q1 H) λv aM q8=>dU q8 λG1 x1 W1 R1=>?_;exact i3 x1.o W1 (H.F.step x1) hx q2 rfl ⟨v,rfl,R1⟩ λs' X' W' F' _=>PU.next ⟨G1,O,X',W',F'⟩
end
section
variable {G0:Gh}
noncomputable def vk:Option Role->Option Role
 |some (.own j κ)=>some (.own (j+1) κ)
 |r=>r
theorem nV.shift{e:EV}(x:nV C G O bq h i v e):nV C G O (λa=>vk (bq a)) h (i+1) v e:=match e,x with
 |.fv _,x=>x
 |.bor _,x=>x
 |.own t,x=>show dO C G (λa=>vk (bq a)) h (λk=>some (.own (i+1) k)) v t from dO.relabel (λa k e=>by simp only[e];rfl) (show dO C G bq h (λk=>some (.own i k)) v t from x)
theorem dC.shift{es:List EV}(y:dC C G O bq h i vs es):dC C G O (λa=>vk (bq a)) h (i+1) vs es:=y.ind (λ_=>trivial) λ_ _ _ _ _ y _ ih=>⟨y.shift,ih⟩
def we(xa da:aO)(bq:aO->Option Role)(a:aO):Option Role:=
 if a=xa then some (.own 0 nZ)else if a=da then some (.own 0 1)else vk (bq a)
theorem vj{q:Option Role}{r:Role}(e:vk q=some r)(m:∀r,q=some r->∃j κ,r=.own j κ):∃j κ,q=some (.own j κ)/\r=.own (j+1) κ:=by
 induction q using aA with
 |none=>exact nn e
 |some r'=>
  (refine u7 (m r' rfl) λj κ q1=>?_;subst q1)
  cases e;exact⟨j,κ,rfl,rfl⟩
theorem H0{xs:List EV}{r:FV}
 (B:Base C)(HK:(CT c).isSome=true)(hd:A.depth+8*k+26<900)(hu:A.units+24*k+80<9000)(hh:A.handled=none)
 (W:bz C G wl s.heap)(FA:FnAt C G.F fa f [] fd)(x:Step C G0 G s0 s)(D0:IU C G0 O s0.heap)
 (T:uZ C G O s0.heap s.heap 0 vals xs)(Rd:bA C G dv f.dflt)(dl:dv.length<=f.params)
 (hs:∀(s:aN),y8 G s.heap->∀(M:Model)(A:fF)(E:aB->aN->Prop)(Q:Option (Array aB)->aN->Prop),(∀r:Option (Array aB),(r.getD #[]).toList=dv->Q r s)->aJ M A (seqItems? fd.defaults) Q E s)
 (hb:∀iU,CF f 0 iU fd->Cm C bp N k f iU fd)(he:runC bp N c f xs wl=some (r,bQ)):
 codeAny C.M A (.call (.ref fa) ⟨.ref (s.heap.objs.size+1)::vals,[]⟩) (λres s'=>match res with
  |.ok (.ret v)=>v=.none/\PE C G0 O s0 (.fv r) bQ (.ref (s.heap.objs.size+1)) s'
  |_=>False) {s with heap:=(s.heap.push emptyDict).push (instObj c s.heap.objs.size)}:=by
 refine ob he λfr hf he=>bS T λbq m R=>bS FA.cf λiU cf hm=>?_
 have kp:∀a o,s.heap.get? a=some o->((s.heap.push emptyDict).push (instObj c s.heap.objs.size)).get? a=some o:=λa o e=>a_ _ (a_ _ e)
 have x1:Step C G G s {s with heap:=(s.heap.push emptyDict).push (instObj c s.heap.objs.size)}:=.grow _ s.toks kp
 have hx:((s.heap.push emptyDict).push (instObj c s.heap.objs.size)).get? (s.heap.objs.size+1)=some (instObj c s.heap.objs.size):=by heap_get
 have hdx:((s.heap.push emptyDict).push (instObj c s.heap.objs.size)).get? s.heap.objs.size=some emptyDict:=by heap_get
 have n1:s.heap.get? (s.heap.objs.size+1)=none:=by
  induction q:s.heap.get? (s.heap.objs.size+1)using aA with
  |none=>rfl
  |some o=>exact absurd (bb q) (cV.mpr (iq _))
 have n2:s.heap.get? s.heap.objs.size=none:=by
  induction q:s.heap.get? s.heap.objs.size using aA with
  |none=>rfl
  |some o=>exact absurd (bb q) (b8 _)
 have old:∀a,s.heap.get? a=none->s0.heap.get? a=none:=λa e=>by
  induction q:s0.heap.get? a using aA with
  |none=>rfl
  |some o=>(refine xE (x.alive a o q) λo' e'=>?_);rw[e]at e';exact nn e'
 have W1:bz C G wl ((s.heap.push emptyDict).push (instObj c s.heap.objs.size)):=W.grow kp
 have mo:∀a r,bq a=some r->a≠s.heap.objs.size+1/\a≠s.heap.objs.size:=λa r e=>by
  (refine m_ (m a r e) λ_ _ _ _ o ho=>?_)
  exact⟨λq=>(by rw[q,n1]at ho;exact nn ho),λq=>(by rw[q,n2]at ho;exact nn ho)⟩
 have mw:Ct C G s0.heap ((s.heap.push emptyDict).push (instObj c s.heap.objs.size)) (we (s.heap.objs.size+1) s.heap.objs.size bq):=λa r e=>by
  unfold we at e;split at e
  . rename_i q;subst q;cases e
    exact⟨old _ n1,⟨_,_,rfl⟩,kh W n1,gw W n1,_,hx⟩
  . split at e
    . rename_i q;subst q;cases e
      exact⟨old _ n2,⟨_,_,rfl⟩,kh W n2,gw W n2,_,hdx⟩
    . (refine gf (vj e λr e=>let⟨_,⟨j,κ,q,_⟩,_⟩:=m a r e;⟨j,κ,q⟩) λj κ e1 q2=>?_;subst q2)
      (refine m_ (m a _ e1) λq1 _ q3 q4 o q5=>?_)
      exact⟨q1,⟨_,_,rfl⟩,q3,q4,o,kp _ _ q5⟩
 have R1:dC C G O (we (s.heap.objs.size+1) s.heap.objs.size bq) ((s.heap.push emptyDict).push (instObj c s.heap.objs.size)) 0 (.ref (s.heap.objs.size+1)::vals) (.own (.inst c [])::xs):=by
  refine⟨⟨HK,s.heap.objs.size+1,s.heap.objs.size,[],0,rfl,if_pos rfl,gw W n1,kh W n1,hx,?_,gw W n2,kh W n2,bx (bg _),hdx,trivial,eC⟩,?_⟩
  . unfold we;exact eW (if_neg (bx (bg _)))<|eW (if_pos rfl) rfl
  . refine dC.relabel (λa j κ hj e=>?_) (dC.step x1 R.shift)
    unfold we
    have:∃r,bq a=some r:=by induction q:bq a using aA with|none=>rw[q]at e;exact nn e|some r=>exact⟨r,rfl⟩
    (refine xE this ?_;clear this;intro r hr)
    exact eW (if_neg (mo a r hr).1)<|eW (if_neg (mo a r hr).2)<|e
 have only:∀a,we (s.heap.objs.size+1) s.heap.objs.size bq a=some (.own 0 nZ)->a=s.heap.objs.size+1:=λa e=>by
  unfold we at e;split at e
  . assumption
  . split at e
    . cases e
    . (refine gf (vj e λr e=>let⟨_,⟨j,κ,q,_⟩,_⟩:=m a r e;⟨j,κ,q⟩) λj κ _ q=>?_)
      cases q
 refine yN (fr:=fr) B hd hu hh W1 FA cf hm (x.trans x1) D0 mw R1 Rd (aX:=[]) .nil dl (hs _ W1.sub) hf λenv s' H Cw=>?_
 have out:=yj (fr:=fr) (O:=O) (f:=f) (fd:=fd) (x.trans x1) mw
 have UD:=hb iU cf;unfold Cm at UD;induction hfb:f.body using Body.casesOn with
 |expr e=>rw[hfb]at he;exact nn he
 |stmts ib=>
  rw[hfb]at he UD;induction Tj:fd.body using g7 with
  |expr e=>rw[Tj]at UD;exact UD.elim
  |stmts b=>
   rw[Tj]at UD;refine f7 he λfl st Ti D3=>dV D3 λhnx D3=>ob D3 λt0 h1 D3=>tK D3 λYr h2=>?_
   have eE:st.1[0]?=some (.own (.inst Yr.1 Yr.2)):=ob h1 λsl g1 g2=>(Slot.vr (P:=λsl=>st.1[0]?=some sl->_) g2 (OT.rL (P:=λt=>st.1[0]?=some (.own t)->_) h2 λh=>h)) g1;refine PS.to (UD _ _ env (A.deeper env) s' fr wl fl st.1 st.2 Ti H) λXd s2 G2 O2 y1 W2 F2 Z5=>?_;induction fl using Fl.casesOn with
   |cont=>exact ff hnx
   |ret d=>exact ff hnx
   |next=>
   induction Xd using Flow.casesOn<;>first|exact Z5.elim|skip
   have hl:0<st.1.length:=fB eE;obtain⟨y,hy⟩:∃y,f.names[0]?=some y:=⟨_,aV (F2.len▸hl)⟩
   have hT:∃v,dO C G2 O2 s2.heap (λκ=>some (.own 0 κ)) v (.inst Yr.1 Yr.2):=by
    by_cases hk:env.kindOf y=some .local
    · (refine bS (F2.loc) λmm _ q=>?_)
      (refine bS (q 0 y _ hy eE hk) λv _ t=>?_)
      exact⟨v,t⟩
    . (refine m9 (F2.pY 0 y _ hy eE hk) λ_ _ ov _ _ q3=>?_;refine xA q3 ?_;clear q3;intro q4;obtain⟨v,_,t⟩:=q4;intro _)
      exact⟨v,t⟩
   (refine xE hT ?_;clear hT;intro v t)
   have hv:v=.ref (s.heap.objs.size+1):=by
    (refine Up t ?_;clear t;intro _ a q5;refine jO q5 ?_;clear q5;intro _ _ _ q6;subst q6;intro hO _)
    have e1:=y1.Nm a 0 hO;unfold vh nM at e1;exact congrArg um (r8 e1 (λ_ e=>nomatch e) λ_ e=>Qr e (λe=>Am e λ_ _ e=>nomatch e) λe=>Qr e (only a) λe=>Am e λ_ _ e=>nomatch e)
   subst hv
   classical
   have hP:∀a,(∃κ,O2 a=some (Role.own 0 κ))->∃r,O2 a=some r/\r≠.kj:=λa q7=>xE q7 λκ e=>⟨_,e,by intro e;exact Role.noConfusion e⟩
   (refine xA (TA (P:=λa=>∃κ,O2 a=some (Role.own 0 κ)) W2 F2.iN hP) λW3 y3=>?_)
   have xg:=rM (P:=λa=>∃κ,O2 a=some (Role.own 0 κ)) F2.iN hP
   have y2:=bW.out ((x.trans x1).trans Cw) (y1.trans y3) out;exact⟨rfl,_,y2,W3,t.fz xg λa κ e o ho=>by exact eW (fS (P:=λa=>∃κ,O2 a=some (Role.own 0 κ)) ⟨κ,e⟩)<|ho⟩
end
section
variable {G0:Gh}
theorem wC{M:Model}{Q:Option (Array aB)->aN->Prop}(h:fd.defaults=.none)(q:∀r:Option (Array aB),(r.getD #[]).toList=[]->Q r s):aJ M A (seqItems? fd.defaults) Q E s:=by
 exact eW h<|ar (q none rfl)
theorem yQ{M:Model}{Q:Option (Array aB)->aN->Prop}(d:Dflts B fd dv)(b:∀a o,B.get? a=some o->s.heap.get? a=some o)
 (q:∀r:Option (Array aB),(r.getD #[]).toList=dv->Q r s):aJ M A (seqItems? fd.defaults) Q E s:=by
 rcases d with⟨h,rfl⟩|⟨T,o,n,h,ho,hd⟩
 . exact wC h q
 . refine eW h ?_
   obtain⟨oc,od,dt,sl⟩:=o;dsimp only at hd;subst hd;exact ai (Ua (b _ _ ho) (ar (q _ rfl)))
theorem Fd{f:aB}{r:FV}(h:codeAny C.M A (.call f ⟨vals,[]⟩) (PR C G O s0 r bQ) s):aJ C.M A (call f vals []) (PE C G O s0 (.fv r) bQ) ef s:=
 Ub (kH h λr s' z=>by
  rcases r with e|(v|_|_|_)<;>first|exact z|exact z.elim)
theorem Fy(FA:FnAt C F a f vs fd)(b:∀a o,F a=some o->h.get? a=some o):ph C.M (.ref a) h:=by
 (refine bS (FA.obj) λo ho hd=>?_)
 exact OC (b _ _ ho) hd
theorem GD(a:aO)(rest:List aB)(kw:List (bB×aB)):(t7 "type.__call__" ⟨.ref a::rest,kw⟩).weight=1/\(t7 "type.__call__" ⟨.ref a::rest,kw⟩).cUnits=1:=by
 refine⟨?_,?_⟩<;>kernel_rfl
theorem HY(hb:∀(bp:my)(k:Nat),w9 C bp k->∀(f:bw)(n:Nat)(iU:Option bB)(fd:iX),CF f n iU fd->Cm C bp N k f iU fd)(ih:w9 C (au N k) k):w9 C (au N (k+1)) (k+1):=λd xs wl r bQ q G0 G O s0 s A f vals B hh hd hu W x D0 R T=>
 have ue:A.depth+8*k+26<900:=aQ (cq (show 26<=28 by decide) (A.depth+8*k)) hd
 have hu':A.units+24*k+80<9000:=aQ (cq (show 80<=84 by decide) (A.units+24*k)) hu
 FV.casesOn (motive_1:=λd=>au N (k+1) d xs wl=some (r,bQ)->Rep C G f d->ph C.M f s.heap/\aJ C.M A (call f vals []) (PE C G0 O s0 (.fv r) bQ) ef s) d
  (λq=>nn q) (λ_ q=>nn q) (λ_ q=>nn q) (λ_ q=>nn q) (λ_ q=>nn q) (λ_ q=>nn q) (λ_ q=>nn q) (λ_ q=>nn q) (λ_ _ q=>nn q)
  (λa q R=>by
    obtain rfl:=R.inv.1;refine oe q (λhf q=>ob q λg hc q=>?_) λg hf q=>?_
    . refine fA (B.cls a g hc) λc1 c2 _ q1=>fR q1 λi fd dv c3 c4 FA Rd Dd dl=>?_
      have X:C.K.In s.heap:=B.QA.keeps λb o e=>W.sub _ _ (W.base _ _ e);refine⟨keeps_K c2 _ X,Ub ?_⟩;refine xA (GD a vals []) λw1 w2=>?_;obtain⟨hp,g',d',t',os'⟩:=s;refine make_core (makes_of X c1) (looks_findIn X c3) (λself=>bind_fn X self c4) (.inl rfl) ?_;refine kH (H0 (s:=⟨hp,g',d',t',os'⟩) (A:=A.under (.builtin "type.__call__" ⟨.ref a::vals,[]⟩)) B (by exact eW hc rfl) ?_ ?_ hh W (FA.mono W.base) x D0 T (Rd G W.base) (eW (Rd G W.base).length dl) (λs b M A E Q q=>yQ Dd (λa o e=>b _ _ (W.base _ _ e)) q) (λiU cf=>hb _ k ih g _ iU fd cf) q) λr s' z=>?_
      . show A.depth+(t7 "type.__call__" ⟨.ref a::vals,[]⟩).weight+8*k+26<900
        refine eW w1 ?_;lia
      . show A.units+(t7 "type.__call__" ⟨.ref a::vals,[]⟩).cUnits+24*k+80<9000
        refine eW w2 ?_;lia
      . rcases r with e|(v|_|_|_)<;>first|exact z.elim|exact z
    . exact iR (B.fn a g hf) λfd dv FA Rd Dd dl=>have FA':=FA.mono W.base
       bS FA'.cf λiU cf hm=>⟨Fy FA' W.sub,Fd (F9 B ue hu' hh W FA' cf hm x D0 T (Rd G W.base) .nil (eW (Rd G W.base).length dl) (λM A E Q q=>yQ Dd (λa o e=>W.sub _ _ (W.base _ _ e)) q) (hb _ k ih g _ iU fd cf) q)⟩)
  (λj aX q R=>ob q λg hg q=>R.inv.elim λa y=>Ax y λf' fd vs y=>kI y λe hl Z9 hdd z=>by
    subst e;obtain rfl:=ag (hl.symm.trans hg);exact xA z λFA Rc=>bS FA.cf λiU cf hm=>
     ⟨Fy FA W.sub,Fd (F9 B ue hu' hh W FA cf hm x D0 T (dv:=[]) (by exact eW Z9 .nil) Rc (aU _) (λM A E Q q=>wC hdd q) (hb _ k ih _ _ iU _ cf) q)⟩)
  (λ_ _ _ q=>nn q) (λq=>nn q) q R
theorem LL(B:Base C)(hb:∀(bp:my)(k:Nat),w9 C bp k->∀(f:bw)(n:Nat)(iU:Option bB)(fd:iX),CF f n iU fd->Cm C bp N k f iU fd)(k:Nat):w9 C (au N k) k:=
 k.rec (λd xs wl r bQ q=>nn q) λk ih=>HY hb ih
end
section
variable {lo:y5}
structure SortS(C:Cx):Prop where
 ok:Ma C
@[elab_as_elim] theorem Pl{P:List aB->Prop}(T:uZ C G O h₀ h i vs [.bor t])(k:∀v,cD C G O h₀ h v (.bor t)->P [v]):P vs:=
  bS T λbq m R=>Xg R k
theorem Jv{pos:dN}{own:Bool}(so:SortS C)(hx:sc.s.names.lookup x=some .globalImplicit)(he:x=BI.sorted.word)(hg:GT.lookup x=none)(L:fO (dT C bp k sc ns) es il):
 dT C bp k sc ns (.Call (.Name x p) es [] pos) (.bj .sorted own il):=
 .mk' (λG O env A s fr wl e bQ q H=>f7 q λxs w1 q1 q=>tK (P:=λe bQ=>aJ C.M A _ (PE C G O s e bQ) ef s) q λy q2=>by
  subst he;refine s_ hx (by decide+kernel) (H.base.free .sorted hg) (H.base.bi .sorted) (BI.EX .sorted) L q1 H λvs G1 aM x1 W1 T=>?_;exact(qI (P:=λxs=>uZ C G1 O s.heap aM.heap 0 vs xs->aJ C.M A (call BI.sorted.val vs) (PE C G O s y w1) ef aM) q2 λa e T=>om (P:=λy=>aJ C.M A (call BI.sorted.val vs) (PE C G O s y w1) ef aM) e λis q3=>ob q3 λt h1 h2=>
   (Ge (P:=λa=>uZ C G1 O s.heap aM.heap 0 vs [a]->Dj a=some is->_) h1 λT q3=>Pl (P:=λvs=>aJ C.M A (call BI.sorted.val vs) _ ef aM) T λv R=>cX (so.ok H.room.handled W1 R q3) λv bZ h=>h.after x1) T q3) T) (λ_ _=>rfl) (λ_ _=>dg rfl) rfl
theorem Ft(h:Ds x=true):(x==("__debug__":bB))=false/\(x==("__classdict__":bB))=false:=by
 unfold Ds at h;rw[bX]at h;exact⟨by simpa using h.1,by simpa using h.2⟩
theorem tL(h:vE ns i x=true)(k:ns[i]?=some x->(x==("__debug__":bB))=false->(x==("__classdict__":bB))=false->P):P:=
 an h λh1 h2=>k (eq_of_beq h1) (Ft h2).1 (Ft h2).2
@[elab_as_elim] theorem Vw{P:af->Prop}(h:A7 e=true)(f:∀n p1 p2 p3,P (.Slice none none (some (.UnaryOp .USub (.Constant (.int 1) n p1) p2)) p3)):P e:=
  KO h λa b c p3 h=>rT h λha hb hc=>oN ha<|oN hb<|oS hc λe h=>BJ h λo e p2 h=>an h λho h=>CD ho<|yA h λc n p1 h=>CD h (f n p1 p2 p3)
@[elab_as_elim] theorem vq{P:cP->Prop}{c:cP}(h:(c.is_async==0&&c.ifs.isEmpty)=true)(f:P ⟨c.target,c.iter,[],0⟩):P c:=match c,h,f with
  |⟨t,i,ifs,n⟩,h,f=>an h λh1 h2=>CD (P:=λn=>P ⟨t,i,ifs,n⟩) h1 (l0 (P:=λifs=>P ⟨t,i,ifs,0⟩) h2 f)
theorem SM{c:Const}(h:(uU c).any (λd'=>sj d' d)=true):uU c=some d:=oS h λa h=>congrArg some (si a d h)
theorem nf(h:(!b)=true):b=false:=match b,h with|false,_=>rfl
theorem VV(h:(x !=y)=true):(x==y)=false:=nf h
@[elab_as_elim] theorem Gi{P:af->IE->Prop}{x:af}{Q:IL->Prop}(h:fO P [x] il)(k:∀a,P x a->Q (.cons a .nil)):Q il:=match il,h with
  |.cons a .nil,h=>k a h.1
  |.cons _ (.cons _ _),h=>h.2.elim
  |.nil,h=>h.elim
@[elab_as_elim] theorem all_nil{P:af->IE->Prop}{Q:List af->IL->Prop}(h0:es.isEmpty=true)(h:fO P es il)(k:Q [] .nil):Q es il:=match es,il,h0,h with
  |[],.nil,_,_=>k
@[elab_as_elim] theorem L7{P:af->IE->Prop}{Q:List af->IL->Prop}(h0:one es (λ_=>true)=true)(h:fO P es il)(k:∀x a,P x a->Q [x] (.cons a .nil)):Q es il:=
  pW (P:=λes=>fO P es il->Q es il) h0 (λx _ h=>Gi h (k x)) h
theorem drop_nil{d:Nat}(e:gens.drop d=gs)(h:gs.isEmpty=true):gens[d]?=none:=
 l0 (P:=λgs=>gens.drop d=gs->gens[d]?=none) h (λe=>P_.symm.trans (congrArg YY e)) e
theorem GS{pos:dN}{own:Bool}{b:BI}(so:SortS C)(q:b=.sorted)(hx:sc.s.names.lookup x=some .globalImplicit)(he:x=b.word)(hg:GT.lookup x=none)(L:fO (dT C bp k sc ns) es il):
 dT C bp k sc ns (.Call (.Name x p) es [] pos) (.bj b own il):=by
 subst q;exact Jv so hx he hg L
def UP(C:Cx)(bp:my)(k:Nat)(sc:Sc)(ns:List bB)(e:af)(ir:IE):Prop:=dT C bp k sc ns e ir/\(qC e=true->P0 C bp k sc ns e ir)
theorem UP.of(h:dT C bp k sc ns e ir)(n:qC e=false):UP C bp k sc ns e ir:=⟨h,λq=>by rw[n]at q;exact ff q⟩
section
variable (so:SortS C)(hc:w9 C bp k)(hl:∀k args fb dD n,lo k args fb dD n=true->Bu k args fb dD n=true)
include so hc hl
omit so hc hl in
theorem Qi{l:IE}{x:Option af}(i:∀(sc:Sc)(ns:List bB)(e:af),eB lo l sc ns e=true->UP C bp k sc ns e l)(h:x.elim (jT l) (λx=>eB lo l sc ns x)=true):Ck C bp k sc ns x l:=
 x.casesOn (motive:=λx=>x.elim (jT l) (λx=>eB lo l sc ns x)=true->Ck C bp k sc ns x l) (λh=>(lit_none h).symm▸Nl) (λx h=>Nk (i sc ns x h).1) h
omit so hc hl in
@[elab_as_elim] theorem Xk{P:cP->Prop}{c:cP}(h:(c.is_async==0)=true)(f:P ⟨c.target,c.iter,c.ifs,0⟩):P c:=by
  induction c using XH;exact CD (P:=λn=>P ⟨_,_,_,n⟩) h f
theorem oT(ir:IE):∀(sc:Sc)(ns:List bB)(e:af),eB lo ir sc ns e=true->UP C bp k sc ns e ir:=
 IE.rec (motive_1:=λir=>∀(sc:Sc)(ns:List bB)(e:af),eB lo ir sc ns e=true->UP C bp k sc ns e ir)
  (motive_2:=λil=>∀(sc:Sc)(ns:List bB)(es:List af),qF lo il sc ns es=true->fO (dT C bp k sc ns) es il)
  (motive_3:=λg=>∀(sc:Sc)(ns:List bB)(elt:af)(gens gs:List cP)(scope:jF)(pos:dN)(d:Nat),gens.drop d=gs->(∀g∈gens,g.is_async=0)->TQ lo g sc ns gs elt=true->Ii C bp k sc ns elt gens scope pos d g)
  (λi sc ns e h=>kL h λx p h=>tL h λh h1 h2=>.of (Ql h h1 h2) rfl)
  (λd sc ns e h=>yA h λc n p h=>.of (Vg (SM h)) rfl)
  (λd sc ns e h=>kL h λx p h=>rT h λh1 h2 h3=>.of (Vk (eq_of_beq h1) h2 (VV h3)) rfl)
  (λop a b zU OQ sc ns e h=>Ta h λl o r p h=>rT h λh0 h1 h2=>CD h0<|.of (Vn (zU sc ns l h1).1 (OQ sc ns r h2).1) rfl)
  (λop a zU sc ns e h=>BJ h λo x p h=>an h λh0 h1=>CD h0<|.of (Zb (zU sc ns x h1).1) rfl)
  (λil lO sc ns e h=>FF h λo es p h=>an h λh0 h1=>CD h0<|.of (Vp (lO sc ns es h1)) rfl)
  (λil lO sc ns e h=>FF h λo es p h=>an h λh0 h1=>CD h0<|.of (Zc (lO sc ns es h1)) rfl)
  (λop a b zU OQ sc ns e h=>BK h λl os rs p h=>rT h λh0 h1 h2=>pW h0 λo h0=>CD h0<|pW h2 λr h2=>an h2 λh2 h3=>.of (Vm (zU sc ns l h1).1 (OQ sc ns r h2).1 h3) rfl)
  (λo1 o2 a b c zU OQ i_c sc ns e h=>BK h λl os rs p h=>rT h λh0 h1 h2=>RH h0 λp1 p2 h0=>an h0 λh0 QS=>CD h0<|CD QS<|RH h2 λr1 r2 h2=>rT h2 λh2 h3 h4=>.of (NA (zU sc ns l h1).1 (OQ sc ns r1 h2).1 (i_c sc ns r2 h3).1 h4) rfl)
  (λt a b i_t zU OQ sc ns e h=>S_ h λx y z p h=>rT h λh1 h2 h3=>.of (Vi (i_t sc ns x h1).1 (zU sc ns y h2).1 (OQ sc ns z h3).1) rfl)
  (λa i zU i_i sc ns e h=>iV h λv s p h=>rT h λh1 h2 h3=>.of (Vj (zU sc ns v h1).1 (i_i sc ns s h2).1 h3) rfl)
  (λa l r zU i_l i_r sc ns e h=>iV h λv s p h=>an h λh1 h=>KO h λx y z p h=>rT h λh0 h2 h3=>oN h0<|.of (U_ (zU sc ns v h1).1
    (Qi i_l h2) (Qi i_r h3)) rfl)
  (λa zU sc ns e h=>iV h λv s p h=>an h λh1 h2=>Vw h2 λ_ _ _ _=>.of (Vb (zU sc ns v h1).1) rfl)
  (λa j zU sc ns e h=>jV h λv x p h=>LZ h λh1 h2 h3 h4=>.of (R9 (zU sc ns v h1).1 (eq_of_beq h2) (of_decide_eq_true h3) h4) rfl)
  (λil lO sc ns e h=>sJ h λes _ _ h=>an h λh1 h2=>.of (U' (lO sc ns es h1) (of_decide_eq_true h2)) rfl)
  (λown il lO sc ns e h=>KP h λes _ h=>an h λh1 h2=>.of (Vf (lO sc ns es h1) (of_decide_eq_true h2)) rfl)
  (λil lO sc ns e h=>ZE h λes n _ h=>an h λh0 h=>aaC h0<|pW h λx h=>Gi (lO sc ns [x] h) λa h=>.of (RV h) rfl)
  (λsc ns e h=>Wn h λa b _ h=>an h λh1 h2=>l0 h1<|l0 h2<|.of Ny rfl)
  (λa b zU OQ sc ns e h=>KP h λes _ h=>RH h λx y h=>an h λh1 h2=>.of (Jw (zU sc ns x h1).1 (OQ sc ns y h2).1) rfl)
  (λf il i_f lO sc ns e h=>yB h λg args kw _ h=>LZ h λh0 h1 h2 h3=>l0 h0<|.of (s_call hc (i_f sc ns g h1).1 h2 (lO sc ns args h3)) rfl)
  (λb own il lO sc ns e h=>yB h λg args kw _ h=>rT h λh0 h1 h2=>l0 h0<|kL h2 λx p h=>rT h λh2 h3 h4=>
    if q:b=.sorted then .of (GS so q (eq_of_beq h2) (eq_of_beq h3) (ee.mp h4) (lO sc ns args h1)) rfl else .of (NB q (eq_of_beq h2) (eq_of_beq h3) (ee.mp h4) (lO sc ns args h1)) rfl)
  (λm o il ZC lO sc ns e h=>yB h λg args kw pos h=>rT h λh0 h4 h=>l0 h0<|jV h λv x p h=>MI h λh1 h2 h3 h5 h6 h7=>CD h2<|match m,h7 with
  |.user j,_=>.of (RY hc (ZC sc ns v h1).1 rfl h3 (lO sc ns args h4) h5 (of_decide_eq_true h6)) rfl
  |.strip,h7=>an h7 λh7 h8=>all_nil h8 (lO sc ns args h4) (.of (Nu (ZC sc ns v h1).1 h7 h5) rfl)
  |.count,h7=>an h7 λh7 h8=>L7 h8 (lO sc ns args h4) λx a h=>.of (Nz (ZC sc ns v h1).1 h h7 h5) rfl)
  (λown m aX it f6 il g DY lO ZD sc ns e h=>yz h λelt gs dD pos h=>BM h λc gs h=>RP h λlv Ao h=>Q5 h λh0 h1 h2 h3 h4 h5 h=>an h λh6 h7=>Xk (P:=λc=>UP C bp k sc ns (.ListComp elt (c::gs) dD pos) _) h0<|
    have IC:∀g∈(⟨c.target,c.iter,c.ifs,0⟩::gs:List cP),g.is_async=0:=λg hg=>(a6.mp hg).elim (λe=>e▸rfl) λhg=>eq_of_beq (aL.mp h7 g hg)
    have R:=xX.list (pos:=pos) (JB (own:=own) Ao (DY sc ns c.iter h1).1 h2 h3 h4 (lO _ _ c.ifs h5) IC (ZD _ _ _ _ _ _ _ 1 rfl IC h6)) λ_ _=>dg rfl
    ⟨R.1,λ_=>R.2⟩)
  (λm aX it f6 DY sc ns e h=>yz h λelt gs dD pos h=>KP h λes p h=>pW h λc h=>RP h λlv Ao h=>MI h λh0 QS h1 h2 h3 h4=>l0 h0<|vq QS<|
    have R:=xX.list (pos:=pos) (C2 (p:=p) Ao (DY sc ns _ h1).1 h2 h3 h4) λ_ _=>dg rfl
    ⟨R.1,λ_=>R.2⟩)
  (λown m aX it f6 v DY i_v sc ns e h=>HH h λke w gs dD pos h=>kL h λx p h=>pW h λc h=>RP h λlv Ao h=>Q5 h λh0 h1 h2 h3 h4 h5 h6=>vq h0<|tL h5 λh5 n1 n2=>
    have R:=xX.dict (pos:=pos) (GY (p:=p) (own:=own) Ao (DY sc ns _ h1).1 h2 h3 h4 h5 n1 n2 (i_v _ _ w h6).1) λ_ _=>dg rfl
    ⟨R.1,λ_=>R.2⟩)
  (λj aX sc ns e h=>OR h λargs body dD _ h=>rT h λh1 h2 h3=>.of (Vh (eq_of_beq h1) (hl _ _ _ _ _ h2) h3) rfl)
  (λsc ns es h=>l0 h trivial) (λa il i j sc ns es h=>BM h λe es h=>an h λh1 h2=>⟨(i sc ns e h1).1,j sc ns es h2⟩)
  (λa i sc ns elt gens gs scope pos d e IC h=>an h λh0 h=>Tv (drop_nil e h0) (i sc ns elt h).1)
  (λit f6 il g DY lO ZD sc ns elt gens gs scope pos d e IC h=>BM (P:=λgs=>gens.drop d=gs->_) h (λc gs h e=>MI h λh0 h1 h2 h3 h4 h5=>Xk (P:=λc=>gens.drop d=c::gs->_) h0 (λe=>
    W9 (drop_cons e).1 IC (DY sc ns c.iter h1).1 h2 h3 (lO sc ns c.ifs h4) (ZD sc ns elt gens _ scope pos (d+1) (drop_cons e).2 IC h5)) e) e)
  ir
theorem Zt(il:IL):∀(sc:Sc)(ns:List bB)(es:List af),qF lo il sc ns es=true->fO (dT C bp k sc ns) es il:=
 IL.rec (motive_1:=λ_=>True) (motive_2:=λil=>∀(sc:Sc)(ns:List bB)(es:List af),qF lo il sc ns es=true->fO (dT C bp k sc ns) es il) (motive_3:=λ_=>True)
  (λ_=>trivial) (λ_=>trivial) (λ_=>trivial) (λ_ _ _ _ _=>trivial) (λ_ _ _=>trivial) (λ_ _=>trivial) (λ_ _=>trivial) (λ_ _ _ _ _=>trivial) (λ_ _ _ _ _ _ _ _=>trivial) (λ_ _ _ _ _ _=>trivial) (λ_ _ _ _=>trivial) (λ_ _ _ _ _ _=>trivial) (λ_ _=>trivial) (λ_ _ _=>trivial) (λ_ _=>trivial) (λ_ _ _=>trivial) (λ_ _=>trivial) trivial (λ_ _ _ _=>trivial) (λ_ _ _ _=>trivial) (λ_ _ _ _=>trivial) (λ_ _ _ _ _=>trivial) (λ_ _ _ _ _ _ _ _ _ _=>trivial) (λ_ _ _ _ _=>trivial) (λ_ _ _ _ _ _ _ _=>trivial) (λ_ _=>trivial)
  (λsc ns es h=>l0 h trivial) (λa il _ j sc ns es h=>BM h λe es h=>an h λh1 h2=>⟨(oT so hc hl a sc ns e h1).1,j sc ns es h2⟩) (λ_ _=>trivial) (λ_ _ _ _ _ _ _=>trivial) il
end
end
section
variable {lo:y5}
structure SetS(C:Cx):Prop extends SortS C where
 add:∀{bp:my}{k N:Nat}{sc:Sc}{ns:List bB}{o e:af}{p pos pos':dN}{q:Path}{ie:IE},(∀env,attributeBase o "add" env (eval o env)=eval o env)->(p.endLine==pos.line)=true->
  wZ C bp k sc ns o q->dT C bp k sc ns e ie->jy C bp N k sc ns (.Expr (.Call (.Attribute o "add" p) [e] [] pos) pos') (.add q ie)
theorem LF(h:z6 lo (.v i) sc ns e=true):j_ e (λx _=>vE ns i x)=true:=h
theorem Py{a:IE}(h:z6 lo (.at i a) sc ns e=true):gT e (λo j _=>j_ o λx _=>vE ns i x&&eB lo a sc ns j&&gp j)=true:=h
theorem LG(h:z6 lo (.fld i j) sc ns e=true):gg e (λo y _=>j_ o λx _=>vE ns i x&&gA[j]?==some y&&decide (j<15))=true:=h
section
variable (so:SetS C)(hc:w9 C bp k)(hl:∀k args fb dD n,lo k args fb dD n=true->Bu k args fb dD n=true)
include so hc hl
theorem VO:∀{p:Path}{e:af},z6 lo p sc ns e=true->wZ C bp k sc ns e p/\k0 e=true
 |.v i,e,h=>kL (LF h) λx _ h=>tL h λh n1 n2=>⟨Zo h n1 n2,rfl⟩
 |.at i a,e,h=>iV (Py h) λo j _ h=>kL h λx _ h=>rT h λh h3 h4=>tL h λh n1 n2=>⟨Zq h n1 n2 (oT so.toSortS hc hl a sc ns j h3).1 h4,rfl⟩
 |.fld i j,e,h=>jV (LG h) λo y _ h=>kL h λx _ h=>rT h λh h3 h4=>tL h λh n1 n2=>⟨VK h n1 n2 (eq_of_beq h3) (of_decide_eq_true h4),rfl⟩
theorem Sr{a:IE}{m:bB}{P:bU->Prop}(h:LH m st (λo e=>z6 lo q sc ns o&&eB lo a sc ns e)=true)
 (f:∀o e p pos pos',(∀env,attributeBase o m env (eval o env)=eval o env)->(p.endLine==pos.line)=true->wZ C bp k sc ns o q->dT C bp k sc ns e a->P (.Expr (.Call (.Attribute o m p) [e] [] pos) pos')):P st:=
 Xl h λo e p pos pos' hp h=>an h λh1 h2=>have X:=VO so hc hl h1;f o e p pos pos' (qH X.2) hp X.1 (oT so.toSortS hc hl a sc ns e h2).1
theorem Zv(ir:IB):∀(sc:Sc)(ns:List bB)(b:List bU),wM lo ir sc ns b=true->qK C bp N k sc ns b ir:=
 IB.rec (motive_1:=λir=>∀(sc:Sc)(ns:List bB)(st:bU),TP lo ir sc ns st=true->jy C bp N k sc ns st ir)
  (motive_2:=λir=>∀(sc:Sc)(ns:List bB)(b:List bU),wM lo ir sc ns b=true->qK C bp N k sc ns b ir)
  (λi a sc ns st h=>l_ h λts e _ h=>pW h λt h=>an h λh1 h2=>kL h1 λx p h1=>have E:=oT so.toSortS hc hl a sc ns e h2
    if q:qC e=true then GX (eq_of_beq h1) E.1 (E.2 q)else Jy (eq_of_beq h1) E.1 (dY.mpr q))
  (λis a sc ns st h=>l_ h λts e _ h=>pW h λt h=>sJ h λes n p h=>rT h λh1 h2 h3=>Ju h1 (oT so.toSortS hc hl a sc ns e h2).1 λxs k p q=>ff (q▸h3:notTuple (.Tuple xs k p)=true))
  (λis il sc ns st h=>l_ h λts e _ h=>pW h λt h=>sJ h λes n p h=>sJ h λvs _ _ h=>MI h λh1 h2 h3 h4 h5 h6=>
    Nv h1 (of_decide_eq_true h2) (Zt so.toSortS hc hl il sc ns vs h3) (eq_of_beq h4) (of_decide_eq_true h5) ((gO _ _).mp h6|>.imp eq_of_beq id))
  (λp b a sc ns st h=>p.casesOn (motive:=λp=>TP lo (.fV p b a) sc ns st=true->jy C bp N k sc ns st (.fV p b a))
    (λi h=>l_ h λts e _ h=>pW h λt h=>iV h λo j _ h=>LZ h λ_ h2 h3 h4=>kL (LF h2) λx _ h=>tL h λh n1 n2=>
    RW h n1 n2 (oT so.toSortS hc hl b sc ns j h3).1 (oT so.toSortS hc hl a sc ns e h4).1)
    (λi j h=>l_ h λts e _ h=>pW h λt h=>iV h λo j _ h=>LZ h λh1 _ _ _=>ff h1)
    (λi j h=>l_ h λts e _ h=>pW h λt h=>iV h λo j _ h=>LZ h λ_ h2 h3 h4=>
    RX (VO so hc hl h2).1 (oT so.toSortS hc hl b sc ns j h3).1 (oT so.toSortS hc hl a sc ns e h4).1) h)
  (λi j a sc ns st h=>l_ h λts e _ h=>pW h λt h=>jV h λo y _ h=>kL h λx _ h=>LZ h λh1 h3 h4 h5=>tL h1 λh1 n1 n2=>
    GU h1 n1 n2 (eq_of_beq h3) (of_decide_eq_true h4) (oT so.toSortS hc hl a sc ns e h5).1)
  (λq a sc ns st h=>Sr so hc hl (P:=λst=>jy C bp N k sc ns st _) h λo e p pos pos' hb hp P E=>Jz hb hp P E)
  (λq a sc ns st h=>Sr so hc hl (P:=λst=>jy C bp N k sc ns st _) h λo e p pos pos' hb hp P E=>Jx hb hp P E)
  (λq a sc ns st h=>Sr so hc hl (P:=λst=>jy C bp N k sc ns st _) h λo e p pos pos' hb hp P E=>so.add hb hp P E)
  (λis single i sc ns st h=>l_ h λts e _ h=>pW h λt h=>yB h λf args kw p3 h=>jV h λo m p2 h=>kL h λx _ h=>Q5 h λh0 QS h1 h2 h3 h4 h6=>l0 h0<|l0 QS<|CD h1<|tL h4 λh4 n1 n2=>
    s_pop h2 (eq_of_beq h3) h4 n1 n2 h6)
  (λa sc ns st h=>QB h λe _ h=>an h λh1 h2=>Va (oT so.toSortS hc hl a sc ns e h1).1 (nf h2))
  (λt x y S9 i_y sc ns st h=>jIf h λe b o _ h=>rT h λh1 h2 h3=>Zd (oT so.toSortS hc hl t sc ns e h1).1 (S9 sc ns b h2) (i_y sc ns o h3))
  (λt x S9 sc ns st h=>S6 h λe b o _ h=>rT h λh0 h1 h2=>l0 h0<|Nr (oT so.toSortS hc hl t sc ns e h1).1 (S9 sc ns b h2))
  (λis a x S9 sc ns st h=>Wh h λt i b o _ h=>Xv h λh0 h1 h2 h3 h4=>l0 h0<|Vl h1 (oT so.toSortS hc hl a sc ns i h2).1 h3 (S9 sc ns b h4))
  (λi j a x S9 sc ns st h=>Wh h λt c b o _ h=>sJ h λes k p h=>yB h λf args kw _ h=>kL h λf _ h=>pW h λe h=>MI h λh0 QS h1 h2 h3 h4=>an h0 λh01 h02=>l0 h01<|l0 h02<|CD QS<|
    (GW h1 (eq_of_beq QS▸eq_of_beq h2) (oT so.toSortS hc hl a sc ns e h3).1 (S9 sc ns b h4)))
  (λa sc ns st h=>OD h λe p h=>e.casesOn (motive:=λe=>e.elim (jT a) (λe=>eB lo a sc ns e)=true->jy C bp N k sc ns (.Return e p) (.ret a)) (λh=>(lit_none h).symm▸GV) (λe h=>Vc (oT so.toSortS hc hl a sc ns e h).1) h)
  (λsc ns st h=>Hy h λ_ _=>R7)
  (λsc ns st h=>R0)
  (λ_ sc ns st h=>ff h)
  (λ_ sc ns st h=>ff h)
  (λi j aX sc ns st h=>zD h λname args body Xi ret tps dD sc3 Qw _ h=>MI h λh0 h1 h2 h3 h4 h5=>LZ h0 λh01 h02 h03 h04=>l0 h01<|oN h02<|l0 h03<|oN h04<|CD h1<|R4 (eq_of_beq h2) (hl _ _ _ _ _ h3) h4 (eq_of_beq h5))
  (λsc ns b h=>l0 h Ve) (λst r i j sc ns b h=>oe h (λ_ h=>oe h (λ_ h=>BM h λst' ss h=>an h λh1 h2=>R8 (i sc ns st' h1) (j sc ns ss h2))
    λaX q h=>an h λh1 h2=>IS.Oq q (RZ (λi hi=>oP (aL.mp h1 i hi) λx q h=>⟨x,q,h⟩) (j sc ns b h2)))
    λi q h=>IS.W_ q (Ze (j sc ns b h)))
  ir
end
theorem Kx{m:Option bB}:∀k args fb dD n,Ky m k args fb dD n=true->Bu k args fb dD n=true:=λk args fb dD n h=>by
 induction m using aA with
 |none=>exact ff h
 |some _=>exact h
theorem Zu(so:SetS C)(hc:w9 C bp k)(f:bw)(n:Nat)(iU:Option bB)(fd:iX)(c:CF f n iU fd):Cm C bp N k f iU fd:=by
 have h:=c.body;unfold Cm;unfold uV at h;revert h;induction f.body using Body.casesOn with
 |stmts ib=>induction fd.body using g7 with
  |stmts ss=>exactλh=>Zv so hc Kx ib _ _ ss h
  |expr e=>exactλh=>ff h
 |expr ie=>induction fd.body using g7 with
  |stmts ss=>exactλh=>ff h
  |expr e=>exactλh=>(oT so.toSortS hc Kx ie _ _ e h).1
theorem LI(B:Base C)(so:SetS C)(k:Nat):w9 C (au N k) k:=LL B (λbp k hc f n iU fd c=>Zu so hc f n iU fd c) k
end
section
variable {G0:Gh}
theorem NY{xs:List Int}(R:dJ C G O h r (.ref a) (.set xs)):O a=r/\eQ C G a/\G.F a=none/\h.SetOf (ik C) a (λk=>xs.contains k) xs.length/\xs.Nodup/\mc C.w h a:=bS R λb e q=>xd e▸q
theorem Ig{xs:List Int}{j:Int}(h:xs.Nodup):(jx xs j).Nodup:=by
 delta jx;split
 . exact h
 . rename_i q
   refine mV.mpr ⟨h,by simp,λa ha b hb=>?_⟩;rw[aH]at hb;subst hb;intro e;subst e;exact q (by simpa using ha)
theorem Vr{o:af}{pos:dN}(hb:∀env,attributeBase o "add" env (eval o env)=eval o env)(hl:(p.endLine==pos.line)=true)
 (hp:wZ C bp k sc ns o q)(he:dT C bp k sc ns e ie):jy C bp N k sc ns (.Expr (.Call (.Attribute o "add" p) [e] [] pos) pos') (.add q ie):=λG O env A s fr wl fl cH bQ q0 H=>
 ob q0 λy q1 q=>f7 q λx w2 q2 q=>ob q λj h1 q=>ob q λxs h2 q=>dV q λhz q=>(OB.AP (P:=λo'=>kD bp _ fr wl=some ((o',y.1.2),y.2)->_) h2 λq1=>xo q
  (vG hb PySem.F.plainAttrs_set Cr PySem.F.type_set_add hl hp he q1 q2 H λv aM G1 a κ t i x' hv x1 W1 F1 P=>by
    subst hv;refine iS (NY P.rep) λg1 g2 g3 hS nd sm=>?_;refine⟨hS.typeIs,(by(refine u7 hS ?_;clear hS;intro o es q1;refine cM q1 ?_;clear q1;intro ep t ho hex _);exact⟨o,ho,hex.2.1⟩),λu bZ G2 x2 W2 R2=>iB R2 h1 λtk=>?_⟩
    (refine xE (gm hz.2.1) λn q2=>?_;subst q2)
    have hS2:=oI (x2.at_ g2) hS;refine gJ Cr hS2.typeIs PySem.F.entry_set_add ?_ (PySem.F.args_set_add_2 _ _);delta qQ.«set.add» P7;simp only[oa,bind_assoc];delta P9;refine ai (ar ?_)
    try dsimp only
    refine ai (ar ?_)
    try dsimp only
    refine ai (yY hS2 (sm.at_ (x2.at_ g2)) hz.1 (dn.mp hz.2.2) λb h' OW O_ sm'=>?_)
    show aJ _ _ (ret Im) _ _ _
    have ho:=(mH hS).choose_spec;exact ar ⟨_,rfl,(rt (tk:=bZ.toks+1) (h':=h') (wl:=w2) (o':=.set (jx xs n)) x1 F1 P x2 W2 trivial (eH OW) (mH O_) ⟨a,rfl,P.hO,x2.free g2 ho,x2.An g3 ho,O_,Ig nd,sm'⟩).next⟩)) q1
end
theorem yV:((ae 256).all λm=>c_ (gi m) 0==0&&(ae 8).all λi=>match(gi m)[i]?with|some j=>c_ (gi m) (j+1)==i+1|none=>true)=true:=by decide+kernel
theorem Er(hm:m<256):c_ (gi m) 0=0:=by
 have h:=aL.mp yV m (aC.mpr hm);rw[bX,beq_iff_eq]at h;exact h.1
theorem Es(hm:m<256)(hi:i<8)(hj:(gi m)[i]?=some j):c_ (gi m) (j+1)=i+1:=by
 have h:=aL.mp yV m (aC.mpr hm);rw[bX]at h
 have h2:=aL.mp h.2 i (aC.mpr hi);rw[hj]at h2;exact beq_iff_eq.mp h2
theorem get_erase{α:Type}:∀{l:List α}{i:Nat}(h:i<l.length),(l[i]::l.eraseIdx i).Perm l
 |x::l,0,_=>.refl _
 |x::l,i+1,h=>by
  have ih:=get_erase (l:=l) (i:=i) (EL h);exact(List.Perm.swap _ _ _).trans (ih.cons x)
theorem Fe{α:Type}{next:Nat->Nat}:∀(n k:Nat)(left:List α)(out:Array α),left.length=n->(xZ next n k left out).toList.Perm (out.toList++left)
 |0,k,left,out,h=>by
  rw[n9]at h;subst h;unfold xZ;rw[cC]
 |n+1,k,left,out,h=>by
  unfold xZ
  have oj:next k%left.length<left.length:=tC _ (h▸uu n)
  refine eW (aV oj) ?_;dsimp only;refine(Fe n (k+1) _ _ (by refine eW (List.length_eraseIdx_of_lt oj)<|eW h ?_;rfl)).trans ?_;refine eW mE<|eW (gZ ..) ?_;exact List.Perm.append_left _<|get_erase oj
theorem Ha{α:Type}(next:Nat->Nat)(xs:Array α):(pickOrder next xs).toList.Perm xs.toList:=by
 have:=Fe (next:=next) xs.size 0 xs.toList #[] rfl
 rwa[lp]at this
theorem o4{x:Int}:∀{l:List Int},(insertSorted x l).Perm (x::l)
 |[]=>.refl _
 |y::l=>by
  unfold insertSorted;split
  . exact .refl _
  . exact(o4.cons y).trans (.swap _ _ _)
theorem yk:∀{l:List Int},(fU l).Perm l
 |[]=>.refl _
 |x::l=>by
  unfold fU;exact o4.trans (yk.cons x)
theorem qp{x:Int}:∀{l:List Int},l.Pairwise (·<=·)->(insertSorted x l).Pairwise (·<=·)
 |[],_=>by delta insertSorted;simp
 |y::l,h=>by
  rw[gE]at h;unfold insertSorted;split
  . rename_i q
    refine iW gE ?_;refine⟨λz hz=>?_,gE.mpr h⟩;rcases a6.mp hz with rfl|hz
    . exact q
    . exact XR q (h.1 z hz)
  . rename_i q
    refine iW gE ?_;refine⟨λz hz=>?_,qp h.2⟩;rcases a6.mp (o4.mem_iff.mp hz)with rfl|hz
    . lia
    . exact h.1 z hz
theorem tE:∀{l:List Int},(fU l).Pairwise (·<=·)
 |[]=>pg
 |x::l=>by unfold fU;exact qp tE
theorem vi:∀{l r:List Int},l.Perm r->l.Pairwise (·<=·)->r.Pairwise (·<=·)->l=r
 |[],r,p,_,_=>(List.nil_perm.mp p).symm
 |x::l,[],p,_,_=>by have:=p.length_eq;cases this
 |x::l,y::r,p,h1,h2=>by
  rw[gE]at h1 h2
  have e:x=y:=by
   have a1:x∈y::r:=p.mem_iff.mp (.head _)
   have a2:y∈x::l:=p.mem_iff.mpr (.head _);rcases a6.mp a1 with q|q
   . exact q
   . rcases a6.mp a2 with q'|q'
     . exact q'.symm
     . exact Int.le_antisymm (h1.1 _ q') (h2.1 _ q)
  subst e;exact eW (vi (List.Perm.cons_inv p) h1.2 h2.2) rfl
theorem Nj{ns xs:List Int}(p:ns.Perm xs)(h:ns.Pairwise (·<=·)):ns=fU xs:=vi (p.trans yk.symm) h tE
noncomputable def cZ(w:gK)(a:aO)(ep:Nat)(es:Array (Int×aB)):Array (Int×aB):=if w.params.followText "set-order" then pickOrder (w.params.setOrder a ep) es else es
theorem kZ{w:gK}{es:Array (Int×aB)}:(cZ w a ep es).toList.Perm es.toList:=by
 unfold cZ;split
 . exact Ha _ _
 . exact .refl _
def Ey(w:gK)(m i slot:Nat):Prop:=w.params.followText "set-order"=true\/c_ (gi m) slot=i
theorem Jp{o:jY}{es:Array (Int×aB)}{slot:Nat}{Q:Option (aB×Nat)->aN->Prop}(ho:s.heap.get? a=some o)(hd:o.data=.set es ep (tabOf m (eX C.w)))(hf:(tabOf m (eX C.w)).fits es.size=true)(hm:m<256)(h4:es.size<=4)
 (hs:Ey C.w m i slot)(hi:i<=es.size)(h0:es.size=i->Q none s)(h1:∀e next,(cZ C.w a ep es)[i]?=some e->Ey C.w m (i+1) next->Q (some (e.2,next)) s):
 aJ C.M A (setNext a slot i ep) Q E s:=by
 have ZT:es.size=(gi m).size:=by
  simp only[p9,bX,beq_iff_eq]at hf;exact hf.1.symm
 have ZP:(cZ C.w a ep es).size=es.size:=by exact eL bC<|eW kZ.length_eq<|eW bC rfl
 unfold setNext;refine ai (ox ho hd hf ?_);dsimp only;unfold setsByText;refine ai (ai (eG (ar ?_)));induction hT:C.w.params.followText "set-order" using ax with
 |true=>
  have Yk:(Ue C.M.prog C.M.w.params).params.followText "set-order"=true:=hT;refine eW (if_pos Yk) ?_
  have hr:cZ C.w a ep es=pickOrder (C.w.params.setOrder a ep) es:=by unfold cZ;exact eW (if_pos hT) rfl
  simp only[bne_self_eq_false,ey,if_false];unfold setWalk;refine ai (ai (ox ho hd hf ?_));dsimp only;unfold setsByText;refine ai (ai (eG (ar ?_)));refine eW (if_pos Yk) ?_;refine ai (eG (ar ?_))
  show aJ _ _ (pure (((pickOrder (C.w.params.setOrder a ep) es)[i]?).map λe=>(e.2,slot))) _ _ _;refine eL hr ?_;refine ar ?_;induction q:(cZ C.w a ep es)[i]?using aA with
  |none=>exact h0 (by have:=yc.mp q;lia)
  |some e=>exact h1 e slot q (.inl hT)
 |false=>
  have Yk:¬(Ue C.M.prog C.M.w.params).params.followText "set-order"=true:=by
   show¬C.w.params.followText "set-order"=true;exact eW hT<|ay
  refine eW (if_neg Yk) ?_
  have ZZ:eX C.w=true:=by unfold eX;exact eW hT rfl
  refine eW ZZ ?_
  have hr:cZ C.w a ep es=es:=by unfold cZ;exact eW hT rfl
  have hb:c_ (gi m) slot=i:=hs.resolve_left (by exact eW hT<|ay);split
  . rename_i q;exact absurd (show false=true from q) ay
  . refine ai ?_
    show aJ _ _ (pure PUnit.unit) _ _ _;refine ar ?_;refine eW (show(tabOf m true).place=gi m from rfl)<|eW hb ?_;rw[hr]at h1;induction q:es[i]?using aA with
    |none=>exact ar (h0 (by have:=yc.mp q;lia))
    |some e=>
     have oj:i<es.size:=(lX.mp q).1
     have hp:(gi m)[i]?=some ((gi m)[i]'(by lia)):=mA _;exact eW hp<|ar (h1 e _ q (.inr (Es hm (by lia) hp)))
theorem iJ:Ip "set_iterator" "__next__" "set_iterator.__next__":=
 .of (owner:="set_iterator") (n:="__next__") (by refine eW (Yv ..)<|eW ML ?_;kernel_rfl) (by decide+kernel) (by decide+kernel) (by decide+kernel)
  (by first|exact .inl (by decide+kernel)|exact .inr (by decide+kernel)) (by refine eW (EF ..) ?_;kernel_rfl)
theorem sR:entryFor table "set_iterator.__next__"=some qQ.«set_iterator.__next__»:=entryFor_of_fast (by kernel_rfl)
theorem ug(a:aB):argsOk "set_iterator.__next__" ⟨[a],[]⟩:=by unfold argsOk;kernel_rfl
theorem wA:entryFor table "set.__iter__"=some qQ.«frozenset.__iter__»:=
 aaU (id':="frozenset.__iter__") (by kernel_rfl) rfl (by decide+kernel) (by kernel_rfl)
noncomputable def E4(a:aO)(first i n ep:Int)(tk:Tok):jY:={cls:=.type "set_iterator",data:=.fields #[.int first 0,.int i 0,.ref a,.int n 0,.int ep 0]}
theorem DF{o:jY}{es:Array (Int×aB)}(ho:s.heap.get? a=some o)(hc:o.cls=.type "set")(hd:o.data=.set es ep (tabOf m (eX C.w)))(hf:(tabOf m (eX C.w)).fits es.size=true)
 (h:Q (.ref s.heap.objs.size) {s with heap:=s.heap.push (E4 a 0 0 es.size ep 0)}):aJ C.M A (pyIter (.ref a)) Q E s:=by
 refine UK ⟨o,ho,hc⟩ Ap (gJ Ap ⟨o,ho,hc⟩ wA ?_ (PySem.F.args_set_iter_1 _));unfold qQ.«frozenset.__iter__»
 show aJ _ _ (qP a>>=_) _ _ s;unfold qP;refine ai (ai (Q9 ho hd hf (ar ?_)));unfold setDrawn;refine ai (ai (ox ho hd hf ?_));dsimp only;unfold setsByText;refine ai (ai (eG (ar (ar ?_))));rw[if_neg (λq=>ay (by
  rw[bX]at q;exact(show false=true from q.2)))]
 refine ai (ar (ai (wpAny_setEpoch_of ho hd hf ?_)));refine ai (kF (ar ?_));exact⟨_,rfl,"set_iterator",_,⟨_,bH _ rfl,rfl⟩,iJ.lookup,h⟩
section
variable {it:aO}
structure kT(w:gK)(a:aO)(es:Array (Int×aB))(ep m:Nat)(h:eu):Prop where
 obj:∃o,h.get? a=some o/\o.cls=.type "set"/\o.data=.set es ep (tabOf m (eX w))
 fits:(tabOf m (eX w)).fits es.size=true
 lt:m<256
 le:es.size<=4
theorem kT.at_{w:gK}{es:Array (Int×aB)}(x:kT w a es ep m h)(k:∀o,h.get? a=some o->h'.get? a=some o):kT w a es ep m h':=
 ⟨bS (x.obj) λo e r=>⟨o,k _ e,r⟩,x.fits,x.lt,x.le⟩
def Mf(w:gK)(a it:aO)(es:Array (Int×aB))(ep m i:Nat)(h:eu):Prop:=
 ∃slot:Nat,Ey w m i slot/\∃o,h.get? it=some o/\o.cls=.type "set_iterator"/\o.data=.fields #[.int slot 0,.int i 0,.ref a,.int es.size 0,.int ep 0]
theorem vF{es:Array (Int×aB)}{Q:Option aB->aN->Prop}(hh:A.handled=none)(L:kT C.w a es ep m s.heap)(I:Mf C.w a it es ep m i s.heap)(hi:i<=es.size)
 (h0:es.size=i->∀h',XG it s.heap h'->Q none {s with heap:=h'})
 (h1:∀e h',(cZ C.w a ep es)[i]?=some e->Mf C.w a it es ep m (i+1) h'->cQ it s.heap h'->Q (some e.2) {s with heap:=h'}):aJ C.M A (pyNext (.ref it)) Q E s:=by
 (refine IZ I ?_;clear I;intro slot hs o ho q1;refine xA q1 ?_;clear q1;intro hc hd)
 (refine dU (L.obj) λos hos FJ hds=>?_)
 have hT:s.TypeIs (.ref it) "set_iterator":=⟨o,ho,hc⟩;unfold pyNext;refine ai (wpAny_attempt (pZ (name:=aa "__next__") hT iJ (gJ iJ hT sR ?_ (ug _))));unfold qQ.«set_iterator.__next__»;refine ai (ar ?_);refine ai (aaS ho hd ?_);dsimp only;refine ai (Q9 hos hds L.fits ?_);rw[if_neg (by simp)];refine ai ?_;simp only[cG];refine Jp hos hds L.fits L.lt L.le hs hi (λq=>?_) (λe next q q2=>?_)
 . dsimp only
   refine ai (EE ho hd (by simp) ?_)
   show aJ _ _ (newExc (.type "StopIteration") []>>=_) _ _ _;refine ai ?_;simp only[newExc,newTuple];refine ai (kF ?_ (by size_fits));refine ai (m:=firstArgMember _ _) (wpAny_of_eq (a:=Im) (by first|rfl|(simp only[firstArgMember];rfl)) ?_);refine kF ?_ (by size_fits);simp only[raiseNew];refine ai (wpAny_handled ?_);refine eW (show A.in1.handled=none from hh) ?_;refine ai (ar (wpAny_throw ?_));refine ai (XC (T:="StopIteration") (b:=true) ⟨_,bH _ rfl,rfl⟩ isSubtype_stop ?_);exact ar (h0 q _ (((cA ..).extBut.push _).push _))
 . dsimp only
   refine ai (EE ho hd (by simp) ?_);refine ai (EE (en _ ho (p_ (fj hd _))) (fj hd _) (by simp) ?_);refine ar ⟨_,rfl,ar (h1 e _ q ⟨next,q2,_,en _ (en _ ho (p_ (fj hd _))) (p_ (fj (fj hd _) _)),?_,?_⟩ ?_)⟩
   . exact eW (MO ..)<|eW (MO ..)<|hc
   . refine eW (fj (fj hd _) ..) ?_
     simp[rawInt]
   . exact(cA ..).trans (cA ..)
end
theorem nY:Ip "set_iterator" "__iter__" "set_iterator.__iter__":=
 .of (owner:="set_iterator") (n:="__iter__") (by refine eW (Yv ..)<|eW ML ?_;kernel_rfl) (by decide+kernel) (by decide+kernel) (by decide+kernel)
  (by first|exact .inl (by decide+kernel)|exact .inr (by decide+kernel)) (by refine eW (EF ..) ?_;kernel_rfl)
theorem sS:entryFor table "set_iterator.__iter__"=some qQ.«dict_keyiterator.__iter__»:=
 aaU (id':="dict_keyiterator.__iter__") (by kernel_rfl) rfl (by decide+kernel) (by kernel_rfl)
theorem uh(a:aB):argsOk "set_iterator.__iter__" ⟨[a],[]⟩:=by unfold argsOk;kernel_rfl
section
variable {it:aO}
theorem Jq{Q:Bool->aN->Prop}(hT:s.TypeIs (.ref a) "set")(h:Q false s):aJ C.M A (rY (.ref a)) Q E s:=by
 unfold rY;refine ai (wpAny_specialOf hT PySem.F.slot_set_len.lookup ?_);generalize hid:("set.__len__":String)=id0
 wp_delta
 rw[show splitId id0=some ("set","__len__")from by subst hid;decide+kernel];subst hid;refine ai (XC (T:="set") (b:=true) hT (by refine eW (EF ..) ?_;kernel_rfl) ?_);refine Yu (λWO=>absurd WO (by decide)) (λ_=>?_);refine Yu (λ_=>?_) (λWO=>absurd (by decide+kernel) WO);refine ai (wpAny_typeOf hT ?_);exact ar h
theorem Az{es:Array (Int×aB)}(hh:A.handled=none)(BL:a≠it):
 Walks pw C.w A it [it,a] [it] es.size (λi v=>∃e,(cZ C.w a ep es)[i]?=some e/\e.2=v) (λi h=>Mf C.w a it es ep m i h/\i<=es.size/\kT C.w a es ep m h)where
 sub:=λb hb=>by simp at hb;simp[hb]
 frame:=λ_ _ _ st hk=>⟨let⟨sl,x,o,e,r⟩:=st.1;⟨sl,x,o,hk it (.head _) o e,r⟩,st.2.1,st.2.2.at_ λo e=>hk a (.tail _ (.head _)) o e⟩
 item:=λi s Q E hi st hQ=>by
  refine vF hh st.2.2 st.1 st.2.1 (λq=>absurd q (e_ hi)) λe h' he Z2 yC=>?_;exact hQ e.2 h' s.toks ⟨e,he,rfl⟩ ⟨Z2,hi,st.2.2.at_ λo q=>yC.extBut a o BL q⟩ λb o hb q=>yC.extBut b o (λh=>hb (by simp[h])) q
 done:=λs Q E st hQ=>by
  have ZP:(cZ C.w a ep es).size=es.size:=by exact eL bC<|eW kZ.length_eq<|eW bC rfl
  refine vF hh st.2.2 st.1 st.2.1 (λq h' he'=>hQ h' s.toks λb o hb e=>he' b o (λh=>hb (by simp[h])) e) λe h' he _ _=>?_
  have:=(lX.mp he).1;lia
 self:=λi s Q E st hQ=>by
  (refine IZ (st.1) λsl x o e q2=>?_;refine xA q2 ?_;clear q2;intro hc r)
  have hT:s.TypeIs (.ref it) "set_iterator":=⟨o,e,hc⟩;refine UK hT nY (gJ nY hT sS ?_ (uh _))
  show aJ _ _ (ret (.ref it)) _ _ s;exact ar ⟨_,rfl,"set_iterator",_,hT,iJ.lookup,hQ⟩
theorem Np{es:Array (Int×aB)}:KdlSrc pw C.w "set" a a es.size (λi v=>∃e,(cZ C.w a ep es)[i]?=some e/\e.2=v) (kT C.w a es ep m)where
 type:=λs L=>dU (L.obj) λo e hc _=>⟨o,e,hc⟩
 there:=λh L=>bS (L.obj) λo e _=>⟨bb e,bb e⟩
 keep:=λ_ _ L hk=>L.at_ λo e=>hk a (.inl rfl) o e
 notList:=by decide
 notTuple:=by decide
 hint:=λ_ _ _ _ L hq=>Jq (C:=C) (dU (L.obj) λo e hc _=>⟨o,e,hc⟩) hq
 iter:=λA s hh L=>by
  (refine dU (L.obj) λo e hc hd=>?_)
  exact⟨E4 a 0 0 es.size ep 0,_,λ_ _ hq=>DF (C:=C) e hc hd L.fits hq,Az hh (bx (bb e)),
   ⟨0,.inr (Er L.lt),_,bH _ rfl,rfl,rfl⟩,aU _,L.at_ λo e=>a_ _ e⟩
theorem z4{es:Array (Int×aB)}{R:Result->aN->Prop}(hh:A.handled=none)(L:kT C.w a es ep m s.heap)
 (hR:∀h' tk lQ c',(∀b o,b≠s.heap.objs.size->s.heap.get? b=some o->h'.get? b=some o)->h'.get? s.heap.objs.size=some {cls:=.type "list",dict:=none,data:=.seq lQ c',slots:=#[]}->
   ItemsOf (λi v=>∃e,(cZ C.w a ep es)[i]?=some e/\e.2=v) lQ es.size->R (.ok (.ret (.ref s.heap.objs.size))) {s with heap:=h',toks:=tk}):
 codeAny C.M A (.builtin "proto.collect" ⟨[.ref a],[]⟩) R s:=by
 refine qY F.entry_proto_collect ?_;refine eW (pS F.plain_proto_collect _) ?_
 show aJ _ A.in1 (newList []>>=λl=>again (.builtin "list.__iadd__" ⟨[l,.ref a],[]⟩)) _ _ s;refine ai (jE ?_);refine ar ⟨plainId_quiet Rn _,qY F.entry_list_iadd ?_⟩;refine eW (pS Rn _) ?_
 have oj:a<s.heap.objs.size:=bS (L.obj) λo e _=>bb e
 have hS:(s.heap.push {cls:=.type "list",data:=.seq ([]:List aB).toArray}).get? s.heap.objs.size=some {cls:=.type "list",data:=.seq #[] 0}:=bH _ rfl;exact kdl_extend (s:={s with heap:=s.heap.push {cls:=.type "list",data:=.seq ([]:List aB).toArray}}) (Np (C:=C)) (by exact hh) (L.at_ λo e=>a_ _ e) s.heap.objs.size (e_ oj) (e_ oj) _ 0 hS
  (λh' tk lQ c' hk O_ O9=>hR h' tk lQ c' (λb o hb e=>hk b o hb (a_ _ e)) O_ O9) (by have:=L.le;refine eW dp ?_;lia)
theorem B7{es:Array (Int×aB)}{Q:List aB->aN->Prop}(hh:A.handled=none)(L:kT C.w a es ep m s.heap)
 (hQ:∀h' tk vs,(∀b o,s.heap.get? b=some o->h'.get? b=some o)->vs=((cZ C.w a ep es).map (·.2)).toList->Q vs {s with heap:=h',toks:=tk}):aJ C.M A (collect (.ref a)) Q E s:=by
 unfold collect;refine ai (wpAny_runValue (z4 hh L λh' tk lQ c' hk O_ O9=>?_))
 show aJ _ A (load s.heap.objs.size>>=_) _ _ _;refine ai (Ua O_ ?_);refine ar (hQ h' tk lQ.toList (λb o e=>hk b o (bx (bb e)) e) ?_)
 have ZP:(cZ C.w a ep es).size=es.size:=by exact eL bC<|eW kZ.length_eq<|eW bC rfl
 congr 1
 apply Array.ext
 . exact eW O9.1<|eW Array.size_map<|eW ZP rfl
 . intro i h1 h2
   (refine bS (O9.2 i lQ[i] (mA h1)) λe he hv=>?_)
   refine eL hv<|eW (Array.getElem_map ..) ?_
   (refine xE (lX.mp he) λ_ q=>?_)
   exact eW q rfl
theorem ints_map{α:Type}{f:α->aB}{g:α->Int}:∀{l:List α},(∀e∈l,∃t,f e=.int (g e) t)->IntsAre (l.map f) (l.map g)
 |[],_=>.nil
 |e::l,h=>by
  (refine xE (h e (.head _)) λt q=>?_)
  exact eW bT<|eW bT<|eW q<|.cons _ _ (ints_map λx hx=>h x (.tail _ hx))
theorem GZ{ns:List Int}(h:IntsAre vs ns):bA C G vs (ns.map .int):=IntsAre.rec (motive:=λvs ns _=>bA C G vs (ns.map .int)) .nil (λn t _ _ _ ih=>.cons (.int n t) ih) h
theorem vC:∀{xs ys:List Int},xs.Nodup->(∀x∈xs,x∈ys)->xs.length=ys.length->ys.Perm xs
 |[],ys,_,_,h=>by induction ys using bP with|nil=>exact .refl _|cons _ _=>cases h
 |x::xs,ys,hn,hs,hl=>by
  rw[ck]at hn
  have h1:=List.perm_cons_erase (hs x (.head _));refine h1.trans ((vC hn.2 (λy hy=>?_) ?_).cons x)
  . have:y≠x:=λe=>hn.1 (e▸hy)
    exact(List.mem_erase_of_ne this).mpr (hs y (.tail _ hy))
  . exact eW (List.length_erase_of_mem (hs x (.head _)))<|eL hl rfl
theorem Ni:Ma C:=by
 intro A G O s wl a xs v h₀ hh W R hx
 have hR:∃ρ:Nat->Role,dO C G O s.heap (λk=>some (ρ k)) v (.ob (.set xs)):=ob hx λt h1 h2=>(Ge (P:=λa=>cD C G O h₀ s.heap v a->_) h1 λR=>ob h2 λo h3 h4=>(OT.zt (P:=λt=>cD C G O h₀ s.heap v (.bor t)->_) h3 (OB.AP (P:=λo=>cD C G O h₀ s.heap v (.bor (.ob o))->_) h4 λR=>R)) R) R
 (refine xE hR ?_;clear hR;intro ρ hT)
 (refine m8 hT ?_;clear hT;intro a q4;subst q4;intro hO lC hF q3;refine mF q3 ?_;clear q3;intro q6;obtain⟨o,es,ep,T,ho,hex,hd,O7,kR,hb,hf,hz⟩:=q6;intro Uz o' q5;refine kP q5 ?_;clear q5;intro Yp Yq m pX ue hm IA)
 rw[ho]at pX;cases pX;rw[hd]at ue;cases ue
 have L:kT C.w a es ep m s.heap:=⟨⟨o,ho,hex.1,hd⟩,hf,hm,IA⟩
 have WE:∃g:Int×aB->Int,∀e∈es.toList,∃t,e.2=.int (g e) t:=⟨λe=>numOf e.2,λe he=>by
  (refine xA (O7 e he) λq7=>?_;obtain⟨k,hk,_⟩:=q7;intro _)
  (refine xE (IH hk) λt q=>?_)
  exact⟨t,by dsimp only;exact eW q rfl⟩⟩
 (refine xE WE ?_;clear WE;intro g hg)
 have wi:(es.toList.map g).Perm xs:=by
  refine vC Uz (λx hx=>?_) ?_
  . (refine bS ((kR x).mp (by simpa using hx)) λe he hp=>?_)
    (refine xE (hg e he) λt q=>?_)
    (refine xE (IH hp) λt' q'=>?_)
    rw[q]at q';cases q';exact bO.mpr ⟨e,he,rfl⟩
  . exact eW (aj ..)<|eW bC<|hz.symm
 have hI:IntsAre ((cZ C.w a ep es).toList.map (·.2)) ((cZ C.w a ep es).toList.map g):=ints_map λe he=>hg e ((kZ (w:=C.w) (a:=a) (ep:=ep)).mem_iff.mp he)
 have OY:((cZ C.w a ep es).toList.map g).Perm xs:=(kZ.map g).trans wi;refine Calls.call_function_entry kind_sorted plain_sorted entry_sorted (args_sorted1 _) ?_;unfold qQ.«sorted»;refine ai (m:=checkCount "sorted" 1 1 _) (ar ?_);refine ai (B7 (C:=C) hh L λh' tk vs k1 Ye=>?_);rw[Array.toList_map]at Ye;subst Ye
 have hlen:((cZ C.w a ep es).toList.map (·.2)).length<=4:=by exact eW (aj ..)<|eW ((kZ (w:=C.w) (a:=a) (ep:=ep) (es:=es)).length_eq)<|eW bC<|IA
 refine ai (jE ?_ (by refine eW dp ?_;lia))
 have Ww:(h'.push (seqObj "list" ((cZ C.w a ep es).toList.map (·.2)).toArray 0)).get? h'.objs.size=some (seqObj "list" ((cZ C.w a ep es).toList.map (·.2)).toArray 0):=bH _ rfl;refine ai (bL (gJ slot_list_sort ⟨_,Ww,rfl⟩ entry_list_sort (list_sort_tree Ww hI ?_ λout ns' a1 a2 a3=>⟨_,rfl,?_⟩) (args_list_sort _)))
 . lia
 . have Uy:=Nj (a2.trans OY) a3
   subst Uy;refine ar ⟨_,rfl,PE.after (Step.grow h' tk k1) (s':={s with heap:=h',toks:=tk}) ?_⟩
   (refine xE (sortedHeap_at (out:=out) Ww) λe1 h1=>?_)
   refine J0 (s:={s with heap:=h',toks:=tk}) (W.grow k1) (λb o' q=>?_) (o:={cls:=.type "list",data:=.seq out.toList.toArray e1}) (by refine eW Array.toArray_toList ?_;exact h1) λG' x1 x2=>.list x2 (GZ a1)
   have hb:b<h'.objs.size:=bb q;rw[sortedHeap_old (bx hb) (by rw[size_push'];exact dm hb)];exact a_ _ q
theorem Nn:SetS C:={ok:=Ni,add:=Vr}
end
abbrev ux:=aO->Option jY
noncomputable def kK(es:List b0)(x:bB):Option aB:=(es.find? λe=>e.key.isStr x).map (·.val)
noncomputable def vN(v:aB):Bool:=v.casesOn true false false (λ_=>false) (λ_ _=>false) (λ_ _=>false) (λ_ _=>false) (λ_ _=>false) (λ_=>false) (λ_=>false) λ_=>false
noncomputable def vB(v:aB):Option Bool:=v.casesOn none none none some (λ_ _=>none) (λ_ _=>none) (λ_ _=>none) (λ_ _=>none) (λ_=>none) (λ_=>none) λ_=>none
noncomputable def vI(v:aB):Option Int:=v.casesOn none none none (λ_=>none) (λi _=>some i) (λ_ _=>none) (λ_ _=>none) (λ_ _=>none) (λ_=>none) (λ_=>none) λ_=>none
noncomputable def vS(v:aB):Option bB:=v.casesOn none none none (λ_=>none) (λ_ _=>none) (λ_ _=>none) (λi _=>some i) (λ_ _=>none) (λ_=>none) (λ_=>none) λ_=>none
noncomputable def Bv(v:aB)(n:String):Bool:=v.casesOn false false false (λ_=>false) (λ_ _=>false) (λ_ _=>false) (λ_ _=>false) (λ_ _=>false) (λm=>m==n) (λ_=>false) λ_=>false
noncomputable def vU(v:aB)(n:String):Bool:=v.casesOn false false false (λ_=>false) (λ_ _=>false) (λ_ _=>false) (λ_ _=>false) (λ_ _=>false) (λ_=>false) (λm=>m==n) λ_=>false
noncomputable def vR(v:aB):Option aO:=v.casesOn none none none (λ_=>none) (λ_ _=>none) (λ_ _=>none) (λ_ _=>none) (λ_ _=>none) (λ_=>none) (λ_=>none) some
def isRef(v:aB)(a:aO):Bool:=(vR v).any λb=>c5 b a
noncomputable def oP_(d:Data):Bool:=d.casesOn true (λ_=>false) (λ_ _=>false) (λ_ _=>false) (λ_ _ _=>false) (λ_ _=>false) (λ_=>false) (λ_=>false) (λ_=>false) (λ_=>false) false
noncomputable def Su(d:Data):Option (Array aB):=d.casesOn none (λ_=>none) (λvs _=>some vs) (λ_ _=>none) (λ_ _ _=>none) (λ_ _=>none) (λ_=>none) (λ_=>none) (λ_=>none) (λ_=>none) none
noncomputable def N9(d:Data):Option (Array b0):=d.casesOn none (λ_=>none) (λ_ _=>none) (λes _=>some es) (λ_ _ _=>none) (λ_ _=>none) (λ_=>none) (λ_=>none) (λ_=>none) (λ_=>none) none
noncomputable def VS(d:Data):Option iX:=d.casesOn none (λ_=>none) (λ_ _=>none) (λ_ _=>none) (λ_ _ _=>none) (λ_ _=>none) (λ_=>none) some (λ_=>none) (λ_=>none) none
noncomputable def N7(d:Data):Option (Array aB):=d.casesOn none (λ_=>none) (λ_ _=>none) (λ_ _=>none) (λ_ _ _=>none) (λ_ _=>none) (λ_=>none) (λ_=>none) (λ_=>none) some none
def FL(g:ux)(a:aO):List b0:=((g a).bind λo=>N9 o.data).elim [] (·.toList)
def yH(g:ux)(a:aO):Bool:=(g a).any λo=>(N9 o.data).any λes=>es.toList.all λe=>(vS e.key).isSome
mutual
def AB(g:ux):FV->aB->Bool
 |.none,v=>vN v
 |.bool b,v=>(vB v).any λc=>b==c
 |.int i,v=>(vI v).any λj=>i==j
 |.str x,v=>(vS v).any λy=>x==y
 |.obj a,v=>isRef v a&&(g a).isSome
 |.tup xs,v=>(vR v).any λa=>(g a).any λo=>Bv o.cls "tuple"&&o.dict.isNone&&o.slots.toList.isEmpty&&(Su o.data).any λvs=>j5 g xs vs.toList
 |.list _,_=>false
 |.dict _,_=>false
 |.set _,_=>false
 |.inst _ _,_=>false
 |.mB _ _,_=>false
 |.range _ _ _,_=>false
 |.well,_=>false
def j5(g:ux):List FV->List aB->Bool
 |[],vs=>vs.isEmpty
 |x::xs,vs=>vs.casesOn false λv vs=>AB g x v&&j5 g xs vs
end
noncomputable def TBL:List (Nat×bB×Nat×Nat×bB):=[(609,aa "registers_ahead",608,606,aa "live_registers.<locals>.registers_ahead"),(649,aa "slots_ahead",648,646,aa "live_slots.<locals>.slots_ahead"),
 (699,aa "<lambda>",698,694,aa "_law_touch.<locals>.<lambda>"),(706,aa "<lambda>",705,701,aa "_law_plain.<locals>.<lambda>"),
 (713,aa "<lambda>",712,708,aa "_law_loose.<locals>.<lambda>"),(720,aa "<lambda>",719,715,aa "_law_part.<locals>.<lambda>")]
noncomputable def kJ:List (aO×aO):=[(608,606),(648,646),(698,694),(705,701),(712,708),(719,715)]
noncomputable def SD(a:Nat):Option (bB×Nat×Nat×bB):=(TBL.find? λt=>c5 t.1 a).map (·.2)
noncomputable def X8(P:aO):bB:=match TBL.find? λt=>c5 t.2.2.2.1 P with
 |some t=>t.2.2.2.2
 |none=>aa ""
noncomputable def gB(g:ux):ux:=λa=>if kJ.any λq=>c5 q.2 a then none else g a
noncomputable def KA:List Nat:=[97,96,140,139,490,489,87,130,447,454,461,468,475,482]
noncomputable def Uw(g:ux):Frag:=KA.filterMap λa=>(g a).map λo=>(a,o)
def LC(g:ux)(cv:aB)(q:bB):Bool:=(vR cv).any λc=>(g c).any λo=>(N7 o.data).any λvs=>(vs.toList[1]?:Option aB).any λv=>(vS v).any λx=>x==q
def FY(g:ux)(v:aB)(ds:List FV):Bool:=ds.isEmpty&&vN v||(vR v).any λT=>(g T).any λo=>(Su o.data).any λvs=>j5 g ds vs.toList
noncomputable def Du(mk:Option (bB×Nat×Nat×bB)):Option bB:=mk.map (·.1)
def Xf(g:ux)(f:bw)(mk:Option (bB×Nat×Nat×bB))(fd:iX):Bool:=
 jS fd.params f&&rN fd.scope f 0&&uV (Ky (Du mk)) ⟨fd.scope,Du mk,4⟩ f.names fd.body f.body&&c5 fd.globals bM&&c5 fd.builtins dq&&
 LC g fd.code fd.qualname&&fd.closure.isEmpty&&FY g fd.defaults f.dflt&&rb f.dflt.length f.params&&
 mk.all λm=>isRef fd.code m.2.1&&fd.qualname++".<locals>."++m.1==m.2.2.2
def Pc(g:ux)(a:Nat)(f:bw)(mk:Option (bB×Nat×Nat×bB)):Bool:=(g a).any λo=>(VS o.data).any λfd=>Xf g f mk fd
def QV(g:ux):Bool:=(ae 748).all λa=>(FT a).all λf=>Pc g a f (SD a)
def KD(v:Option (Option aB))(n:String):Bool:=v.any λv=>v.any λv=>vU v n
noncomputable def DK(v:Option (Option aB)):Bool:=v.any λv=>v.isNone
def zG(v:Option aB)(n:String):Bool:=v.any λv=>Bv v n
def wJ(g:ux)(K:Frag)(c:Nat)(f:bw):Bool:=
 KD (findIn K (.ref c) "__getattribute__") "object.__getattribute__"&&DK (findIn K (.ref c) "__getattr__")&&hasDictIn K c&&
 KD (findIn K (.ref c) "__setattr__") "object.__setattr__"&&plainOver K c&&makesIn K c&&keepIn K (.ref c)&&(g c).isSome&&
 ((ae 15).all λk=>DK (takerIn K c (attrName k))&&(findIn K (.ref c) (attrName k)).any λattr=>noGet K attr)&&
 (findIn K (.ref c) "__init__").any λv=>v.any λv=>(vR v).any λi=>zG (typeIn K (.ref i)) "function"&&Pc g i f none
def Dw(g:ux)(K:Frag)(k:Nat):Bool:=(oU 490 k).all λf=>((findIn K (.ref 490) (attrName k)).any λv=>v.any λv=>isRef v f)&&zG (typeIn K (.ref f)) "function"&&(g f).isSome
def Tt(g:ux):Bool:=GT.all λp=>(kK (FL g bM) p.1).any λv=>AB g p.2 v
noncomputable def bis:List BI:=[.len,.range,.list,.set,.abs,.int,.max,.min,.sum,.sorted]
def Xp(g:ux):Bool:=bis.all λb=>(kK (FL g bM) b.word).isNone&&(kK (FL g dq) b.word).any λv=>decide (v=b.val)
def Lk(g:ux):Bool:=(kK (FL g bM) (aa "enumerate")).isNone&&zG (kK (FL g dq) (aa "enumerate")) "enumerate"
def Qy(g:ux):Bool:=yH g cStatics&&(kK (FL g cStatics) "sys.recursionlimit").isNone
def TR(g:ux):Bool:=(kK (FL g bM) "__builtins__").any λv=>(vR v).any λb=> !(c5 b dq)&& !(c5 b bM)&&(g b).any λo=>
 Bv o.cls "module"&&o.dict.any (λd=>c5 d dq)&&oP_ o.data
def Tn(g:ux)(c P:Nat):Bool:=(g c).any λo=>Bv o.cls "code"&& !(c5 c P)&&(N7 o.data).any λvs=>
 (vs.toList[11]?:Option aB).any (λv=>isRef v P)&&(vs.toList[18]?:Option aB).any (λv=>(vS v).isSome)&&(vs.toList[7]?:Option aB).any (λv=>(vI v).isSome)&&
   (vs.toList[9]?:Option aB).any (λv=>(vB v).isSome)&&(vs.toList[10]?:Option aB).any λv=>(vI v).isSome
def baseOk(g:ux):Bool:=
 QV g&&wJ g (Uw g) 97 hC&&wJ g (Uw g) 140 iM&&wJ g (Uw g) 490 dA&&([20,21,22,23,24].all λk=>Dw g (Uw g) k)&&
 yH g bM&&yH g dq&&Qy g&&Tt g&&Xp g&&Lk g&&TR g&&(kJ.all λq=>Tn g q.1 q.2)
def Qh(g:ux)(P:Nat):Bool:=(g P).any λo=>vN o.cls&&o.dict.isNone&&o.slots.toList.isEmpty&&(N7 o.data).any λvs=>vs.toList.isEmpty
def qD(g:ux):Bool:=baseOk (gB g)&&(kJ.all λq=>Qh g q.2)
variable{g:ux}
theorem LY{a:Bool}(h:(a&&b)=true):a=true/\b=true:=by induction a using ax<;>induction b using ax<;>first|exact⟨rfl,rfl⟩|exact ff h
theorem rE{n:String}(h:Bv v n=true):v=.type n:=by
 induction v using eT<;>first|exact ff h|exact congrArg _ (eq_of_beq h)
theorem U0{n:String}(h:vU v n=true):v=.builtin n:=by
 induction v using eT<;>first|exact ff h|exact congrArg _ (eq_of_beq h)
theorem I9(h:vN v=true):v=.none:=by
 induction v using eT<;>first|exact ff h|rfl
theorem Qf(h:vB v=some b):v=.bool b:=by
 induction v using eT<;>first|exact nn h|exact congrArg _ (ag h)
theorem I_{i:Int}(h:vI v=some i):∃t,v=.int i t:=by
 induction v using eT<;>first|exact nn h|(obtain rfl:=ag h;exact⟨_,rfl⟩)
theorem EZ{i:bB}(h:vS v=some i):∃t,v=.str i t:=by
 induction v using eT<;>first|exact nn h|(obtain rfl:=ag h;exact⟨_,rfl⟩)
theorem yf(h:vR v=some a):v=.ref a:=by
 induction v using eT<;>first|exact nn h|exact congrArg _ (ag h)
theorem oX{n:Nat}(h:isRef v n=true):v=.ref n:=oP h λ_ h e=>(yf h).trans (congrArg _ (bN e))
theorem VQ{d:Data}(h:oP_ d=true):d=.plain:=by
 induction d using lL<;>first|exact ff h|rfl
theorem Fj{d:Data}{vs:Array aB}(h:Su d=some vs):∃n,d=.seq vs n:=by
 induction d using lL<;>first|exact nn h|(obtain rfl:=ag h;exact⟨_,rfl⟩)
theorem N8{d:Data}{vs:Array b0}(h:N9 d=some vs):∃n,d=.dict vs n:=by
 induction d using lL<;>first|exact nn h|(obtain rfl:=ag h;exact⟨_,rfl⟩)
theorem N6{d:Data}(h:VS d=some fd):d=.func fd:=by
 induction d using lL<;>first|exact nn h|exact congrArg _ (ag h)
theorem zr{d:Data}{vs:Array aB}(h:N7 d=some vs):d=.fields vs:=by
 induction d using lL<;>first|exact nn h|exact congrArg _ (ag h)
theorem k_{α:Type}{v:Option α}(h:v.isNone=true):v=none:=ee.mp h
theorem gy{α:Type}{v:Option α}(h:v.isSome=true):∃x,v=some x:=iO.mp h
theorem Bw{v:Option (Option aB)}{n:String}(h:KD v n=true):v=some (some (.builtin n)):=
 oS h λ_ h=>oS h λ_ h=>congrArg (λx=>some (some x)) (U0 h)
theorem yy{v:Option (Option aB)}(h:DK v=true):v=some none:=oS h λ_ h=>congrArg some (k_ h)
theorem sD{v:Option aB}{n:String}(h:zG v n=true):v=some (.type n):=oS h λ_ h=>congrArg some (rE h)
theorem zv{α:Type}{v:Array α}(h:v.toList.isEmpty=true):v=#[]:=congrArg lW (fe.mp h)
theorem Kq{es:Array b0}:nsFind es x=kK es.toList x:=by
 obtain⟨l⟩:=es
 show((List.toArray l).find? _).map _=_;refine eW (List.find?_toArray ..) ?_;rfl
theorem Kc(e:yH h.get? a=true):h.Ns a λx=>kK (FL h.get? a) x:=
 oP e λo q e=>oP e λes d e=>xE (N8 d) λn d'=>⟨o,es,n,q,d',λx hx=>xE (gy (aL.mp e x (Array.mem_toList_iff.mpr hx))) λ_ h=>xE (EZ h) λ_ h=>⟨_,_,h⟩,
  λx=>Kq.trans (congrArg (λl:List b0=>kK l x) (congrArg (λo:Option (Array b0)=>o.elim [] Array.toList) (bs (f:=λo:jY=>N9 o.data) q d)).symm)⟩
theorem J_{o:jY}{c:aB}{d:Option aO}{t:Data}{s:Array (Option aB)}(h1:o.cls=c)(h2:o.dict=d)(h3:o.data=t)(h4:o.slots=s):o=⟨c,d,t,s⟩:=h1▸h2▸h3▸h4▸rfl
theorem AA(h1:∀v,AB g d v=true->Rep C G v d)(h2:∀vs,j5 g ds vs=true->bA C G vs ds)(vs:List aB):j5 g (d::ds) vs=true->bA C G vs (d::ds):=
 vs.casesOn (motive:=λvs=>j5 g (d::ds) vs=true->bA C G vs (d::ds)) (λh=>ff h) λv vs h=>an h λa b=>.cons (h1 v a) (h2 vs b)
theorem EY(vs:List aB):j5 g [] vs=true->bA C G vs []:=
 vs.casesOn (motive:=λvs=>j5 g [] vs=true->bA C G vs []) (λ_=>.nil) λ_ _ h=>ff h
theorem EW(hb:∀b o,C.B.get? b=some o->G.F b=some o)(hg:∀b o,g b=some o->C.B.get? b=some o)(d:FV):∀(v:aB),AB g d v=true->Rep C G v d:=
 FV.rec (motive_1:=λd=>∀v,AB g d v=true->Rep C G v d) (motive_2:=λds=>∀vs,j5 g ds vs=true->bA C G vs ds) (motive_3:=λ_=>True) (motive_4:=λ_=>True) (motive_5:=λ_=>True) (motive_6:=λ_=>True)
  (λ_ h=>I9 h▸.none) (λ_ _ h=>oP h λ_ e h=>Qf e▸eq_of_beq h▸.bool _) (λ_ _ h=>oP h λ_ e h=>xE (I_ e) λ_ e=>e▸eq_of_beq h▸.int _ _) (λ_ _ h=>oP h λ_ e h=>xE (EZ e) λ_ e=>e▸eq_of_beq h▸.str _ _)
  (λxs ih v h=>oP h λa e h=>yf e▸oP h λo ho h=>LZ h λt n s h=>oP h λvs hs h=>xE (Fj hs) λn hs=>.tup (n:=n) (vs:=vs.toList) (hb _ _ (hg _ _ (ho.trans (congrArg some (J_ (rE t) (k_ ‹_›) hs (zv s)))))) (ih _ h))
  (λ_ _ _ h=>ff h) (λ_ _ _ h=>ff h) (λ_ _ h=>ff h) (λ_ _ _ _ h=>ff h) (λ_ _ h=>an h λa b=>xE (gy b) λ_ b=>oX a▸.obj (hg _ _ b)) (λ_ _ _ _ h=>ff h) (λ_ _ _ _ h=>ff h) (λ_ h=>ff h)
  EY (λ_ _ h1 h2=>AA h1 h2) trivial (λ_ _ _ _=>trivial) trivial (λ_ _ _ _=>trivial) (λ_ _ _=>trivial) (λ_ _ _=>trivial) d
theorem I6(hb:∀b o,C.B.get? b=some o->G.F b=some o)(hg:∀b o,g b=some o->C.B.get? b=some o)(ds:List FV):∀(vs:List aB),j5 g ds vs=true->bA C G vs ds:=
 ds.rec EY λd _ ih=>AA (EW hb hg d) ih
theorem Pw{q:bB}(h:LC g cv q=true):mW g cv q:=
 oP h λc e h=>oP h λo ho h=>oP h λvs hd h=>oP h λv hv h=>oP h λx hx h=>xE (EZ hx) λt hx=>⟨c,o,vs,t,yf e,ho,zr hd,(pz).symm.trans (hv.trans (congrArg some (hx.trans (eq_of_beq h▸rfl))))⟩
theorem TJ(hv:fd.defaults=v)(h:FY C.B.get? v ds=true):
 ∃vs,(∀G:Gh,(∀b o,C.B.get? b=some o->G.F b=some o)->bA C G vs ds)/\Dflts C.B fd vs:=
 (iQ.mp h).elim (λh=>an h λa b=>⟨[],λ_ _=>fe.mp a▸.nil,.inl ⟨hv.trans (I9 b),rfl⟩⟩)
   λh=>oP h λT e h=>oP h λo ho h=>oP h λvs hs h=>xE (Fj hs) λn hs=>⟨vs.toList,λ_ hG=>I6 hG (λ_ _ e=>e) _ _ h,.inr ⟨T,o,n,hv.trans (yf e),ho,hs⟩⟩
def Ui(C:Cx)(mk:Option (bB×Nat×Nat×bB)):Prop:=∀m,mk=some m->(m.2.1,m.2.2.1)∈C.tabs/\C.tq m.2.2.1=m.2.2.2
theorem oA{α:Type u}{o:Option α}{f:α->Bool}{a:α}(h:o.all f=true)(e:o=some a):f a=true:=(show(some a).all f=true from e▸h)
theorem Xe{a:Nat}{mk:Option (bB×Nat×Nat×bB)}{o:jY}(hm:Ui C mk)(ho:C.B.get? a=some o)(hd:o.data=.func fd)(h:Xf C.B.get? f mk fd=true):
 ∃fd vs,FnAt C C.B.get? a f [] fd/\(∀G:Gh,(∀b o,C.B.get? b=some o->G.F b=some o)->bA C G vs f.dflt)/\Dflts C.B fd vs/\f.dflt.length<=f.params:=
 Xv h λh k4 k3 k2 k1=>MI h λh k9 k8 k7 k6 k5=>bS (TJ rfl k3) λvs d1 d2=>
  ⟨fd,vs,⟨⟨o,ho,hd⟩,⟨Du mk,⟨h,k9,k8⟩,λ_ hn=>Am hn λm e hn=>have q:=oA k1 e;an q λh1 h2=>xA (hm m e) λm1 m2=>
    ⟨_,_,oX h1,m1,ag hn▸(eq_of_beq h2).trans m2.symm⟩⟩,bN k7,bN k6,Pw k5,λj x hx=>nn (((congrArg (λl:List bB=>l[j]?) (MW)).symm).trans hx),
    λ_=>fe.mp k4⟩,d1,d2,av k2⟩
theorem QW{a:Nat}{mk:Option (bB×Nat×Nat×bB)}(hm:Ui C mk)(h:Pc C.B.get? a f mk=true):
 ∃fd vs,FnAt C C.B.get? a f [] fd/\(∀G:Gh,(∀b o,C.B.get? b=some o->G.F b=some o)->bA C G vs f.dflt)/\Dflts C.B fd vs/\f.dflt.length<=f.params:=
 oP h λ_ ho h=>oP h λ_ hd h=>Xe hm ho (N6 hd) h
theorem SA:(TBL.all λt=>decide ((t.2.2.1,t.2.2.2.1)∈kJ)&&X8 t.2.2.2.1==t.2.2.2.2)=true:=by kernel_rfl
theorem VY(ht:C.tabs=kJ)(hq:C.tq=X8)(a:Nat):Ui C (SD a):=λ_ hm=>bS (cE.mp hm) λ_ e q=>q▸ht▸hq▸an (aL.mp SA _ (iF e)) λx y=>⟨of_decide_eq_true x,eq_of_beq y⟩
theorem Tz(n:Nat):FT (n+748)=none:=by kernel_rfl
theorem Xb{a:Nat}(h:FT a=some f):a<748:=
 P' λq=>xE (Nat.exists_eq_add_of_le' q) λn e=>nn ((Tz n).symm.trans (e▸h))
theorem Hq{a:Nat}{o:jY}(l:List Nat):(l.filterMap λa=>(g a).map λo=>(a,o)).lookup a=some o->g a=some o:=
 l.rec (λh=>nn h) λb l ih h=>by
  rw[lI]at h;induction q:g b using aA with
  |none=>rw[q]at h;exact ih h
  |some o'=>
   rw[q]at h;exact V3 h (λe x=>e▸x▸q) λ_ h=>ih h
theorem Lx{P:Nat->bw->Prop}(h1:P 97 hC)(h2:P 140 iM)(h3:P 490 dA)(a:Nat)(f:bw)(h:CT a=some f):P a f:=
 r8 h (λe h=>e▸ag h▸h1) λ_ h=>r8 h (λe h=>e▸ag h▸h2) λ_ h=>r8 h (λe h=>e▸ag h▸h3) λ_ h=>nn h
structure Al(C:Cx)(c:Nat)(f:bw):Prop where
 get:findIn C.K (.ref c) "__getattribute__"=some (some (.builtin "object.__getattribute__"))/\findIn C.K (.ref c) "__getattr__"=some none/\hasDictIn C.K c=true
 set:findIn C.K (.ref c) "__setattr__"=some (some (.builtin "object.__setattr__"))/\plainOver C.K c=true
 take:∀k,k<15->takerIn C.K c (attrName k)=some none
 attr:∀k,k<15->∃attr,findIn C.K (.ref c) (attrName k)=some attr/\noGet C.K attr=true
 cls:makesIn C.K c=true/\keepIn C.K (.ref c)=true/\(∃o,C.B.get? c=some o)/\
  ∃i fd vs,findIn C.K (.ref c) "__init__"=some (some (.ref i))/\typeIn C.K (.ref i)=some (.type "function")/\FnAt C C.B.get? i f [] fd/\(∀G,(∀b o,C.B.get? b=some o->G.F b=some o)->bA C G vs f.dflt)/\Dflts C.B fd vs/\f.dflt.length<=f.params
theorem Eh(h:wJ C.B.get? C.K c f=true):Al C c f:=
 Xv h λh k4 k3 k2 k1=>MI h λh k9 k8 k7 k6 k5=>
 have each:∀k,k<15->takerIn C.K c (attrName k)=some none/\∃attr,findIn C.K (.ref c) (attrName k)=some attr/\noGet C.K attr=true:=λk hk=>
  have q:=aL.mp k2 k (aC.mpr hk)
  an q λa b=>⟨yy a,oP b λx e h=>⟨x,e,h⟩⟩
 ⟨⟨Bw h,yy k9,k8⟩,⟨Bw k7,k6⟩,λk hk=>(each k hk).1,λk hk=>(each k hk).2,k5,k4,gy k3,
   oP k1 λv e1 h=>oP h λv e2 h=>oP h λi e3 h=>an h λa b=>u7 (QW (mk:=none) (λm hm=>nn hm) b) λfd vs r=>⟨i,fd,vs,e1.trans (congrArg some (e2.trans (congrArg some (yf e3)))),sD a,r⟩⟩
theorem Kj(k:Nat)(f:Nat)(e:oU 490 k=some f):k∈[20,21,22,23,24]:=
 r8 e (λ_ e=>r8 e (λq _=>q▸aF (i:=0) rfl) λ_ e=>r8 e (λq _=>q▸aF (i:=1) rfl) λ_ e=>r8 e (λq _=>q▸aF (i:=2) rfl) λ_ e=>
  r8 e (λq _=>q▸aF (i:=3) rfl) λ_ e=>r8 e (λq _=>q▸aF (i:=4) rfl) λ_ h=>nn h) λh _=>absurd rfl h
theorem Oh(h:∀k∈[20,21,22,23,24],Dw C.B.get? C.K k=true)(c k f:Nat)(e:oU c k=some f):findIn C.K (.ref c) (attrName k)=some (some (.ref f))/\typeIn C.K (.ref f)=some (.type "function")/\∃o,C.B.get? f=some o:=
 r8 e (λhc _=>by
  subst hc
  have h:=oA (h k (Kj k f e)) e;exact rT h λh1 h2 h3=>oP h1 λv e1 h=>oP h λv e2 h=>⟨e1.trans (congrArg some (e2.trans (congrArg some (oX h)))),sD h2,gy h3⟩) λ_ h=>nn h
theorem SK{β:Type}{d:β}(l:List (bB×β)):l.lookup x=some d->(x,d)∈l:=
 l.rec (λh=>nn h) λ_ _ ih h=>V3 h (λe q=>e▸q▸a7) λ_ h=>aW _ (ih h)
theorem W0(h:Tt C.B.get?=true)(x:bB)(d:FV)(e:GT.lookup x=some d):∃v,kK (FL C.B.get? bM) x=some v/\∀G:Gh,(∀b o,C.B.get? b=some o->G.F b=some o)->Rep C G v d:=
 have h:=aL.mp h _ (SK _ e)
 oP h λv q h=>⟨v,q,λ_ hG=>EW hG (λ_ _ e=>e) d v h⟩
theorem LW{vs:Array aB}(e:vs.toList[i]?=some v):vs[i]?=some v:=(pz).symm.trans e
theorem rS{vs:Array aB}(e:vs.toList[i]?=some v)(q:v=u):vs.getD i .none=u:=(Array.getD_eq_getD_getElem?).trans ((congrArg (·.getD Im) (LW e)).trans q)
theorem zx{a b:Nat}(h:(!(c5 a b))=true):a≠b:=λe=>ff ((congrArg not ((e▸EN a:c5 a b=true))).symm.trans h)
theorem WG{P:Nat}(h:Tn C.B.get? c P=true):CodeHd C.B c P:=
 oP h λo ho h=>rT h λh0 h1 h=>oP h λvs hd h=>Xv h λh k5 k4 k3 k2=>oP h λ_ e11 VE=>oP k5 λ_ e18 VD=>oP k4 λ_ e7 q7=>oP k3 λ_ e9 q9=>oP k2 λ_ e10 NN=>
  xE (gy VD) λ_ VD=>xE (EZ VD) λ_ VD=>xE (gy q7) λ_ q7=>xE (I_ q7) λ_ q7=>xE (gy q9) λ_ q9=>xE (gy NN) λ_ NN=>xE (I_ NN) λ_ NN=>
  ⟨o,vs,_,_,_,_,_,_,_,ho,rE h0,zr hd,(LW e11).trans (congrArg some (oX VE)),rS e11 (oX VE),rS e18 VD,rS e7 q7,rS e9 (Qf q9),rS e10 NN,zx h1⟩
theorem Xo(h:TR C.B.get?=true):∃bm o,kK (FL C.B.get? bM) "__builtins__"=some (.ref bm)/\bm≠dq/\bm≠bM/\C.B.get? bm=some o/\o.cls=.type "module"/\o.dict=some dq/\o.data=.plain:=
 oP h λ_ e h=>oP h λb q h=>rT h λh1 h2 h=>oP h λo ho h=>rT h λh3 h4 h5=>oP h4 λ_ d h4=>⟨b,o,e.trans (congrArg some (yf q)),zx h1,zx h2,ho,rE h3,d.trans (congrArg some (bN h4)),VQ h5⟩
theorem PI(hK:C.K=Uw C.B.get?)(Tg:C.mg=λx=>kK (FL C.B.get? bM) x)(ZW:C.mb=λx=>kK (FL C.B.get? dq) x)(ht:C.tabs=kJ)(hq:C.tq=X8)
 (tg:∀q∈kJ,C.B.get? q.2=none)(h:baseOk C.B.get?=true):Base C:=
 have h:baseOk C.B.get?=true:=h
 have h:(QV C.B.get?&&wJ C.B.get? C.K 97 hC&&wJ C.B.get? C.K 140 iM&&wJ C.B.get? C.K 490 dA&&([20,21,22,23,24].all λk=>Dw C.B.get? C.K k)&&
  yH C.B.get? bM&&yH C.B.get? dq&&Qy C.B.get?&&Tt C.B.get?&&Xp C.B.get?&&Lk C.B.get?&&TR C.B.get?&&(kJ.all λq=>Tn C.B.get? q.1 q.2))=true:=hK▸h
 Q5 h λh k6 k5 k4 k3 k2 k1=>Q5 h λh c1 c2 c3 k9 k8 k7=>
 have cf:∀a f,CT a=some f->Al C a f:=Lx (Eh c1) (Eh c2) (Eh c3)
 have cs:∀c,(CT c).isSome=true->∃f,Al C c f:=λc hc=>xE (gy hc) λf e=>⟨f,cf c f e⟩
 have mem:∀b:BI,b∈bis:=λb=>aF (i:=b.ctorIdx) (by induction b using BI.casesOn<;>rfl)
 have bi:=λb=>LY (aL.mp k4 b (mem b))
 an k3 λe1 e2=>an k6 λl1 l2=>
 {QA:=hK▸λa o e=>Hq _ e,wK:=λc hc=>xE (cs c hc) λ_ x=>x.get,LD:=λc hc=>xE (cs c hc) λ_ x=>x.set,F7:=λc k hc=>xE (cs c hc) λ_ x=>x.take k,z5:=λc k hc=>xE (cs c hc) λ_ x=>x.attr k,
  eg:=Oh (λk hk=>aL.mp k9 k hk),fn:=λa f hf=>QW (VY ht hq a) (oA (f:=λf=>Pc C.B.get? a f (SD a)) (aL.mp h a (aC.mpr (Xb hf))) hf),cls:=λa f hf=>(cf a f hf).cls,g:=Tg▸Kc k8,b:=ZW▸Kc k7,
  nolimit:=⟨_,Kc l1,k_ l2⟩,gt:=Tg▸W0 k5,free:=λb _=>Tg▸k_ (bi b).1,bi:=λb=>ZW▸oP (bi b).2 λ_ e q=>e.trans (congrArg some (of_decide_eq_true q)),enum:=⟨Tg▸k_ e1,ZW▸sD e2⟩,
  hd:=ht▸λq hq=>WG (aL.mp k1 q hq),bm:=Tg▸Xo k2,nod:=ht▸(by decide),tg:=ht▸tg}
noncomputable def RN:List jY->Nat->BT->BT
 |[],_,t=>t
 |o::r,n,t=>RN r (n+1) (t.ins n o)
noncomputable def Tu(T:BT)(n:Nat):ux:=λa=>(Nat.blt a n).casesOn none ((T.get a).bind alive)
noncomputable def QT(T:BT)(n:Nat):Bool:=(ae n).all λa=>(T.get a).isSome
theorem Pa{T:BT}{n:Nat}{life:Life}(h:QT T n=true):(absHeap T n life).get?=Tu T n:=funext λa=>by
 unfold Tu;induction e:Nat.blt a n using ax with
 |false=>exact abs_get_none λq=>ff (e.symm.trans (Nat.ble_eq_true_of_le q))
 |true=>
  have lt:a<n:=av e;exact xE (gy (aL.mp h a (aC.mpr lt))) λo ho=>(abs_get lt ho).trans (bs ho rfl).symm
noncomputable def E0(h:eu):List (aO×aO)->eu
 |[]=>h
 |q::r=>(E0 h r).update q.2 λo=>{o with data:=.freed}
theorem CO(k:eu)(P:aO):(k.update P λo=>{o with data:=.freed}).get? P=none:=by
 show(match(k.update P _).objs[P]?with|some ⟨_,_,.freed,_⟩=>none|o=>o)=none;refine eW (show(k.update P λo=>{o with data:=.freed}).objs=k.objs.modify P λo=>{o with data:=.freed}from rfl)<|eW Array.getElem?_modify<|eW (if_pos rfl) ?_;induction k.objs[P]?using aA<;>rfl
theorem GA(h:eu)(b:aO)(l:List (aO×aO)):(E0 h l).get? b=if l.any (λq=>c5 q.2 b)then none else h.get? b:=
 l.rec rfl λq r ih=>by
  refine eW List.any_cons ?_;induction z:c5 q.2 b using ax with
  |true=>exact(congrArg (E0 h (q::r)).get? (bN z).symm).trans (CO _ _)
  |false=>exact(Heap.get?_update_ne _ _ _ _ λe:b=q.2=>ff (z.symm.trans ((congrArg (c5 q.2) e).trans (EN _)))).trans ih
def uf(w:gK)(B:eu):Cx where
 w:=w
 B:=B
 mg:=λx=>kK (FL B.get? bM) x
 mb:=λx=>kK (FL B.get? dq) x
 tabs:=kJ
 K:=Uw B.get?
 tq:=X8
theorem PJ{w:gK}(e:B.get?=gB g)(h:baseOk (gB g)=true):Base (uf w B):=
 PI (C:=uf w B) rfl rfl rfl rfl rfl (λq hq=>by
  show B.get? q.2=none;exact eW e<|if_pos (iz.mpr ⟨q,hq,EN _⟩)) (by
  show baseOk B.get?=true;exact eW e<|h)
theorem tab_of{P:Nat}(h1:Qh g P=true):g P=some (tabObj #[]):=
 oP h1 λo ho h=>LZ h λh1 h2 h3 h=>oP h λvs hs h=>ho.trans (congrArg some (J_ (I9 h1) (k_ h2) ((zr hs).trans (congrArg _ (zv h))) (zv h3)))
def xl(w:gK)(h:eu):Prop:=∃B:eu,Base (uf w B)/\(∀b o,B.get? b=some o->h.get? b=some o)/\∀q∈kJ,h.get? q.2=some (tabObj #[])
theorem xl.keeps{w:gK}(x:xl w h)(k:∀b o,h.get? b=some o->h'.get? b=some o):xl w h':=
 dU (x) λB e1 e2 e3=>⟨B,e1,λb o e=>k _ _ (e2 b o e),λq hq=>k _ _ (e3 q hq)⟩
theorem Hr{w:gK}(e:qD h.get?=true):xl w h:=
 have g:(E0 h kJ).get?=gB h.get?:=funext λb=>GA h b kJ
 an e λe1 e2=>⟨_,PJ g e1,λb o x=>r8 ((congrFun g b).symm.trans x) (λ_ q=>nn q) λ_ q=>q,λq hq=>tab_of (aL.mp e2 q hq)⟩
noncomputable def qv:Program:=view pw [136]
noncomputable def loose:List bB:=pw.boundNames
def startT(w:gK)(os:OsState):SharedT:=⟨RN (dM w.params).objs.toList 0 .nil,(dM w.params).objs.size,(dM w.params).life,lW [],Ud,XE,os⟩
theorem GJ(w:gK)(os:OsState):(startT w os).abs=⟨dM w.params,lW [],Ud,XE,os⟩:=by
 have:∀P:Params,(RN (dM P).objs.toList 0 .nil).list (dM P).objs.size=(dM P).objs.toList:=λP=>by kernel_rfl
 show Shared.mk (Heap.mk _ _) _ _ _ _=_;exact eW (show(startT w os).tree.list (startT w os).n=_ from this w.params) rfl
def uC(xC:Nat)(ann:Option aB)(w:gK):Nat->SharedT->Thread->Option SharedT
 |0,_,_=>none
 |n+1,s,t=>(through t).casesOn ((Fast.tw6613529449190102663 xC ann t).casesOn none ((Fast.tw10156331382660048174 (Fast.tw11892475500146522536 Fast.tw14364793385576792824) pw w s t).casesOn none λr=>r.casesOn λs' t'=>uC xC ann w n s' t')) (some s)
theorem bcs{α:Type u}{b:Bool}{x y:α}{z:α}{P:Prop}(h:(b.casesOn x y:α)=z)(f:b=false->x=z->P)(t:b=true->y=z->P):P:=
 b.casesOn (motive:=λb=>(b.casesOn x y:α)=z->(b=false->x=z->P)->(b=true->y=z->P)->P) (λh f _=>f rfl h) (λh _ t=>t rfl h) h f t
theorem U4{xC:Nat}{ann:Option aB}{w:gK}{n:Nat}{s:SharedT}{t:Thread}{r:SharedT×Thread}(h1:through t=false)(h2:stepOk xC ann t=true)(h3:stepT (denote treeTable) pw w s t=some r):
 topRun treeTable pw w xC ann (n+1) s.abs t=topRun treeTable pw w xC ann n r.1.abs r.2:=by
 show(match through t with|true=>_|false=>match stepOk xC ann t with|false=>_|true=>match step (denote treeTable) pw w s.abs t with|.go s' t'=>_|.halt _ _=>_)=_;rw[h1,h2,stepT_spec h3]
theorem CR{xC:Nat}{ann:Option aB}{w:gK}(n:Nat):∀(s:SharedT)(t:Thread)(s':SharedT),uC xC ann w n s t=some s'->topRun treeTable pw w xC ann n s.abs t=some s'.abs:=
 n.rec (λ_ _ _ h=>nn h) λn ih s t s' h=>bcs h (λh1 h=>bcs h (λ_ h=>nn h) λh2 h=>by
  rw[<-Fast.te6613529449190102663]at h2;rw[<-Fast.te10156331382660048174,<-Fast.te11892475500146522536,<-Fast.te14364793385576792824]at h;cases hs:stepT (denote treeTable) pw w s t with
  |none=>rw[hs]at h;exact nn h
  |some r=>rw[hs]at h;exact(U4 h1 h2 hs).trans (ih _ _ _ h)) λh1 h=>by
   show(match through t with|true=>_|false=>_)=_;rw[h1,ag h]
theorem Vu(w:gK)(os:OsState):(uC (dM w.params).objs.size ((dM w.params).nsMap bM "__annotations__") w 9372 (startT w os) (topStub pw)).map (λs=>
 (staticsOk (importedModules pw.main.body) (dM w.params) s.abs.heap&&namesBound pw s.abs.heap&&gensDone s.abs&&laidKept (dM w.params) s.abs.heap,openSeen qv loose (importedModules pw.main.body) (λ_=>true) true s.abs))=some (true,openGood qv loose):=by
 kernel_rfl
theorem Vt(w:gK)(os:OsState):(uC (dM w.params).objs.size ((dM w.params).nsMap bM "__annotations__") w 9372 (startT w os) (topStub pw)).map (λs=>QT s.tree s.n&&qD (Tu s.tree s.n))=some true:=by
 kernel_rfl
theorem Sd(w:gK)(os:OsState):∃s',topRun treeTable pw w (dM w.params).objs.size ((dM w.params).nsMap bM "__annotations__") 9372 ⟨dM w.params,lW [],Ud,XE,os⟩ (topStub pw)=some s'/\
 (staticsOk (importedModules pw.main.body) (dM w.params) s'.heap&&namesBound pw s'.heap&&gensDone s'&&laidKept (dM w.params) s'.heap)=true/\
 openSeen qv loose (importedModules pw.main.body) (λ_=>true) true s'=openGood qv loose/\qD s'.heap.get?=true:=by
 obtain⟨s,r,a⟩:=cE.mp (Vu w os);obtain⟨s2,r2,b⟩:=cE.mp (Vt w os);obtain rfl:=ag (r.symm.trans r2);obtain⟨a1,a2⟩:=gc a
 have r:=CR _ _ _ _ r;rw[GJ]at r;obtain⟨b1,b2⟩:=LY b;exact⟨s.abs,r,a1,a2,(Pa b1:s.abs.heap.get?=_)▸b2⟩
theorem Ou{p q:Program}{loose:List bB}{H:Params->eu}{d:Drawn}{M:Nat}(VN:∀w:gK,(fencedOpening treeTable p w N).map (λs=>(s.heap,s.gens,s.drawn,s.toks))=some (H w.params,lW [],d,k))
 (ns:∀w:gK,(H w.params).isNs bM=true)
 (run:∀(w:gK)(os:OsState),∃s',topRun treeTable p w (H w.params).objs.size ((H w.params).nsMap bM "__annotations__") M ⟨H w.params,lW [],d,k,os⟩ (topStub p)=some s'/\
   (staticsOk (importedModules p.main.body) (H w.params) s'.heap&&namesBound p s'.heap&&gensDone s'&&laidKept (H w.params) s'.heap)=true/\
   openSeen q loose (importedModules p.main.body) (λ_=>true) true s'=openGood q loose/\qD s'.heap.get?=true)(le:rb M N=true):
 LeftO p q loose (λ_=>true) (λs=>qD s.heap.get?) (λ_=>true) N:=λw=>by
 (refine bS (cE.mp (VN w)) λq1=>?_;obtain⟨h,gs,d',k',os⟩:=q1;intro e e')
 obtain⟨rfl,rfl,rfl,rfl⟩:h=H w.params/\gs=lW []/\d'=d/\k'=k:=by simpa only[MQ]using e'
 (refine oz (run w os) λs' r l1 l2 l3=>?_)
 have r:=topRun_mono (N-M) _ _ _ _ r;rw[show M+(N-M)=N from c6 (av le)]at r
 have t:topFrom treeTable p w N ⟨H w.params,lW [],d',k',os⟩=some s':=by
  unfold topFrom;dsimp only;refine eW (ns w) ?_
  show(topRun treeTable p w (H w.params).objs.size ((H w.params).nsMap bM "__annotations__") N ⟨H w.params,lW [],d',k',os⟩ (topStub p)).bind _=_;exact eW r<|eW (bJ ..)<|eW l1 rfl
 unfold openEnds;exact eW e<|eW (bJ ..)<|eW t<|congrArg some (Prod.ext l2 l3)
theorem GR:looksOpen cU.row.toRowW.prog=true:=by kernel_rfl
theorem Bt:cU.wellSaid=true:=by
 unfold OpenLaw.wellSaid OpenRow.wellSaid OpenRow.partSaid;rw[GR]
 kernel_rfl
noncomputable def wI(d:WData):Option Int:=d.casesOn none (λ_=>none) some (λ_=>none) (λ_=>none) (λ_=>none) (λ_=>none) (λ_=>none) (λ_=>none) (λ_=>none) (λ_=>none) (λ_=>none) λ_ _=>none
noncomputable def wL(d:WData):Option (List WData):=d.casesOn none (λ_=>none) (λ_=>none) (λ_=>none) some (λ_=>none) (λ_=>none) (λ_=>none) (λ_=>none) (λ_=>none) (λ_=>none) (λ_=>none) λ_ _=>none
theorem NQ(x:WData):Gn [] x .int=true->∃i,x=.int i:=by
 induction x using Rg<;>first|exactλ_=>⟨_,rfl⟩|exactλh=>ff h
theorem NP(x:WData):Gn [] x (.list .int)=true->∃xs,x=.list xs/\uW [] xs .int=true:=by
 induction x using Rg<;>first|exactλh=>⟨_,rfl,(fP _).symm.trans h⟩|exactλh=>ff h
theorem JX(xs:List WData):uW [] xs .int=true->∃ns:List Int,xs=ns.map qs:=
 xs.rec (λ_=>⟨[],rfl⟩) λx xs ih h=>an h λh1 h2=>xE (NQ x h1) λi e=>xE (ih h2) λns q=>⟨i::ns,e▸q▸rfl⟩
theorem C7{cl:bB->Option aO}{xs:List WData}{as:List aO}(r:ReadsAllW [] cl h vs xs as):∀ns:List Int,xs.map wI=ns.map some->bA C G vs (ns.map FV.int):=
 ReadsAllW.rec (motive_1:=λv d _ _=>∀i,wI d=some i->Rep C G v (.int i)) (motive_2:=λvs xs _ _=>∀ns:List Int,xs.map wI=ns.map some->bA C G vs (ns.map FV.int)) (motive_3:=λ_ _ _ _=>True)
  (λ_ e=>nn e) (λ_ _ e=>nn e) (λ_ _ _ e=>ag e▸.int _ _) (λ_ _ _ e=>nn e) (λ_ _ _ _ _ _ e=>nn e) (λ_ _ _ _ _ _ e=>nn e) (λ_ _ _ _ _ _ _ _ e=>nn e)
  (λ_ _ _ e=>nn e) (λ_ _ _ e=>nn e) (λ_ _ _ _ e=>nn e) (λ_ _ _ _ _ _ _ _ e=>nn e) (λ_ _ _ _ _ _ _ _ e=>nn e) (λ_ _ _ _ _ _ _ _ _ _ _ _ _ _ _ _ e=>nn e)
  (λns=>ns.casesOn (λ_=>.nil) λ_ _ e=>nomatch e) (λ_ _ h1 h2 ns=>ns.casesOn (λe=>nomatch e) λ_ ns e=>.cons (h1 _ (aK e).1) (h2 ns (aK e).2)) trivial (λ_ _ _ _ _=>trivial) r
section
variable {w:gK}
noncomputable def G0(B:eu)(l:aO)(o:jY):Gh:=⟨λa=>(B.get? a).or (if a=l then some o else none),none⟩
theorem Gy{o:jY}{x:jY}(e:B.get? a=some x):(G0 B l o).F a=some x:=congrArg (λz:Option jY=>z.or (if a=l then some o else none)) e
theorem Gx{o:jY}(e:B.get? a=none):(G0 B l o).F a=if a=l then some o else none:=congrArg (λz:Option jY=>z.or (if a=l then some o else none)) e
theorem Ul{o:jY}(k:∀b o,B.get? b=some o->h.get? b=some o)(hl:h.get? l=some o):y8 (G0 B l o) h:=λ_ _ e=>Qr e (λe=>k _ _ e) λe=>dV e λz e=>z▸ag e▸hl
theorem Um{o:jY}(k:∀b o,B.get? b=some o->h.get? b=some o)(hl:h.get? l=some o):(G0 B l o).F l=some o:=by
 induction q:B.get? l using aA with
 |some y=>exact(Gy q).trans ((k _ _ q).symm.trans hl)
 |none=>exact(Gx q).trans (if_pos rfl)
theorem GI{n:Nat}(k:∀b o,B.get? b=some o->h.get? b=some o)(tb:∀q∈kJ,h.get? q.2=some (tabObj #[]))(bs:Base (uf w B))
 (hl:h.get? l=some {cls:=.type "list",data:=.seq vs.toArray n}):bz (uf w B) (G0 B l {cls:=.type "list",data:=.seq vs.toArray n}) none h where
 sub:=Ul k hl
 base:=λa o e=>Gy e
 tabs:=λq hq=>⟨(Gx (bs.tg q hq)).trans (if_neg λe=>ff (congrArg (λz:Option jY=>z.any λ(o:jY)=>vN (Obj.cls o)) ((tb q hq).symm.trans ((congrArg h.get? e).trans hl))).symm),λe=>nn e,#[],tb q hq,trivial,λ_ _ e=>nn e⟩
 well:=trivial
theorem Tr:GT.lookup (aa "law")=some (.obj 747):=by kernel_rfl
theorem Tx:FT 747=some jq:=rfl
theorem OA(bs:Base (uf w B)):(uf w B).mg (aa "law")=some (.ref 747):=bS (bs.gt _ _ Tr) λ_ e r=>e.trans (congrArg some (r ⟨B.get?,none⟩ λ_ _ e=>e).inv.1)
theorem Z_{c P:aO}{Q:Prop}(x:CodeHd B c P)(k:∀o vs,B.get? c=some o->o.cls=.type "code"->o.data=.fields vs->vs[11]?=some (.ref P)->Q):Q:=
 x.elim λo x=>x.elim λvs x=>x.elim λ_ x=>x.elim λ_ x=>x.elim λ_ x=>x.elim λ_ x=>x.elim λ_ x=>x.elim λ_ x=>x.elim λ_ x=>k o vs x.1 x.2.1 x.2.2.1 x.2.2.2.1
theorem J8(bs:Base (uf w B))(kb:∀b o,B.get? b=some o->s.heap.get? b=some o)(tb:∀q∈kJ,s.heap.get? q.2=some (tabObj #[]))(W:bz (uf w B) G' bQ s'.heap)
 (ha:G.aw=none)(st:Step (uf w B) G G' s s'):OldK s.heap s'.heap:=⟨λb o e=>
 if hb:∃q∈kJ,q.2=b then bS hb λq hq q2=>.inr (.inl (by
  subst q2;obtain rfl:=ag ((tb q hq).symm.trans e);exact qk (W.tabs q hq) λ_ _ ps h3 _=>Z_ (bs.hd q hq) λo vs c1 c2 c3 c4=>⟨⟨q.1,o,vs,kb _ _ c1,c2,c3,c4⟩,rfl,#[],ps,rfl,(congrArg (λz=>s'.heap.get? q.2=some (tabObj z)) (Array.empty_append (xs:=ps))).mpr h3⟩))
 else .inl (st.keep b o ⟨λq hq e=>hb ⟨q,hq,e⟩,λq=>nn (ha.symm.trans q)⟩ e),st.alive⟩
theorem LK{n:Nat}{ns:List Int}(hk:k<=60)(bs:Base (uf w B))(kb:∀b o,B.get? b=some o->s.heap.get? b=some o)(tb:∀q∈kJ,s.heap.get? q.2=some (tabObj #[]))
 (hl:s.heap.get? l=some {cls:=.type "list",data:=.seq vs.toArray n})(hv:∀G:Gh,bA (uf w B) G vs (ns.map FV.int))(hc:au N k (.obj 747) [.fv (.list (ns.map FV.int))] none=some (.bool true,wl)):
 aJ (model pw w) callerA (call (.ref 747) [.ref l] []) (λv s'=>v=.bool true/\OldK s.heap s'.heap/\s'.os=s.os/\s'.gens=s.gens) ef s:=
 gf (bs.fn 747 jq Tx) λfd dv FA _=>bS FA.obj λof ho _=>
 dR (LI (N:=N) bs Nn k (.obj 747) [.fv (.list (ns.map FV.int))] none (.bool true) wl hc (G0 B l {cls:=.type "list",data:=.seq vs.toArray n}) _ (λ_=>none) s s callerA (.ref 747) [.ref l] bs rfl
  (by show 1+claimMargin+8*k+20<900;unfold claimMargin;lia) (by show 4+24*k+60<9000;lia) (GI kb tb bs hl) (Step.refl _ _ _) (λa r e=>nn e) (.obj ho)
  ⟨λ_=>none,λ_ _ e=>nn e,.list (Um kb hl) (hv _),trivial⟩).2 (λv s' y=>dU y λG' st W' R=>⟨R.inv,J8 bs kb tb W' rfl st,st.os,st.gens⟩) λ_ _ q=>q
end
abbrev lA:RowW:=cU.row.toRowW
def xj:Prop:=∃N k:Nat,k<=60/\∀ns:List Int,ns.length<=63->∃wl,au N k (.obj 747) [.fv (.list (ns.map FV.int))] none=some (.bool true,wl)
theorem Hj{n:Nat}(h:(XF (.not (.lt (.lit (.int (63:Nat))) (.lit (.int n)))) (.lit (.bool true))).holds [] {args:=[]}=true):n<=63:=
 have F:∀b:Bool,(XF (.not (.lit (.bool b))) (.lit (.bool true))).holds [] {args:=[]}=true->b=false:=λb=>b.casesOn (λ_=>rfl) λh=>ff h
 uw.mp (pj.mp (of_decide_eq_false (F (decide ((63:Int)<(n:Int))) h)))
theorem pre_of{args:List WData}(h:lA.claim.pre args=true):∃ns:List Int,args=[.list (ns.map qs)]/\ns.length<=63:=
 an h λh1 h2=>(args.casesOn (motive:=λargs=>P5 [] args [.list .int]=true->∃xs,args=[.list xs]/\uW [] xs .int=true) (λh=>ff h)
  (λx r h=>an h λh1 h2=>bS (NP x h1) λxs e h=>⟨xs,e▸congrArg (List.cons _) (r.casesOn (motive:=λr=>P5 [] r []=true->r=[]) (λ_=>rfl) (λ_ _ h=>ff h) h2),h⟩) h1).elim λxs h=>h.elim λe h=>xE (JX xs h) λns q=>
  ⟨ns,q▸e,aj (as:=ns) qs▸Hj (show(XF (.not (.lt (.lit (.int (63:Nat))) (.len (.arg 0)))) (.lit (.bool true))).holds [] {args:=[.list (ns.map qs)]}=true from q▸e▸h2)⟩
theorem Ox{R:WRecords}{cl:bB->Option aO}{P:Params}{ord:List b0->List b0}{ys:List WData}:
 layAllW R cl P ord [.list ys] s=(layAllW R cl P ord ys s).map λr=>([um r.2.heap.objs.size],{r.2 with heap:=r.2.heap.push {cls:=.type "list",data:=.seq r.1.toArray}}):=by
 show(match(match layAllW R cl P ord ys s with|some r=>_|ab=>_:Option (aB×aN))with|some a=>_|ab=>_)=_;induction layAllW R cl P ord ys s using aA<;>rfl
theorem Hw{R:WRecords}{w:gK}{AF:aN}{ns:List Int}{as:List aO}(L:Laid R w AF aM [.list (ns.map qs)] vs as):
 ∃(l:aO)(us:List aB),vs=[.ref l]/\aM.heap.get? l=some {cls:=.type "list",data:=.seq us.toArray 0}:=
 bS L.laid λ_ _ e=>Am (Ox.symm.trans e) λ_ _ e=>pk (P:=λvs aM=>∃(l:aO)(us:List aB),vs=[.ref l]/\aM.heap.get? l=some {cls:=.type "list",data:=.seq us.toArray 0}) (ag e) ⟨_,_,rfl,bH _ rfl⟩
theorem C6{cl:bB->Option aO}{d:WData}{as:List aO}(r:ReadsW [] cl h v d as):∀l us n xs,vR v=some l->wL d=some xs->h.get? l=some {cls:=.type "list",data:=.seq us n}->∃as,ReadsAllW [] cl h us.toList xs as:=
 ReadsW.casesOn (motive_1:=λv d _ _=>∀l us n xs,vR v=some l->wL d=some xs->h.get? l=some {cls:=.type "list",data:=.seq us n}->∃as,ReadsAllW [] cl h us.toList xs as) r
  (λ_ _ _ _ _ e=>nn e) (λ_ _ _ _ _ _ e=>nn e) (λ_ _ _ _ _ _ _ e=>nn e) (λ_ _ _ _ _ _ _ e=>nn e)
  (λg _ d r _ _ _ _ e1 e2 hl=>by
    obtain rfl:=ag e1;obtain rfl:=ag e2;obtain rfl:=ag (g.symm.trans hl);obtain rfl:_=_:=(Data.seq.inj d).1;exact⟨_,r⟩)
  (λ_ _ _ _ _ _ _ _ _ e=>nn e) (λ_ _ _ _ _ _ _ _ _ _ e=>nn e) (λ_ _ _ _ _ _ _ e=>nn e) (λ_ _ _ _ _ _ _ e=>nn e) (λ_ _ _ _ _ _ _ _ e=>nn e) (λ_ _ _ _ _ _ _ _ _ _ _ e=>nn e) (λ_ _ _ _ _ _ _ _ _ _ _ e=>nn e)
  (λ_ _ _ _ _ _ _ _ _ _ _ _ _ _ _ _ _ _ _ e=>nn e)
theorem G7{cl:bB->Option aO}{ns:List Int}{as:List aO}{n:Nat}(r:ReadsAllW [] cl h [.ref l] [.list (ns.map qs)] as)(hl:h.get? l=some {cls:=.type "list",data:=.seq us.toArray n})
 (C:Cx)(G:Gh):bA C G us (ns.map FV.int):=
 xE (ReadsAllW.casesOn (motive_2:=λvs xs _ _=>∀v d,vs.head?=some v->xs.head?=some d->∃as,ReadsW [] cl h v d as) r (λ_ _ e=>nn e) (λr _ _ _ e1 e2=>ag e1▸ag e2▸⟨_,r⟩) _ _ rfl rfl) λ_ r=>
 xE (C6 r _ _ _ _ rfl rfl hl) λ_ r=>C7 r ns (by exact eW bG rfl)
theorem post_of(args:List WData):lA.claim.post args (.bool true) args=true:=
 have F:∀b:Bool,b=true->(Gn [] (.bool true) .bool&&(WTm.lit (.bool b)).holds [] {args:=[]})=true:=λb e=>by subst e;rfl
 F (same (.bool true) (.bool true)) (by decide+kernel)
theorem Hv(left:LeftO pw qv loose (λ_=>true) (λs=>qD s.heap.get?) (λ_=>true) N)(Za:lA.claim.pre [.list []]=true->cU.row.wellSaid=true)
 (ok:(chainsOk qv&&opensWell pw&&(frees lA&&lA.within.isEmpty))=true)(hb:pw.bare){d:DefRec}{kwd:List (bB×af)}(Z':defOf qv (aa "law")=some (d,kwd))(hp:pw.theDef (aa "law")=some (d.params,d.body,d.scope))
 (hk:kwWritten? d.params.kwonlyargs d.params.kw_defaults=some kwd)(P:xj):cU.row.Holds:=by
 have OX:lA.claim.pre [.list []]=true:=rfl
 have hw:lA.promised:=⟨[.list []],OX,rfl⟩;refine⟨Za OX,hw,open_anyG (r:=lA) (run:=λf vs=>XD f vs) (tree:=λvs=>do match<-nsGet mainNs lA.name with
  |some f=>do ret (<-XD f vs)
  |none=>unsupported "claim.caller:no-such-global") (XP:=λ_ _=>True) (YP:=xl) left (λw s e=>Hr e) (λw h h' x k=>x.keeps k) (λ_ _=>trivial) (λ_ _ _ x _=>x) (λs _=>recFacts_nil rfl) rfl ok hb hw
  (λvs w s mg f Q E hg hf h=>ai (wpAny_nsGet hg (by exact eW hf<|ai (dR h (λ_ _ x=>ar x) λ_ _ x=>x))))
  (λw s hg G n hn=>?_) λw AF aM mg mb G Y args vs as OX adD L low=>?_⟩
 . obtain rfl:n=aa "law":=aH.mp hn
   exact pinned_of_view hg G Z' hp hk
 . (refine dU Y ?_;clear Y;intro B bs kb tb)
   (refine bS (pre_of OX) λns q8=>?_;subst q8;intro hn)
   (refine gf (Hw L) λl us q9=>?_;subst q9;intro hl)
   have Tg:mg (aa "law")=some (.ref 747):=by
    exact eL (OA bs)<|congrFun (Fo G.T.g (bs.g.keeps kb)) _
   refine⟨.ref 747,Tg,?_⟩
   (refine gf P ?_;clear P;intro M k hk hP)
   (refine xE (hP ns hn) λwl hc=>?_)
   refine dR (LK hk bs kb tb hl (λG=>G7 L.reads hl _ G) hc) (λv s' x=>?_) λ_ _ q=>q.elim
   (refine fA x ?_;clear x;intro NN;subst NN;intro a b c)
   exact⟨.inl ⟨.bool true,.bool true,[],rfl,λ_=>rfl,.bool true,post_of _,λ_=>⟨eC,λa h=>nomatch h⟩⟩,a,b,.of_eq (c.trans L.gens)⟩
theorem PF(w:gK):(dM w.params).isNs bM=true:=by kernel_rfl
theorem N0:opening pw=plainProg pw.main.scope.names:=by kernel_rfl
theorem K'(s:aN):fenceModules? pw s=some s:=by kernel_rfl
theorem Ot:LeftO pw qv loose (λ_=>true) (λs=>qD s.heap.get?) (λ_=>true) 9372:=
 Ou (H:=dM) (M:=9372) (boot_open N0 (by kernel_rfl) K') PF Sd (by kernel_rfl)
theorem Oo:(chainsOk qv&&opensWell pw&&(frees lA&&lA.within.isEmpty))=true:=by kernel_rfl
theorem B3:(defOf qv (aa "law")).isSome=true:=by kernel_rfl
def oW:DefRec×List (bB×af):=(defOf qv (aa "law")).get B3
theorem TL:defOf qv (aa "law")=some (oW.1,oW.2):=(Option.some_get B3).symm
theorem Po:pw.theDef (aa "law")=some (oW.1.params,oW.1.body,oW.1.scope):=by kernel_rfl
theorem TK:kwWritten? oW.1.params.kwonlyargs oW.1.params.kw_defaults=some oW.2:=by kernel_rfl
theorem PK:pw.bare:=⟨rfl,rfl,rfl,rfl,rfl,by kernel_rfl⟩
theorem Jt:cU.row.wellSaid=true:=row_said Bt
theorem KU(P:xj):cU.Holds:=⟨Bt,Hv Ot (λ_=>Jt) Oo PK TL Po TK P⟩
end
section
variable{C:my}{N k c a b i t s j v jX:Nat}{fr cH cs:List Slot}{wl w1 w2:WL}{xs ys ds vs aX:List FV}{d cy parts:FV}{iH:List (List FV)}{fs:List (Nat×OF)}{x y:EV}{is l:List Nat}{f L:Nat->Nat}{es:IL}{e it:IE}{z:Option (Fl×St)}{g:Nat->FV}{F nx A:Nat->List Nat}{y0:Slot}{P:Prop}{fq off:Int}{S S1:Nat->Bool}
section
variable {w3:WL}
theorem Qt{α:Type}{xs:List α}{n:Nat}:Fn xs n=xs[n]?:=if_pos (bI n)
theorem FE{n:Nat}(h:n<1000000):BH n=true:=decide_eq_true (by lia)
theorem Dg{n:Nat}(h:xs[n]?=some d)(hn:n<1000000):pick xs n=some (.fv d):=(if_pos (FE hn)).trans (ms (Qt.trans h))
theorem Wi{k:Int}:jt (.fv (.tup xs)) (.fv (.int k)) wl=pick xs k:=rfl
theorem Wj{k:Int}:jt (.fv (.list xs)) (.fv (.int k)) wl=pick xs k:=rfl
theorem KJ{k:Int}:jt (.bor (.ob (.list xs))) (.fv (.int k)) wl=pick xs k:=rfl
theorem OP{k:Int}:jt (.bor (.gr iH)) (.fv (.int k)) wl=if BH k then(Fn iH k).map λxs=>EV.bor (.ob (.list xs))else ab:=rfl
theorem S8{n:Nat}(h:iH[n]?=some xs)(hn:n<1000000):jt (.bor (.gr iH)) (.fv (.int n)) wl=some (.bor (.ob (.list xs))):=OP.trans ((if_pos (FE hn)).trans (ms (Qt.trans h)))
theorem V4{own:Bool}(h:xs.length<=2^20):jw .len own [.fv (.tup xs)]=some (.fv (.int xs.length)):=if_pos (decide_eq_true h)
theorem V5{own:Bool}(h:xs.length<=2^20):jw .len own [.fv (.list xs)]=some (.fv (.int xs.length)):=if_pos (decide_eq_true h)
theorem U5{k:Int}(hk:0<=k/\k<2^62)(h:xs.length<=2^20):AU (.fv (.list xs)) (.fv .none) (.fv (.int k))=some (.fv (.list (xs.take k.toNat))):=
 bs (a:=ab) rfl (bs (a:=some k) (if_pos hk) (if_pos (decide_eq_true h)))
theorem TX:mr (.bor (.inst c fs)) k=(fs.lookup k).map OF.ev:=rfl
theorem Xh{is js:List Int}(hi:pN x=none)(hs:LU x=none)(hx:x.ei=some xs)(hy:y.ei=some ys)(h1:eZ xs=some is)(h2:eZ ys=some js):UH x y=some (decide (is=js)):=by
 unfold UH;refine eW hi<|eW hs ?_;exact bs hx (bs hy (bs h1 (bs h2 rfl)))
theorem ET{f:IE}{xs:List EV}{r:FV}(h1:ev C f fr wl=some (.fv d,w1))(h2:ou C es fr w1=some (xs,w2))(h3:C d xs w2=some (r,w3)):ev C (.call f es) fr wl=some (.fv r,w3):=FQ.trans (bs h1 (bs h2 (ms h3)))
theorem aG{a:FV}{xs:List EV}{r:FV}(h2:ou C es fr wl=some (xs,w2))(h3:C a xs w2=some (r,w3)):ev C (.call (.bc a) es) fr wl=some (.fv r,w3):=ET rfl h2 h3
theorem fm{o:IE}{xs:List EV}{r:FV}(h1:ev C o fr wl=some (x,w1))(h2:ou C es fr w1=some (xs,w2))(hc:F8 x=some c)(hm:oU c k=some a)(h3:C (.obj a) (x::xs) w2=some (r,w3)):
 ev C (.eg (.user k) o es) fr wl=some (.fv r,w3):=FP.trans (bs h1 (bs h2 (bs hc (bs hm (ms h3)))))
theorem aE:ou C .nil fr wl=some ([],wl):=rfl
theorem ah{r:IL}{xs:List EV}(h1:ev C e fr wl=some (x,w1))(h2:ou C r fr w1=some (xs,w2)):ou C (.cons e r) fr wl=some (x::xs,w2):=ky.trans (bs h1 (ms h2))
theorem dh{op:Operator}{a b:IE}{r:EV}(h1:ev C a fr wl=some (x,w1))(h2:ev C b fr w1=some (y,w2))(h3:i9 op x y=some r):ev C (.bin op a b) fr wl=some (r,w2):=Li.trans (bs h1 (bs h2 (ms h3)))
theorem y7{op:CmpOp}{a b:IE}{r:Bool}(h1:ev C a fr wl=some (x,w1))(h2:ev C b fr w1=some (y,w2))(h3:mR op x y=some r):ev C (.cmp op a b) fr wl=some (.fv (.bool r),w2):=z1.trans (bs h1 (bs h2 (ms h3)))
theorem XW{op:UnaryOp}{a:IE}{r:EV}(h1:ev C a fr wl=some (x,w1))(h3:Nc op x=some r):ev C (.un op a) fr wl=some (r,w1):=QX.trans (bs h1 (ms h3))
theorem de{a i:IE}{r:EV}(h1:ev C a fr wl=some (x,w1))(h2:ev C i fr w1=some (y,w2))(h3:jt x y w2=some r):ev C (.idx a i) fr wl=some (r,w2):=Lf.trans (bs h1 (bs h2 (ms h3)))
theorem Aj{a:IE}{r:EV}(h1:ev C a fr wl=some (x,w1))(h3:mr x k=some r):ev C (.attr a k) fr wl=some (r,w1):=FR.trans (bs h1 (ms h3))
theorem Mx{a l h:IE}{z r:EV}(h1:ev C a fr wl=some (x,w1))(h2:ev C l fr w1=some (y,w2))(h3:ev C h fr w2=some (z,w3))(h4:AU x y z=some r):ev C (.xw a l h) fr wl=some (r,w3):=Lb.trans (bs h1 (bs h2 (bs h3 (ms h4))))
theorem iG{xs:List EV}(h1:ou C es fr wl=some (xs,w1))(h2:xR xs=some ds):ev C (.tup es) fr wl=some (.fv (.tup ds),w1):=K_.trans (bs h1 (ms h2))
theorem y6{own:Bool}{xs:List EV}(h1:ou C es fr wl=some (xs,w1))(h2:xR xs=some ds):ev C (.lst own es) fr wl=some (if own then .own (.ob (.list ds))else .fv (.list ds),w1):=Le.trans (bs h1 (ms h2))
theorem cI{b:BI}{own:Bool}{xs:List EV}{r:EV}(h1:ou C es fr wl=some (xs,w1))(h2:jw b own xs=some r):ev C (.bj b own es) fr wl=some (r,w1):=Lj.trans (bs h1 (ms h2))
theorem qU{t a b:IE}{r:EV}(h1:eK C t fr wl=some (true,w1))(h2:ev C a fr w1=some (r,w2)):ev C (.ite t a b) fr wl=some (r,w2):=D7.trans (bs h1 h2)
theorem pq{t a b:IE}{r:EV}(h1:eK C t fr wl=some (false,w1))(h2:ev C b fr w1=some (r,w2)):ev C (.ite t a b) fr wl=some (r,w2):=D7.trans (bs h1 h2)
theorem Cv{t a b:IE}{c:Bool}{r:EV}(h1:eK C t fr wl=some (c,w1))(h2:c=true->ev C a fr w1=some (r,w2))(h3:c=false->ev C b fr w1=some (r,w2)):ev C (.ite t a b) fr wl=some (r,w2):=by
 induction c using ax with
 |true=>exact qU h1 (h2 rfl)
 |false=>exact pq h1 (h3 rfl)
theorem PY{b:Bool}(hf:lP C e true fr wl=ku true (lP C e false fr wl))(h:ev C e fr wl=some (x,w1))(ht:iT x=some b):eK C e fr wl=some (b,w1):=(dg hf).trans (bs h (ms ht))
theorem jI{b:Bool}(hf:lP C e true fr wl=ku true (lP C e false fr wl))(h:ev C e fr wl=some (.fv (.bool b),w1)):eK C e fr wl=some (b,w1):=PY hf h rfl
theorem fJ{op:CmpOp}{a b:IE}{r:Bool}(h1:ev C a fr wl=some (x,w1))(h2:ev C b fr w1=some (y,w2))(h3:mR op x y=some r):eK C (.cmp op a b) fr wl=some (r,w2):=jI rfl (y7 h1 h2 h3)
theorem Gj{a:IE}{b:Bool}(h:eK C a fr wl=some (b,w1)):eK C (.un .Not a) fr wl=some (!b,w1):=FW.trans (ms h)
theorem jJ{b:Bool}(h:fI C es fr wl=some (b,w1)):eK C (.ig es) fr wl=some (b,w1):=BV.trans h
theorem Ae{b:Bool}(h:qr C es fr wl=some (b,w1)):eK C (.uG es) fr wl=some (b,w1):=FU.trans h
theorem pA:fI C .nil fr wl=some (true,wl):=rfl
theorem dS{r:IL}{b:Bool}(h:eK C e fr wl=some (true,w1))(h2:fI C r fr w1=some (b,w2)):fI C (.cons e r) fr wl=some (b,w2):=nK.trans (bs h h2)
theorem d7{r:IL}(h:eK C e fr wl=some (false,w1)):fI C (.cons e r) fr wl=some (false,w1):=nK.trans (bs h rfl)
theorem Uo{r:IL}{b c:Bool}(h:eK C e fr wl=some (b,wl))(h2:b=true->fI C r fr wl=some (c,wl)):fI C (.cons e r) fr wl=some (b&&c,wl):=by
 induction b using ax with
 |true=>exact dS h (h2 rfl)
 |false=>exact d7 h
theorem r7:qr C .nil fr wl=some (false,wl):=rfl
theorem fZ{r:IL}{b c:Bool}(h:eK C e fr wl=some (b,wl))(h2:b=false->qr C r fr wl=some (c,wl)):qr C (.cons e r) fr wl=some (b||c,wl):=by
 show(eK C e fr wl).bind _=_;refine eW h<|eW (bJ ..) ?_;induction b using ax with
 |true=>rfl
 |false=>exact h2 rfl
theorem aY:hX C N .nil (fr,wl)=some (.next,fr,wl):=rfl
theorem ao{s:IS}{r:IB}(h:ex C N s (fr,wl)=some (.next,cH,w1))(h2:hX C N r (cH,w1)=z):hX C N (.cons s r) (fr,wl)=z:=bs h h2
theorem br{s:IS}{r:IB}(h:ex C N s (fr,wl)=some (.ret d,cH,w1)):hX C N (.cons s r) (fr,wl)=some (.ret d,cH,w1):=bs h rfl
theorem Un{s:IS}{r:IB}(h:ex C N s (fr,wl)=some (.cont,cH,w1)):hX C N (.cons s r) (fr,wl)=some (.cont,cH,w1):=bs h rfl
theorem aZ(h:ev C e fr wl=some (.fv d,w1))(h2:setSlot fr i (.val d)=some cH):ex C N (.assign i e) (fr,wl)=some (.next,cH,w1):=bs h (ms h2)
theorem gC{t:OT}(h:ev C e fr wl=some (.own t,w1))(h2:setSlot fr i (.own t)=some cH):ex C N (.assign i e) (fr,wl)=some (.next,cH,w1):=bs h (ms h2)
theorem w_(h:ev C e fr wl=some (.fv (.tup ds),w1))(h2:ez fr is ds=some cH):ex C N (.unpack is e) (fr,wl)=some (.next,cH,w1):=bs h (ms h2)
theorem gk{xs:List EV}(h:ou C es fr wl=some (xs,w1))(h2:jR fr is xs=some cH):ex C N (.jm is es) (fr,wl)=some (.next,cH,w1):=bs h (ms h2)
theorem Gl(h:ev C e fr wl=some (.fv d,w1)):ex C N (.run e) (fr,wl)=some (.next,fr,w1):=bs h rfl
theorem cz{t:IE}{a b:IB}(h:eK C t fr wl=some (true,w1))(h2:hX C N a (fr,w1)=z):ex C N (.ite t a b) (fr,wl)=z:=bs h h2
theorem bl{t:IE}{a b:IB}(h:eK C t fr wl=some (false,w1))(h2:hX C N b (fr,w1)=z):ex C N (.ite t a b) (fr,wl)=z:=bs h h2
theorem Gm{b:IB}(h:ev C it fr wl=some (x,w1))(hi:items x=some vs)
 (h2:forL (λa v=>(c7 a.1 is v).bind λfr=>hX C N b (fr,a.2)) vs (fr,w1)=z):ex C N (.for is it b) (fr,wl)=z:=bs h (bs hi h2)
theorem Ij{b:IB}(h:ev C it fr wl=some (.fv (.list vs),w1))(hs:cc vs.length=true)
 (h2:K9 (λa n v=>(ez a.1 [i,j] [.int n,v]).bind λfr=>hX C N b (fr,a.2)) vs 0 (fr,w1)=z):ex C N (.kS i j it b) (fr,wl)=z:=bs h (bs (if_pos hs) h2)
theorem bY(h:ev C e fr wl=some (.fv d,w1)):ex C N (.ret e) (fr,wl)=some (.ret d,fr,w1):=bs h rfl
theorem J6{o:OB}(ho:fr[j]?=some (.own (.ob o))):kD C (.v j) fr wl=some ((o,λo'=>fr.set j (.own (.ob o'))),wl):=bs (bs ho rfl) rfl
theorem i_(ho:fr[j]?=some (.own (.ob (.list xs))))(h:ev C e fr wl=some (.fv d,w1))(hs:cc xs.length=true):
 ex C N (.append (.v j) e) (fr,wl)=some (.next,fr.set j (.own (.ob (.list (xs++[d])))),w1):=bs (J6 ho) (bs h (if_pos hs))
theorem pQ(ho:fr[j]?=some (.own (.ob (.list xs))))(h:ev C e fr wl=some (.fv (.list ds),w1))(hs:cc (xs.length+ds.length)=true):
 ex C N (.extend (.v j) e) (fr,wl)=some (.next,fr.set j (.own (.ob (.list (xs++ds)))),w1):=bs (J6 ho) (bs h (if_pos hs))
theorem EC{k:Int}{xs:List Int}(ho:fr[j]?=some (.own (.ob (.set xs))))(h:ev C e fr wl=some (.fv (.int k),w1))(hs:xs.length<4/\0<=k/\k<64):
 ex C N (.add (.v j) e) (fr,wl)=some (.next,fr.set j (.own (.ob (.set (jx xs k)))),w1):=bs (J6 ho) (bs h (if_pos hs))
theorem EA{i:IE}{k:Int}(h:ev C e fr wl=some (.fv d,w1))(ho:fr[j]?=some (.own (.ob (.list xs))))(h2:ev C i fr w1=some (.fv (.int k),w2))(hk:0<=k/\k.toNat<xs.length/\k<2^62):
 ex C N (.fV (.v j) i e) (fr,wl)=some (.next,fr.set j (.own (.ob (.list (xs.set k.toNat d)))),w2):=bs h (bs rfl (bs ho (bs h2 (bs rfl (if_pos hk)))))
theorem Mc{i:IE}{k:Int}{es:List (Int×FV)}(h:ev C e fr wl=some (.fv d,w1))(ho:fr[j]?=some (.own (.ob (.dict es))))(h2:ev C i fr w1=some (.fv (.int k),w2))(hk:cc es.length=true):
 ex C N (.fV (.v j) i e) (fr,wl)=some (.next,fr.set j (.own (.ob (.dict (dE es k d)))),w2):=bs h (bs rfl (bs ho (bs h2 (bs rfl (if_pos hk)))))
variable {args:List EV}
theorem cK{g:bw}(h:FT a=some g){z:Option (FV×WL)}(h2:C4 (au N k) N g [] args wl=z):au N (k+1) (.obj a) args wl=z:=by
 show(FT a).elim _ _=_;refine eW h ?_;exact h2
theorem RA{g:bw}(h:LT[j]?=some g){z:Option (FV×WL)}(h2:C4 (au N k) N g aX args wl=z):au N (k+1) (.mB j aX) args wl=z:=by
 show(LT[j]?).bind _=_;refine eW h ?_;exact h2
theorem bt{f:bw}{b:IB}(hb:f.body=.stmts b)(h0:lD f aX args=some fr)(h:hX C N b (fr,wl)=some (.ret d,cH,w1)):C4 C N f aX args wl=some (d,w1):=bs h0 (by refine eW hb ?_;exact bs h rfl)
theorem Af{f:bw}{b:IB}(hb:f.body=.stmts b)(h0:lD f aX args=some fr)(h:hX C N b (fr,wl)=some (.next,cH,w1)):C4 C N f aX args wl=some (.none,w1):=bs h0 (by refine eW hb ?_;exact bs h rfl)
theorem yv{σ:Type}{F:σ->FV->Option σ}(I:Nat->σ->Prop)(vs:List FV):∀(i:Nat)(a:σ),I i a->(∀j v a,vs[j]?=some v->I (i+j) a->∃a',F a v=some a'/\I (i+j+1) a')->∃a',ki F vs a=some a'/\I (i+vs.length) a':=by
 induction vs generalizing I with
 |nil=>exactλi a h _=>⟨a,rfl,h⟩
 |cons v vs ih=>exactλi a h st=>bS (st 0 v a rfl h) λa1 e1 h1=>bS (ih (λn=>I (n+1)) i a1 h1 λj w b hj hb=>st (j+1) w b hj hb) λa2 e2 h2=>⟨a2,bs e1 e2,h2⟩
theorem Cc{α:Type}{f:Fl}{x z:α}{g:FV->α}(hf:∀d,f≠.ret d)(e:x=z):f.brk.elim x g=z:=f.casesOn (motive:=λf=>(∀d,f≠.ret d)->f.brk.elim x g=z) (λ_=>e) (λ_=>e) (λd h=>absurd rfl (h d)) hf
theorem FN{σ:Type}{F:σ->FV->Option (Fl×σ)}(I:Nat->σ->Prop)(vs:List FV):∀(i:Nat)(a:σ),I i a->(∀j v a,vs[j]?=some v->I (i+j) a->∃f a',F a v=some (f,a')/\(∀d,f≠.ret d)/\I (i+j+1) a')->∃a',forL F vs a=some (.next,a')/\I (i+vs.length) a':=by
 induction vs generalizing I with
 |nil=>exactλi a h _=>⟨a,rfl,h⟩
 |cons v vs ih=>exactλi a h st=>cM (st 0 v a rfl h) λf a1 e1 hf h1=>bS (ih (λn=>I (n+1)) i a1 h1 λj w b hj hb=>st (j+1) w b hj hb) λa2 e2 h2=>⟨a2,bs e1 (Cc hf e2),h2⟩
theorem K7{σ:Type}{F:σ->Int->FV->Option (Fl×σ)}(I:Nat->σ->Prop)(vs:List FV):∀(i:Nat)(a:σ),I i a->(∀j v a,vs[j]?=some v->I (i+j) a->∃f a',F a ((i+j:Nat):Int) v=some (f,a')/\(∀d,f≠.ret d)/\I (i+j+1) a')->
 ∃a',K9 F vs (i:Int) a=some (.next,a')/\I (i+vs.length) a':=by
 induction vs with
 |nil=>exactλi a h _=>⟨a,rfl,h⟩
 |cons v vs ih=>exactλi a h st=>cM (st 0 v a rfl h) λf a1 e1 hf h1=>bS (ih (i+1) a1 h1 λj=>(dc i 1 j).symm▸st (j+1)) λa2 e2 h2=>⟨a2,bs e1 (Cc hf e2),(dc i 1 vs.length)▸h2⟩
def cF(C:my)(ifs:IL)(g:IG)(a:List Slot×List FV×WL)(v:FV):Option (List Slot×List FV×WL):=(c7 a.1 [0] v).bind λf9=>(fI C ifs f9 a.2.2).bind λt=>if t.1 then HQ C g f9 a.2.1 t.2 else some (f9,a.2.1,t.2)
theorem Pu{α:Type}{f g:α->FV}{p:α->Bool}{ifs:IL}(l:List α):(∀a∈l,fI C ifs (.val (f a)::cs) wl=some (p a,wl))->(∀a∈l,p a=true->ev C e (.val (f a)::cs) wl=some (.fv (g a),wl))->∀y acc,(∀v,c7 (y::cs) [0] v=some (.val v::cs))->
 ∃sN,ki (cF C ifs (.emit e)) (l.map f) (y::cs,acc,wl)=some (sN,acc++(l.filter p).map g,wl):=by
 induction l with
 |nil=>exactλ_ _ y acc _=>⟨_,(congrArg (λz=>some (y::cs,z,wl)) (cC acc)).symm⟩
 |cons a l ih=>
  intro h4 h5 y acc hb
  have t:=h4 a a7
  have ih:=ih (λb hb=>h4 b (aW a hb)) (λb hb=>h5 b (aW a hb)) (.val (f a));by_cases q:p a=true
  . rw[q]at t
    refine eW (List.filter_cons_of_pos q) ?_;exact xE (ih (acc++[g a]) λ_=>rfl) λsN e2=>⟨sN,(bs (bs (hb (f a)) (bs t (bs (h5 a a7 q) rfl))) e2).trans (congrArg (λz=>some (sN,z,wl)) (gZ acc [g a] _))⟩
  . rw[dY.mpr q]at t
    refine eW (List.filter_cons_of_neg q) ?_;exact xE (ih acc λ_=>rfl) λsN e2=>⟨sN,bs (bs (hb (f a)) (bs t rfl)) e2⟩
theorem gz{α:Type}(f:α->FV)(l:List α){own:Bool}{aX:List Nat}{ifs:IL}(h1:ev C it fr wl=some (x,wl))(h2:items x=some (l.map f))(h3:fW fr aX=some cs)(p:α->Bool)(g:α->FV)
 (h4:∀a∈l,fI C ifs (.val (f a)::cs) wl=some (p a,wl))(h5:∀a∈l,p a=true->ev C e (.val (f a)::cs) wl=some (.fv (g a),wl))(hs:l.length<=2^20):
 ev C (.comp own 1 aX it [0] ifs (.emit e)) fr wl=some (if own then .own (.ob (.list ((l.filter p).map g)))else .fv (.list ((l.filter p).map g)),wl):=
 xE (Pu l h4 h5 .unset [] λ_=>rfl) λsN e=>zZ.trans (bs h1 (bs h2 (bs h3 (bs e (if_pos (decide_eq_true (ak (bh (aj _)) (ak (dG p l) hs))))))))
theorem comp_map{α:Type}(f:α->FV)(l:List α){own:Bool}{aX:List Nat}(h1:ev C it fr wl=some (x,wl))(h2:items x=some (l.map f))(h3:fW fr aX=some cs)(g:α->FV)
 (h5:∀a∈l,ev C e (.val (f a)::cs) wl=some (.fv (g a),wl))(hs:l.length<=2^20):ev C (.comp own 1 aX it [0] .nil (.emit e)) fr wl=some (if own then .own (.ob (.list (l.map g)))else .fv (.list (l.map g)),wl):=by
 have:=gz (own:=own) (ifs:=.nil) f l h1 h2 h3 (λ_=>true) g (λ_ _=>rfl) (λa ha _=>h5 a ha) hs
 rwa[Iz.mpr λ_ _=>rfl]at this
end
theorem PD(a b:Nat):MP a b=((a|||b:Nat):Int):=by
 refine eW (bitOr_and ..)<|eW (bitAnd_pp (bI a) (bI b))<|eW (cG ..)<|eW (cG ..) ?_
 have:=EJ a b;lia
theorem wU(a b:Nat):dr a b=((a&&&b:Nat):Int):=by
 exact eW (bitAnd_pp (bI a) (bI b))<|eW (cG ..)<|eW (cG ..) rfl
noncomputable def n3(a b:Nat):Nat:=a-(a&&&b)
theorem H_(a b:Nat):dr a (xi b)=(n3 a b:Int):=by
 exact eW (bitAnd_not ..)<|eW (wU ..)<|(Cu (Rp:a&&&b<=a)).symm
theorem yx(a b t:Nat):(n3 a b).testBit t=(a.testBit t&& !b.testBit t):=by
 have e:=EJ (a^^^(a&&&b)) (a&&&b)
 have h1:(a^^^(a&&&b))|||(a&&&b)=a:=cx λi=>by
  refine eW (ij ..)<|eW (x_ ..)<|eW (gP ..) ?_;induction a.testBit i using ax<;>induction b.testBit i using ax<;>rfl
 have h2:(a^^^(a&&&b))&&&(a&&&b)=0:=cx λi=>by
  refine eW (gP ..)<|eW (x_ ..)<|eW (gP ..)<|eW (iE ..) ?_;induction a.testBit i using ax<;>induction b.testBit i using ax<;>rfl
 rw[h1,h2]at e
 have h3:n3 a b=a^^^(a&&&b):=by unfold n3;lia
 refine eW h3<|eW (x_ ..)<|eW (gP ..) ?_;induction a.testBit t using ax<;>induction b.testBit t using ax<;>rfl
noncomputable def bF:List Nat->Nat
 |[]=>0
 |x::r=>2^x|||bF r
theorem gx:∀(l:List Nat)(t:Nat),(bF l).testBit t=decide (t∈l)
 |[],t=>by show(0:Nat).testBit t=_;refine eW (iE ..) ?_;simp
 |x::r,t=>by
  show(2^x|||bF r).testBit t=_;refine eW (ij ..)<|eW IJ<|eW (gx r t) ?_;by_cases h:x=t
  . subst h;simp
  . have h':¬t=x:=λc=>h c.symm
    simp[h,h']
theorem vK{m:Nat}(h:∀t,m.testBit t=true↔t∈l):m=bF l:=cx λt=>by
 refine eW (gx ..) ?_;by_cases q:t∈l
 . exact eW ((h t).mpr q)<|eW (decide_eq_true q) rfl
 . exact eW (decide_eq_false q)<|dY.mpr λc=>q ((h t).mp c)
theorem AG:∀(l:List Nat),l.Nodup->(l.map λt=>2^t).sum=bF l
 |[],_=>rfl
 |x::r,h=>by
  rw[ck]at h
  have e:=EJ (2^x) (bF r)
  have z:2^x&&&bF r=0:=cx λi=>by
   refine eW (gP ..)<|eW IJ<|eW (gx ..)<|eW (iE ..) ?_;by_cases q:x=i
   . subst q;exact eW (decide_eq_false h.1)<|eW (jN ..) rfl
   . exact eW (decide_eq_false q)<|eW (h_ ..) rfl
  rw[z]at e;rw[bT,As,AG r h.2];exact e.symm
noncomputable abbrev nI(n:Nat):FV:=.int (n:Int)
theorem H9(m n:Nat):dr (Ai m (2^n)) 1=if m.testBit n then 1 else 0:=by
 have e:Ai (m:Int) (2^n)=((m>>>n:Nat):Int):=by
  rw[Nat.shiftRight_eq_div_pow,fk _ (Ah (by decide))]
  norm_cast
 refine eW e<|eW (show(1:Int)=((1:Nat):Int)from rfl)<|eW (wU ..) ?_;unfold Nat.testBit;refine eW (Nat.and_comm ..) ?_
 have:1&&&m>>>n<2:=aQ Rp (by decide);generalize 1&&&m>>>n=y at this
 match y,this with
 |0,_=>rfl
 |1,_=>rfl
inductive Y:Slot->Prop where
 |un:Y .unset
 |va (d:FV):Y (.val d)
theorem uQ{D:Type}(G:D->Slot->List Slot)(W:D->WL)(I:Nat->D->Prop)(a0:D){b:IB}(h:ev C it fr wl=some (x,W a0))(hi:items x=some vs)(h0:fr=G a0 y0)(OS:Y y0)(i0:I 0 a0)
 (hb:∀a y v,Y y->c7 (G a y) [j] v=some (G a (.val v)))
 (step:∀i v a,vs[i]?=some v->I i a->∃fl a' y,hX C N b (G a (.val v),W a)=some (fl,G a' y,W a')/\Y y/\(∀d,fl≠.ret d)/\I (i+1) a'):
 ∃a y,Y y/\I vs.length a/\ex C N (.for [j] it b) (fr,wl)=some (.next,G a y,W a):=by
 refine cps λGz kz=>?_
 (refine RC (FN (F:=λ(a:St) v=>(c7 a.1 [j] v).bind λfr=>hX C N b (fr,a.2)) (λi s=>∃a y,Y y/\I i a/\s=(G a y,W a)) vs 0 (fr,W a0) ⟨a0,y0,OS,i0,by exact eW h0 rfl⟩ (λi v s hv ⟨a,y,hy,hI,hs⟩=>by
   rw[dZ]at hI⊢;refine cps λGz kz=>?_;obtain⟨fl,a',y',e,Tb,hf,QP⟩:=step i v a hv hI;refine kz ?_;refine⟨fl,_,?_,hf,a',y',Tb,QP,rfl⟩;refine eW hs ?_
   show(c7 (G a y) [j] v).bind _=_;exact eW (hb a y v hy)<|e)) λs e a y hy q1=>?_;refine xA q1 ?_;clear q1;intro hI hs)
 refine kz ?_;rw[dZ]at hI;exact⟨a,y,hy,hI,Gm h hi (by exact eW e<|eW hs rfl)⟩
theorem K8{D:Type}(G:D->Slot->Slot->List Slot)(W:D->WL)(I:Nat->D->Prop)(a0:D){i0:Nat}{b:IB}{z0:Slot}(h:ev C it fr wl=some (.fv (.list vs),W a0))(hs:cc vs.length=true)(h0:fr=G a0 y0 z0)(OS:Y y0)(ZF:Y z0)(h1:I 0 a0)
 (hb:∀a y z u v,Y y->Y z->ez (G a y z) [i0,j] [u,v]=some (G a (.val u) (.val v)))
 (step:∀i v a,vs[i]?=some v->I i a->∃fl a' y z,hX C N b (G a (.val (nI i)) (.val v),W a)=some (fl,G a' y z,W a')/\Y y/\Y z/\(∀d,fl≠.ret d)/\I (i+1) a'):
 ∃a y z,I vs.length a/\ex C N (.kS i0 j it b) (fr,wl)=some (.next,G a y z,W a):=by
 (refine bS (K7 (F:=λ(a:St) n v=>(ez a.1 [i0,j] [.int n,v]).bind λfr=>hX C N b (fr,a.2)) (λi s=>∃a y z,Y y/\Y z/\I i a/\s=(G a y z,W a)) vs 0 (fr,W a0) ⟨a0,y0,z0,OS,ZF,h1,by exact eW h0 rfl⟩ (λi v s hv ⟨a,y,z,hy,hz,hI,hs⟩=>by
   rw[dZ]at hI⊢;refine cps λGz kz=>?_;obtain⟨fl,a',y',z',e,Tb,IA,hf,QP⟩:=step i v a hv hI;refine kz ?_;refine⟨fl,_,?_,hf,a',y',z',Tb,IA,QP,rfl⟩;refine eW hs ?_
   show(ez (G a y z) [i0,j] [.int i,v]).bind _=_;exact eW (hb a y z _ v hy hz)<|e)) λs e q3=>?_;refine kP q3 ?_;clear q3;intro a y z hy hz hI yC)
 rw[dZ]at hI;exact⟨a,y,z,hI,Ij h hs (by exact eW (show(0:Int)=((0:Nat):Int)from rfl)<|eW e<|eW yC rfl)⟩
theorem ye{D:Type}(G:D->List Slot)(W:D->WL)(I:D->Prop)(m:D->Nat)(a0:D){t:IE}{b:IB}(h0:fr=G a0)(hw:wl=W a0)(i0:I a0)(hm:m a0<N)(T:D->Bool)
 (ht:∀a,I a->eK C t (G a) (W a)=some (T a,W a))
 (step:∀a,I a->T a=true->∃fl a',hX C N b (G a,W a)=some (fl,G a',W a')/\(∀d,fl≠.ret d)/\I a'/\m a'<m a):
 ∃a,I a/\T a=false/\ex C N (.while t b) (fr,wl)=some (.next,G a,W a):=by
 subst h0 hw
 have key:∀n a,I a->m a<n->∃a',I a'/\T a'=false/\y9 (λa=>(eK C t a.1 a.2).map λx=>(x.1,a.1,x.2)) (λa=>hX C N b a) n (G a,W a)=some (.next,G a',W a'):=by
  intro n;induction n with
  |zero=>exactλa _ h=>absurd h (dz _)
  |succ n ih=>
   intro a ha hm
   have e:=ht a ha;induction q:T a using ax with
   |false=>
    refine⟨a,ha,q,?_⟩
    show((eK C t (G a) (W a)).map _).bind _=_;exact eW e<|eW q rfl
   |true=>
    (refine iR (step a ha q) λfl a' e2 hf h2 lt=>?_)
    (refine dU (ih a' h2 (by lia)) λa3 h3 q3 e3=>?_)
    refine⟨a3,h3,q3,?_⟩
    show((eK C t (G a) (W a)).map _).bind _=_;refine eW e<|eW q ?_
    show(hX C N b (G a,W a)).bind _=_;refine eW e2<|eW (bJ ..) ?_;induction fl using Fl.casesOn with
    |ret d=>exact absurd rfl (hf d)
    |next=>exact e3
    |cont=>exact e3
 exact key N a0 i0 hm
noncomputable def isR(x:Fl):Bool:=x.casesOn false false λ_=>true
theorem fw:∀d,Fl.next≠Fl.ret d:=λ_ h=>ff (congrArg isR h)
theorem Od:∀d,Fl.cont≠Fl.ret d:=λ_ h=>ff (congrArg isR h)
theorem Ol{n:Nat}(h:n<=1000000):i9 .LShift (.fv (.int 1)) (.fv (nI n))=some (.fv (nI (2^n))):=by
 show(if 0<=(n:Int)/\(n:Int)<=1000000/\(1:Int).natAbs<2^64 then some ((1:Int)*2^(n:Int).toNat)else ab).map _=_;rw[if_pos ⟨bI n,by lia,by decide⟩,cG,Y0]
 show some (EV.fv (.int _))=some (EV.fv (.int _))
 norm_cast
theorem Ab(a b:Nat):i9 .BitOr (.fv (nI a)) (.fv (nI b))=some (.fv (nI (a|||b))):=congrArg (λz=>some (EV.fv (.int z))) (PD a b)
theorem Ho(l:List Nat)(i:Nat){n:Nat}(h:l[i]?=some n):bF (l.take i).reverse|||2^n=bF (l.take (i+1)).reverse:=by
 exact eW t8<|eW h<|eW (ra ..)<|eW List.reverse_append<|Nat.or_comm _ _
theorem sA{l':List Nat}(h:∀t,t∈l↔t∈l'):bF l=bF l':=vK λt=>by rw[gx,decide_eq_true_iff];exact h t
theorem td(h:items (.fv d)=some (l.map nI))(hl:∀n∈l,n<=1000000):au N (k+1) (.obj 578) [.fv d] wl=some (nI (bF l),wl):=by
 refine cK rfl ?_;refine cps λGz kz=>?_;obtain⟨a,y,-,hI,e⟩:=uQ (C:=au N k) (N:=N) (fr:=[.val d,.val (.int 0),.unset]) (wl:=wl) (λ(m:Nat) y=>[.val d,.val (nI m),y]) (λ_=>wl) (λi m=>m=bF (l.take i).reverse) 0 (j:=2) (it:=.var 0)
  (b:=.cons (.assign 1 (.bin .BitOr (.var 1) (.bin .LShift (.lit (.int 1)) (.var 2)))) .nil) rfl h rfl .un rfl (λ_ _ _ hy=>by cases hy<;>rfl) (λi v m hv hm=>by
    rw[fK]at hv
    (refine bS (cE.mp hv) λn hn q6=>?_;subst q6)
    exact⟨.next,m|||2^n,.val (nI n),ao (aZ (dh rfl (dh rfl rfl (Ol (hl n (aF hn)))) (Ab _ _)) rfl) aY,.va _,fw,by exact eW hm<|Ho l i hn⟩)
 refine kz ?_;rw[aj,n7]at hI;rw[hI,sA (l':=l) λt=>n8]at e;exact bt rfl rfl (ao (aZ rfl rfl) (ao e (br (bY rfl))))
theorem rB(h:a<=b)(hb:b<=100000):items (.fv (.range a b 1))=some ((ae (b-a)).map λi=>nI (a+i)):=by
 have e:b7 a b 1=((b-a:Nat):Int):=by
  delta b7;rw[if_pos (by decide),XS];rcases jz h with q|q
  . exact eW (if_pos (dn.mpr q))<|eW (Int.sub_add_cancel ..)<|eW (Cu h) rfl
  . exact eW q<|eW (if_neg (UU _))<|eW (XI ..) rfl
 refine Hz.trans ?_
 have s:nt a b 1=true:=by
  delta nt jK cc q_;refine eW e ?_;simp only[bX,gO,decide_eq_true_iff];refine⟨⟨⟨?_,.inr ?_⟩,by decide⟩,by lia⟩<;>simp<;>omega
 refine eW (if_pos s) ?_;delta oM;refine eW e<|eW (cG ..)<|eW bG ?_;refine congrArg some (dB λi _=>?_)
 show FV.int (a+i*1)=FV.int ((a+i:Nat):Int);exact eW (Y2 ..)<|eW (Int.natCast_add ..) rfl
theorem cL(hb:b<=100000):items (.fv (.range 0 b 1))=some ((ae b).map nI):=by
 have:=rB (a:=0) (b:=b) (aU b) hb;simpa using this
theorem DH:∀n∈ae 50,items (.fv (.range ((n:Int)-1) (-1) (-1)))=some ((ae n).reverse.map nI):=by
 have:(ae 50).map (λ(n:Nat)=>items (.fv (.range ((n:Int)-1) (-1) (-1))))=(ae 50).map λ(n:Nat)=>some ((ae n).reverse.map nI):=by kernel_rfl
 exactλn hn=>a9.mp this n hn
theorem JC(a b:Nat):i9 .RShift (.fv (nI a)) (.fv (nI b))=some (.fv (nI (a/2^b))):=by
 show(if 0<=(b:Int)then some (Ai (a:Int) (2^(b:Int).toNat))else ab).map (λr=>EV.fv (.int r))=_;rw[if_pos (bI b),cG,fk _ (Ah (by decide))]
 show some (EV.fv (.int _))=some (EV.fv (.int _))
 norm_cast
theorem jD{y v:Slot}(h:fr[i]?=some y)(hy:Y y):setSlot fr i v=some (fr.set i v):=by
 delta setSlot;refine eW h ?_;cases hy<;>rfl
theorem eqw{w:Nat}(h:w=v){P:Nat->Prop}(p:P v):P w:=h▸p
theorem JE{α:Type}{f:Nat->α}{n:Nat}{v:α}(h:((ae n).map f)[i]?=some v):i<n/\v=f i:=
 get_map h λa e1 e2=>by
  have e:=c9.mp e1;exact xE e λh1 h2=>⟨jA h1 aq,e2.symm.trans (congrArg f (h2.symm.trans (IM h1)))⟩
inductive Turn{D:Type}(r:Option (Fl×St))(G:D->Slot->List Slot)(W:D->WL)(J:D->Prop):Prop
 |mk (fl:Fl) (a:D) (y:Slot) (h:r=some (fl,G a y,W a)) (hy:Y y) (hf:∀d,fl≠.ret d) (hj:J a)
theorem Turn.next{D:Type}{r:Option (Fl×St)}{G:D->Slot->List Slot}{W:D->WL}{J:D->Prop}(a:D)(y:Slot)(h:r=some (.next,G a y,W a))(hy:Y y)(hj:J a):Turn r G W J:=.mk .next a y h hy fw hj
inductive yZ{D:Type}(r:Option (Fl×St))(G:D->List Slot)(W:D->WL)(J:D->Prop):Prop
 |mk (fl:Fl) (a:D) (h:r=some (fl,G a,W a)) (hf:∀d,fl≠.ret d) (hj:J a)
theorem se{D:Type}(G:D->List Slot)(W:D->WL)(I:D->Prop)(m:D->Nat)(a0:D){t:IE}{b:IB}(h0:fr=G a0)(hw:wl=W a0)(i0:I a0)(hm:m a0<N)(T:D->Bool)
 (ht:∀a,I a->eK C t (G a) (W a)=some (T a,W a))(step:∀a,I a->T a=true->yZ (hX C N b (G a,W a)) G W λa'=>I a'/\m a'<m a)(k:∀a,I a->T a=false->ex C N (.while t b) (fr,wl)=some (.next,G a,W a)->P):P:=
 dU (ye G W I m a0 h0 hw i0 hm T ht λa ha hT=>(step a ha hT).casesOn (motive:=λ_=>_) λfl a' h hf hj=>⟨fl,a',h,hf,hj⟩) k
theorem xT{D:Type}(G:D->Slot->List Slot)(W:D->WL)(I:Nat->D->Prop)(a0:D){n:Nat}{b:IB}{f:Nat->FV}(h:ev C it fr wl=some (x,W a0))(hi:items x=some ((ae n).map f))(h0:fr=G a0 y0)(OS:Y y0)(i0:I 0 a0)
 (hg:∀a y,(G a y)[j]?=some y)(hs:∀a y v,(G a y).set j v=G a v)(step:∀i a,i<n->I i a->Turn (hX C N b (G a (.val (f i)),W a)) G W (I (i+1)))
 (k:∀a y,Y y->I n a->ex C N (.for [j] it b) (fr,wl)=some (.next,G a y,W a)->P):P:=
 cM (uQ G W I a0 h hi h0 OS i0 (λa y v hy=>(jD (hg a y) hy).trans (congrArg some (hs a y (.val v)))) λi v a hv ha=>xA (JE hv) λhn e=>e▸(step i a hn ha).casesOn (motive:=λ_=>_) λfl a' y h hy hf hj=>⟨fl,a',y,h,hy,hf,hj⟩)
  λa y hy hI e=>k a y hy (eqw (P:=λn=>I n a) ((aj f).trans aq).symm hI) e
theorem tQ{α D:Type}(G:D->Slot->List Slot)(W:D->WL)(I:Nat->D->Prop)(a0:D){b:IB}{l:List α}{g:α->FV}(h:ev C it fr wl=some (x,W a0))(hi:items x=some (l.map g))(h0:fr=G a0 y0)(OS:Y y0)(i0:I 0 a0)
 (hg:∀a y,(G a y)[j]?=some y)(hs:∀a y v,(G a y).set j v=G a v)(step:∀i v a,l[i]?=some v->I i a->Turn (hX C N b (G a (.val (g v)),W a)) G W (I (i+1)))
 (k:∀a y,Y y->I l.length a->ex C N (.for [j] it b) (fr,wl)=some (.next,G a y,W a)->P):P:=
 cM (uQ G W I a0 h hi h0 OS i0 (λa y v hy=>(jD (hg a y) hy).trans (congrArg some (hs a y (.val v)))) λi v a hv ha=>get_map hv λu e1 e2=>e2▸(step i u a e1 ha).casesOn (motive:=λ_=>_) λfl a' y h hy hf hj=>⟨fl,a',y,h,hy,hf,hj⟩)
  λa y hy hI e=>k a y hy (eqw (P:=λn=>I n a) (aj g).symm hI) e
@[elab_as_elim] theorem JY{α β:Type}{P:α×β->Prop}(a:α×β)(k:∀x y,P (x,y)):P a:=k a.1 a.2
@[elab_as_elim] theorem Sl{α β γ:Type}{P:α×β×γ->Prop}(a:α×β×γ)(k:∀x y z,P (x,y,z)):P a:=k a.1 a.2.1 a.2.2
@[elab_as_elim] theorem NR{α β γ δ:Type}{P:α×β×γ×δ->Prop}(a:α×β×γ×δ)(k:∀x y z w,P (x,y,z,w)):P a:=k a.1 a.2.1 a.2.2.1 a.2.2.2
@[elab_as_elim] theorem Us{α β γ δ ε:Type}{P:α×β×γ×δ×ε->Prop}(a:α×β×γ×δ×ε)(k:∀x y z w v,P (x,y,z,w,v)):P a:=k a.1 a.2.1 a.2.2.1 a.2.2.2.1 a.2.2.2.2
inductive L9{D:Type}(r:Option (Fl×St))(G:D->Slot->Slot->List Slot)(W:D->WL)(J:D->Prop):Prop
 |mk (fl:Fl) (a:D) (y z:Slot) (h:r=some (fl,G a y z,W a)) (hy:Y y) (hz:Y z) (hf:∀d,fl≠.ret d) (hj:J a)
theorem QU{D:Type}(G:D->Slot->Slot->List Slot)(W:D->WL)(I:Nat->D->Prop)(a0:D){i0 n:Nat}{b:IB}{f:Nat->FV}{z0:Slot}(h:ev C it fr wl=some (.fv (.list ((ae n).map f)),W a0))(hn:n<=2^20)(h0:fr=G a0 y0 z0)(OS:Y y0)(ZF:Y z0)(h1:I 0 a0)
 (hg:∀a y z,(G a y z)[i0]?=some y)(hs:∀a y z v,(G a y z).set i0 v=G a v z)(hg2:∀a y z,(G a y z)[j]?=some z)(ZO:∀a y z v,(G a y z).set j v=G a y v)
 (step:∀i a,i<n->I i a->L9 (hX C N b (G a (.val (nI i)) (.val (f i)),W a)) G W (I (i+1)))(k:∀a y z,I n a->ex C N (.kS i0 j it b) (fr,wl)=some (.next,G a y z,W a)->P):P:=
 have hl:((ae n).map f).length=n:=(aj f).trans aq
 j9 (K8 G W I a0 h (decide_eq_true (ak (bh hl) hn)) h0 OS ZF h1 (λa y z u v hy hz=>bs ((jD (hg a y z) hy).trans (congrArg some (hs a y z (.val u)))) (bs ((jD (hg2 a (.val u) z) hz).trans (congrArg some (ZO a (.val u) z (.val v)))) rfl))
  λi v a hv ha=>xA (JE hv) λhn e=>e▸(step i a hn ha).casesOn (motive:=λ_=>_) λfl a' y z h hy hz hf hj=>⟨fl,a',y,z,h,hy,hz,hf,hj⟩) λa y z hI e=>k a y z (eqw (P:=λn=>I n a) hl.symm hI) e
theorem Lp(M c s:Nat):M/2^c/2^s=M/2^(c+s):=by exact eW (Nat.div_div_eq_div_mul ..)<|eW (YV ..) rfl
theorem H8{M:Nat}(hM:M<2^64)(hN:70<=N):∃c,c<=64/\M<2^c/\au N (k+1) (.obj 73) [.fv (nI M)] wl=some (nI c,wl):=by
 have room:∀c s,2^s<=M/2^c->c+s<64:=λc s h=>by
  have h1:2^s*2^c<=M:=ak (ip _ h) (Nat.div_mul_le_self M _);rw[<-YV]at h1
  have:=(Nat.pow_lt_pow_iff_right (a:=2) (by decide)).mp (aQ h1 hM);exact pf c s▸this
 refine cps λGz kz=>?_
 (refine dU (ye (C:=au N k) (N:=N) (wl:=wl) (fr:=[.val (nI (M/2^0)),.val (nI 0),.unset]) (λ(a:Nat×Slot)=>[.val (nI (M/2^a.1)),.val (nI a.1),a.2]) (λ_=>wl) (λa=>a.1<=64/\Y a.2) (λa=>64-a.1) (0,.unset)
   (t:=.cmp .Gt (.var 0) (.lit (.int 0))) (b:=.cons (.assign 2 (.ite (.cmp .Gt (.var 0) (.lit (.int 255))) (.lit (.int 8)) (.lit (.int 1)))) (.cons (.assign 0 (.bin .RShift (.var 0) (.var 2))) (.cons (.assign 1 (.bin .Add (.var 1) (.var 2))) .nil)))
   rfl rfl ⟨by decide,.un⟩ (az (show 64-0<70 by decide) hN) (λa=>decide ((0:Int)<((M/2^a.1:Nat):Int))) (λa _=>fJ rfl rfl rfl) (λ⟨c,s⟩ ⟨hc,hs⟩ hT=>by
    have h0:=Rx.mp (of_decide_eq_true hT);dsimp only at h0 hc;refine Exists.elim (?_:∃st:Nat,0<st/\c+st<=64/\ev (au N k) (.ite (.cmp .Gt (.var 0) (.lit (.int 255))) (.lit (.int 8)) (.lit (.int 1))) [.val (nI (M/2^c)),.val (nI c),s] wl=some (.fv (nI st),wl)) λst ⟨p,q,e⟩=>
     ⟨.next,(c+st,.val (nI st)),ao (aZ e (jD rfl hs)) (ao (aZ (dh rfl rfl (JC (M/2^c) st)) rfl) (ao (aZ (d:=nI (c+st)) (dh rfl rfl rfl) (by exact eW (Lp ..) rfl)) aY)),fw,⟨q,.va _⟩,iZ (az (eN p) q) (eN p)⟩
    by_cases h:(255:Int)<((M/2^c:Nat):Int)
    . exact⟨8,by decide,bV (room c 8 (dn.mp h)),qU (fJ rfl rfl (congrArg some (decide_eq_true h))) rfl⟩
    . exact⟨1,by decide,room c 0 h0,pq (fJ rfl rfl (congrArg some (decide_eq_false h))) rfl⟩)) λq1=>?_;obtain⟨c,s⟩:=q1;intro q2;obtain⟨hc,hs⟩:=q2;intro hT e)
 have hz:=of_decide_eq_false hT;refine kz ?_;dsimp only at hz hc
 have hz:M/2^c=0:=Nat.eq_zero_of_not_pos λh=>hz (Rx.mpr h);refine⟨c,hc,(Nat.div_eq_zero_iff_lt (xu (by decide))).mp hz,cK rfl (bt rfl rfl (ao (aZ rfl ?_) (ao e (br (bY rfl)))))⟩;exact eW (Nat.pow_zero ..)<|eW (Nat.div_one ..) rfl
theorem Kl{M:Nat}(h:M<2^c)(hc:c<=64):(ae c).filter M.testBit=(ae 64).filter M.testBit:=by
 (refine xE (CE hc) λd e=>?_)
 refine(λz:((ae d).map (c+·)).filter M.testBit=[]=>?_) (jM.mpr λx hx=>?_)
 . exact eW e<|eW y4<|eW (r_ ..)<|eW z<|eW (cC ..) rfl
 obtain⟨i,-,rfl⟩:=bO.mp hx;rw[jZ (az h (kV (by decide) (aP c i)))];exact ay
theorem Ce{M n:Nat}(hM:fr[1]?=some (.ro (nI M)))(hn:fr[0]?=some (.val (nI n))):eK C (.cmp .Eq (.bin .BitAnd (.bin .RShift (.var 1) (.var 0)) (.lit (.int 1))) (.lit (.int 1))) fr wl=some (M.testBit n,wl):=by
 have v1:ev C (.var 1) fr wl=some (.fv (nI M),wl):=by exact eW fi<|eW hM rfl
 have v0:ev C (.var 0) fr wl=some (.fv (nI n),wl):=by exact eW fi<|eW hn rfl
 refine fJ (dh (dh v1 v0 (JC M n)) rfl rfl) rfl ?_
 show some (dr ((M/2^n:Nat):Int) 1==1)=_
 have:=H9 M n;rw[show Ai (M:Int) (2^n)=((M/2^n:Nat):Int)by rw[fk _ (Ah (by decide))];norm_cast]at this;refine eW this ?_;induction M.testBit n using ax<;>rfl
theorem z8{M:Nat}(hM:M<2^64)(hN:70<=N):au N (k+2) (.obj 583) [.fv (nI M)] wl=some (.list (((ae 64).filter M.testBit).map nI),wl):=by
 (refine dU (H8 (N:=N) (k:=k) (wl:=wl) hM hN) λc hc hb e=>?_)
 refine cK rfl (bt rfl rfl (br (bY ?_)));refine eL (Kl hb hc) ?_;refine gz (own:=false) nI (ae c) (cI (ah (aG (ah rfl aE) e) aE) rfl) (cL (ll hc rfl)) rfl M.testBit nI (λn _=>?_) (λn _ _=>rfl) (by refine eW aq ?_;exact ll hc rfl)
 have h:=Ce (C:=au N (k+1)) (fr:=[.val (nI n),.ro (nI M)]) (wl:=wl) rfl rfl;induction q:M.testBit n using ax with
 |true=>exact dS (q▸h) pA
 |false=>exact d7 (q▸h)
noncomputable abbrev ord(code dst src off fq:Int):FV:=.inst 140 [(5,.int code),(6,.int dst),(7,.int src),(8,.int off),(9,.int fq),(10,.int 0)]
abbrev nL(l:List Nat):FV:=.list (l.map nI)
theorem jW:∀l:List Nat,eZ (l.map nI)=some (l.map λ(n:Nat)=>(n:Int))
 |[]=>rfl
 |n::r=>by
  show(eZ (r.map nI)).map _=_;exact eW (jW r) rfl
theorem ny(n:Nat)(l:List Nat):j7 n (l.map nI)=some (decide (n∈l)):=by
 unfold j7;refine eW (jW ..) ?_;refine congrArg some ?_
 show(l.map _).any _=_;rw[List.any_map,cR,iz,decide_eq_true_iff];constructor
 . rintro ⟨m,hm,e⟩
   rw[<-Int.natCast_inj.mp (of_decide_eq_true (p:=(m:Int)=n) (by simpa using e))];exact hm
 . exactλh=>⟨n,h,by simp⟩
theorem d_(h:l.length<=1000):items (.fv (nL l))=some (l.map nI):=rC (by refine eW (aj ..) ?_;lia)
theorem lj(hx:x=.fv (nL l)\/x=.bor (.ob (.list (l.map nI)))):au N (k+1) (.obj 268) [x] wl=some (nL ((ae 16).filter λn=>decide (n∈l)),wl):=by
 have QJ:∀(y z:Slot),(∃e,z.GQ=some e/\∀n:Nat,FZ (nI n) e=some (decide (n∈l)))->fW [y] [0]=some [z]->ev (au N k) (.comp false 1 [0] (.bj .range false (.cons (.lit (.int 16)) .nil)) [0] (.cons (.cmp .In (.var 0) (.var 1)) .nil) (.emit (.var 0))) [y] wl=some (.fv (nL ((ae 16).filter λn=>decide (n∈l))),wl):=λy z ⟨e,hs,hc⟩ hy=>by
  refine gz (own:=false) nI (ae 16) (cs:=[z]) (cI (ah rfl aE) rfl) (cL (b:=16) (by decide)) hy (λn=>decide (n∈l)) nI (λn _=>?_) (λn _ _=>rfl) (by decide)
  have h:eK (au N k) (.cmp .In (.var 0) (.var 1)) [.val (nI n),z] wl=some (decide (n∈l),wl):=fJ rfl (show(z.GQ.map λy=>(y,wl))=_ by exact eW hs rfl) (hc n);induction q:decide (n∈l)using ax with
  |true=>exact dS (q▸h) pA
  |false=>exact d7 (q▸h)
 rcases hx with rfl|rfl
 . exact cK rfl (bt rfl rfl (br (bY (QJ (.val (nL l)) (.ro (nL l)) ⟨_,rfl,λn=>ny n l⟩ rfl))))
 . exact cK rfl (bt rfl rfl (br (bY (QJ (.bor (.ob (.list (l.map nI)))) (.bor (.ob (.list (l.map nI)))) ⟨_,rfl,λn=>ny n l⟩ rfl))))
theorem pJ(h:∀x∈l,x<16):bF ((ae 16).filter λn=>decide (n∈l))=bF l:=sA λt=>by
 rw[eO,aC,decide_eq_true_iff];exact⟨λc=>c.2,λc=>⟨h t c,c⟩⟩
def asked(N k:Nat)(wl:WL)(o:FV):List (Option (FV×WL)):=[193,221,200,228,214,501].map λa=>au N (k+10) (.obj a) [.fv o] wl
noncomputable def told(wl:WL)(w:Nat):List (Option (FV×WL)):=[false,w==3,w==2,w==1,w==4,w==1||w==2||w==4].map λv=>some (.bool v,wl)
noncomputable def Uu:List Int:=[97,105,113,121,129,137,145,99,107,115,123,98,106,114,122,195,219,183,15,191,175]
noncomputable def Gd:List Int:=[109,69,61,173,85,21]
theorem E1(a b off fq:Int):∀c∈Uu,asked N k wl (ord c a b off fq)=told wl 0:=by
 have h:Uu.map (λc=>asked N k wl (ord c a b off fq))=Uu.map λ_=>told wl 0:=by kernel_rfl
 exactλc hc=>a9.mp h c hc
theorem E2(a b off fq:Int):∀c∈Gd,asked N k wl (ord c a b off fq)=told wl 1:=by
 have h:Gd.map (λc=>asked N k wl (ord c a b off fq))=Gd.map λ_=>told wl 1:=by kernel_rfl
 exactλc hc=>a9.mp h c hc
theorem RM(a b off fq:Int):asked N k wl (ord 5 a b off fq)=told wl 2:=by kernel_rfl
theorem RL(a b off fq:Int):asked N k wl (ord 6 a b off fq)=told wl 2:=by kernel_rfl
theorem GB(a b off fq:Int):asked N k wl (ord 149 a b off fq)=told wl 3:=by kernel_rfl
theorem GC(off fq:Int):asked N k wl (ord 133 0 0 off fq)=told wl 0:=by kernel_rfl
theorem CS(off fq:Int):asked N k wl (ord 133 0 1 off fq)=told wl 4:=by kernel_rfl
def Uses(N:Nat)(o:FV)(r w:List Nat):Prop:=∀k wl,au N (k+5) (.obj 296) [.fv o] wl=some (.tup [nL r,nL w],wl)
theorem JK{o:FV}{r w:List Nat}(h1:∀k wl,[207,214,221].map (λa=>au N (k+5) (.obj a) [.fv o] wl)=[some (.bool false,wl),some (.bool false,wl),some (.bool false,wl)])(hu:Uses N o r w)(hr:r.length<=16)(hw:w.length<=16)(hr':∀x∈r,x<16)(Ux:∀x∈w,x<16):
 au N (k+10) (.obj 597) [.fv o] wl=some (.tup [nI (bF r),nI (bF w)],wl):=by
 have a:=h1 (k+4) wl
 have a1:=(aK a).1
 have a2:=(aK (aK a).2).1
 have a3:=(aK (aK (aK a).2).2).1
 have m:∀{l:List Nat}(_:l.length<=16)(_:∀x∈l,x<16),au N (k+9) (.obj 578) [.fv (nL l)] wl=some (nI (bF l),wl):=λh h'=>td (d_ (by lia)) λn hn=>by have:=h' n hn;lia
 exact cK rfl (bt rfl rfl (ao (bl (Ae (fZ (jI rfl (aG (ah rfl aE) a1)) λ_=>fZ (jI rfl (aG (ah rfl aE) a2)) λ_=>r7)) aY) (ao (bl (jI rfl (aG (ah rfl aE) a3)) aY)
  (ao (w_ (aG (ah rfl aE) (hu (k+4) wl)) rfl) (br (bY (iG (ah (aG (ah rfl aE) (m hr hr')) (ah (aG (ah rfl aE) (m hw Ux)) aE)) rfl)))))))
theorem Ov{o:FV}{r w:List Nat}(h1:∀k wl,[207,214,221,235,242,249].map (λa=>au N (k+5) (.obj a) [.fv o] wl)=bD 6 (some (.bool false,wl)))(hu:Uses N o r w):
 au N (k+10) (.obj 637) [.fv o] wl=some (.bool (decide (10∈r)),wl):=by
 have a:=h1 (k+4) wl
 have a1:=(aK a).1
 have a2:=(aK (aK a).2).1
 have a3:=(aK (aK (aK a).2).2).1
 have b:=(aK (aK (aK a).2).2).2
 have b1:=(aK b).1
 have b2:=(aK (aK b).2).1
 have b3:=(aK (aK (aK b).2).2).1;exact cK rfl (bt rfl rfl (ao (bl (Ae (fZ (jI rfl (aG (ah rfl aE) a1)) λ_=>fZ (jI rfl (aG (ah rfl aE) a2)) λ_=>fZ (jI rfl (aG (ah rfl aE) a3)) λ_=>r7)) aY)
  (ao (bl (jI rfl (aG (ah rfl aE) b1)) aY) (ao (bl (Ae (fZ (jI rfl (aG (ah rfl aE) b2)) λ_=>fZ (jI rfl (aG (ah rfl aE) b3)) λ_=>r7)) aY)
    (br (bY (y7 rfl (de (aG (ah rfl aE) (hu (k+4) wl)) rfl rfl) (ny 10 r))))))))
theorem mU{a b:IE}{s t:bB}{r:Bool}(h:(s==t)=r)(h1:ev C a fr wl=some (.fv (.str s),wl))(h2:ev C b fr wl=some (.fv (.str t),wl)):eK C (.cmp .Eq a b) fr wl=some (r,wl):=fJ h1 h2 (congrArg some h)
theorem Jb{c:Int}{Uv reg:Bool}{nm:bB}(h1:∀k wl,au N (k+1) (.obj 158) [.fv (ord c a b 0 fq)] wl=some (.bool true,wl))(h2:∀k wl,au N (k+2) (.obj 172) [.fv (ord c a b 0 fq)] wl=some (.str nm,wl))
 (h3:∀k wl,au N (k+1) (.obj 179) [.fv (ord c a b 0 fq)] wl=some (.bool reg,wl))(hn:(nm==aa "neg")=false)(he:(nm==aa "end")=false)(hm:(nm==aa "mov")=Uv):
 Uses N (ord c a b 0 fq) ((ae 16).filter λn=>decide (n∈(if Uv then[]else[a])++if reg then[b]else[])) [a]:=λk wl=>by
 refine cK rfl (bt rfl rfl (br (cz (jI rfl (aG (ah rfl aE) (h1 (k+3) wl))) (br (bY (aG (ah rfl aE) (cK (k:=k+3) rfl ?_)))))))
 have hl:∀(l:List Nat)(fr:List Slot),fr=[.val (ord c a b 0 fq),.val (.str nm),.own (.ob (.list (l.map nI)))]->hX (au N (k+3)) N (.cons (.ret (.tup (.cons (.call (.bc (.obj 268)) (.cons (.var 2) .nil)) (.cons (.lst false (.cons (.attr (.var 0) 6) .nil)) .nil)))) .nil) (fr,wl)=
  some (.ret (.tup [nL ((ae 16).filter λn=>decide (n∈l)),nL [a]]),fr,wl):=λl fr e=>by
  subst e;exact br (bY (iG (ah (aG (ah rfl aE) (lj (.inr rfl))) (ah rfl aE)) rfl))
 refine bt rfl rfl (ao (aZ (aG (ah rfl aE) (h2 (k+1) wl)) rfl) (ao (bl (Ae (fZ (mU hn rfl rfl) λ_=>fZ (mU he rfl rfl) λ_=>r7)) aY)
  (ao (gC (t:=.ob (.list ((if Uv then[]else[a]).map nI))) (Cv (mU hm rfl rfl) (λe=>by subst e;rfl) (λe=>by subst e;rfl)) rfl) (ao (z:=some (_,[.val (ord c a b 0 fq),.val (.str nm),.own (.ob (.list (((if Uv then[]else[a])++if reg then[b]else[]).map nI)))],wl)) (cH:=[.val (ord c a b 0 fq),.val (.str nm),.own (.ob (.list (((if Uv then[]else[a])++if reg then[b]else[]).map nI)))]) (w1:=wl) ?_ (hl _ _ rfl)))))
 have h3:=h3 (k+2) wl;induction reg using ax with
 |false=>simp only[ey,if_false,cC];exact bl (jI rfl (aG (ah rfl aE) h3)) aY
 |true=>simp only[if_true,bf];exact cz (jI rfl (aG (ah rfl aE) h3)) (ao (i_ rfl rfl (by induction Uv using ax<;>rfl)) aY)
theorem Na{c:Int}(h1:∀k wl,[158,207,221,200].map (λf=>au N (k+2) (.obj f) [.fv (ord c a b off 0)] wl)=bD 4 (some (.bool false,wl)))(h2:∀k wl,[165,179].map (λf=>au N (k+2) (.obj f) [.fv (ord c a b off 0)] wl)=bD 2 (some (.bool true,wl))):
 Uses N (ord c a b off 0) ((ae 16).filter λn=>decide (n∈[a,b])) []:=λk wl=>by
 have x:=h1 (k+1) wl
 have x1:=(aK x).1
 have x2:=(aK (aK x).2).1
 have x3:=(aK (aK (aK x).2).2).1
 have x4:=(aK (aK (aK (aK x).2).2).2).1
 have y:=h2 (k+1) wl
 have y1:=(aK (h2 (k+2) wl)).1
 have y2:=(aK (aK y).2).1
 have x1:=(aK (h1 (k+2) wl)).1;exact cK rfl (bt rfl rfl (ao (bl (jI rfl (aG (ah rfl aE) x1)) aY) (br (cz (jI rfl (aG (ah rfl aE) y1)) (br (bY (aG (ah rfl aE) (cK (k:=k+3) rfl (bt rfl rfl
  (ao (bl (jI rfl (aG (ah rfl aE) x2)) aY) (ao (bl (jI rfl (aG (ah rfl aE) x3)) aY) (ao (bl (jI rfl (aG (ah rfl aE) x4)) aY)
    (br (cz (jI rfl (aG (ah rfl aE) y2)) (br (bY (iG (ah (aG (ah rfl aE) (lj (l:=[a,b]) (.inl rfl))) (ah rfl aE)) rfl)))))))))))))))))
theorem M9{c:Int}(h1:∀k wl,[158,165,249].map (λf=>au N (k+2) (.obj f) [.fv (ord c a b off 0)] wl)=bD 3 (some (.bool false,wl)))(h3:dr c 7=3):
 Uses N (ord c a b off 0) ((ae 16).filter λn=>decide (n∈[a,b])) []:=λk wl=>by
 have x:=h1 (k+2) wl
 have x1:=(aK x).1
 have x2:=(aK (aK x).2).1
 have x3:=(aK (aK (aK x).2).2).1
 have e1:ev (au N (k+4)) (.bin .BitAnd (.attr (.var 0) 5) (.lit (.int 7))) [.val (ord c a b off 0),.unset] wl=some (.fv (.int 3),wl):=by exact eL h3 rfl
 exact cK rfl (bt rfl rfl (ao (bl (jI rfl (aG (ah rfl aE) x1)) aY) (ao (bl (jI rfl (aG (ah rfl aE) x2)) aY) (ao (aZ e1 rfl) (ao (bl rfl aY) (ao (bl rfl aY) (ao (bl rfl aY)
  (ao (bl (jI rfl (aG (ah rfl aE) x3)) aY) (br (bY (iG (ah (aG (ah rfl aE) (lj (l:=[a,b]) (.inl rfl))) (ah rfl aE)) rfl)))))))))))
theorem Nb{c:Int}{nm:bB}{cmp fet:Bool}(h1:∀k wl,[158,165].map (λf=>au N (k+2) (.obj f) [.fv (ord c a b off fq)] wl)=bD 2 (some (.bool false,wl)))(h2:∀k wl,au N (k+2) (.obj 249) [.fv (ord c a b off fq)] wl=some (.bool true,wl))
 (h3:dr c 7=3)(h4:∀k wl,au N (k+2) (.obj 263) [.fv (ord c a b off fq)] wl=some (.str nm,wl))(h5:(nm==aa "cmpxchg")=cmp)
 (h6:∀C fr,eK C (.uG (.cons (.cmp .Eq (.var 1) (.lit (.str (aa "xchg")))) (.cons (.cmp .Eq (.xw (.var 1) (.lit .none) (.lit (.int 5))) (.lit (.str (aa "fetch")))) .nil))) [fr,.val (.str nm),.val (nL [a,b])] wl=some (fet,wl)):
 au N (k+5) (.obj 296) [.fv (ord c a b off fq)] wl=some (.tup [nL ((ae 16).filter λn=>decide (n∈[a,b]++if cmp then[0]else[])),nL (if cmp then[0]else if fet then[b]else[])],wl):=by
 have x:=h1 (k+2) wl
 have x1:=(aK x).1
 have x2:=(aK (aK x).2).1
 have e1:ev (au N (k+4)) (.bin .BitAnd (.attr (.var 0) 5) (.lit (.int 7))) [.val (ord c a b off fq),.unset] wl=some (.fv (.int 3),wl):=by exact eL h3 rfl
 refine cK rfl<|bt (cH:=[.val (ord c a b off fq),.val (.int 3)]) rfl rfl<|ao (bl (jI rfl (aG (ah rfl aE) x1)) aY)<|ao (bl (jI rfl (aG (ah rfl aE) x2)) aY)<|ao (aZ e1 rfl)<|ao (bl rfl aY)<|ao (bl rfl aY)<|ao (bl rfl aY)<|
  br<|cz (jI rfl (aG (ah rfl aE) (h2 (k+2) wl)))<|br<|bY<|aG (ah rfl aE)<|cK (k:=k+3) rfl<|bt (cH:=[.val (ord c a b off fq),.val (.str nm),.val (nL [a,b])]) rfl rfl<|ao (gk (xs:=[.fv (.str nm),.fv (nL [a,b])]) (ah (aG (ah rfl aE) (h4 (k+1) wl)) (ah rfl aE)) rfl) ?_
 induction cmp using ax with
 |true=>exact br (cz (mU h5 rfl rfl) (br (bY (iG (ah (aG (ah rfl aE) (lj (l:=[a,b]++[0]) (.inl rfl))) (ah rfl aE)) rfl))))
 |false=>
  refine ao (bl (mU h5 rfl rfl) aY) ?_;induction fet using ax with
  |true=>exact br (cz (h6 _ _) (br (bY (iG (ah (aG (ah rfl aE) (lj (l:=[a,b]) (.inl rfl))) (ah rfl aE)) rfl))))
  |false=>exact ao (bl (h6 _ _) aY) (br (bY (iG (ah (aG (ah rfl aE) (lj (l:=[a,b]) (.inl rfl))) (ah rfl aE)) rfl)))
section
variable {a b:IE}{x y:Int}{r:Bool}
theorem tj(h:decide (x<y)=r)(h1:ev C a fr wl=some (.fv (.int x),wl))(h2:ev C b fr wl=some (.fv (.int y),wl)):eK C (.cmp .Lt a b) fr wl=some (r,wl):=fJ h1 h2 (congrArg some h)
theorem Ih(h:decide (y<x)=r)(h1:ev C a fr wl=some (.fv (.int x),wl))(h2:ev C b fr wl=some (.fv (.int y),wl)):eK C (.cmp .Gt a b) fr wl=some (r,wl):=fJ h1 h2 (congrArg some h)
theorem aaL(h:decide (x<=y)=r)(h1:ev C a fr wl=some (.fv (.int x),wl))(h2:ev C b fr wl=some (.fv (.int y),wl)):eK C (.cmp .LtE a b) fr wl=some (r,wl):=fJ h1 h2 (congrArg some h)
theorem T5(h:decide (y<=x)=r)(h1:ev C a fr wl=some (.fv (.int x),wl))(h2:ev C b fr wl=some (.fv (.int y),wl)):eK C (.cmp .GtE a b) fr wl=some (r,wl):=fJ h1 h2 (congrArg some h)
theorem gI(h:(x==y)=r)(h1:ev C a fr wl=some (.fv (.int x),wl))(h2:ev C b fr wl=some (.fv (.int y),wl)):eK C (.cmp .Eq a b) fr wl=some (r,wl):=fJ h1 h2 (congrArg some h)
theorem L_(h:(x==y)=r)(h1:ev C a fr wl=some (.fv (.int x),wl))(h2:ev C b fr wl=some (.fv (.int y),wl)):eK C (.cmp .NotEq a b) fr wl=some (!r,wl):=fJ h1 h2 (by subst h;rfl)
end
noncomputable def oct(x w:Nat):List Int:=(ae w).map λ(i:Nat)=> -(x:Int)-1+(i:Int)
noncomputable def dH(o:Int):Nat:=(-o-1).toNat/8
noncomputable def whole(l:List Nat):List Nat:=l.filter λs=>l.count s==8
theorem HA{x w:Nat}(hx:x<=600)(hw:w<=8):items (.fv (.range (-(x:Int)-1) (-(x:Int)-1+w) 1))=some ((oct x w).map .int):=by
 have e:b7 (-(x:Int)-1) (-(x:Int)-1+w) 1=(w:Int):=by
  delta b7;rw[if_pos (by decide),XS];split<;>lia
 have s:nt (-(x:Int)-1) (-(x:Int)-1+w) 1=true:=by
  delta nt jK cc q_;refine eW e ?_;simp only[bX,gO,decide_eq_true_iff];refine⟨⟨⟨?_,.inr ?_⟩,by decide⟩,by lia⟩<;>simp<;>lia
 show(if nt _ _ 1=true then some ((oM _ _ 1).map FV.int)else ab)=_;refine eW (if_pos s) ?_;delta oM oct;refine eW e<|eW (cG ..) ?_;refine congrArg some (congrArg _ (dB λi _=>?_));exact eW (Y2 ..) rfl
theorem Jo(x w:Nat):(oct x w).map dH=(ae w).map λi=>(x-i)/8:=by
 delta oct;refine eW bG ?_;refine dB λi _=>?_
 show(-(-(x:Int)-1+i)-1).toNat/8=_;exact eW Int.neg_add<|eW (Y1 ..)<|eW (YZ ..)<|eW (XT 1 ..)<|eW (Mw ..)<|eW (tD ..)<|eL Int.sub_eq_add_neg<|eW (Int.toNat_sub ..) rfl
noncomputable def Ss(x w:Nat):List Nat:=(ae w).map λi=>(x-i)/8
theorem N5:((ae 512).all λx=>(ae 9).all λw=> !rb w (x+1)||c5 w 0||c5 (bF ((ae (x/8+1-(x+1-w)/8)).map λi=>(x+1-w)/8+i)) (bF (Ss x w)))=true:=by decide+kernel
theorem VP:((ae 512).all λx=> !rb 8 (x+1)||c5 (bF (whole (Ss x 8))) (if x%8==7 then bF (Ss x 8)else 0))=true:=by decide+kernel
theorem I1(h:l.length<8):whole l=[]:=jM.mpr λa _ e=>b8 8 (aQ (eq_of_beq e▸List.count_le_length) h)
theorem J'{x w:Nat}(hx:x<512)(hw:w<=x+1)(h0:0<w)(h8:w<=8):bF ((ae (x/8+1-(x+1-w)/8)).map λi=>(x+1-w)/8+i)=bF ((oct x w).map dH)/\
 bF (whole ((oct x w).map dH))=if w==8&&x%8==7 then bF ((oct x w).map dH)else 0:=by
 have h:=aL.mp (aL.mp N5 x (aC.mpr hx)) w (aC.mpr (d5 h8));rw[aa1.mpr hw,Av,mY,show c5 w 0=false from dY.mpr λe=>e_ h0 (bN e),mY]at h;refine eW (Jo ..) ?_;refine⟨bN h,?_⟩;by_cases q:w=8
 . subst q
   have g:=aL.mp VP x (aC.mpr hx);rw[aa1.mpr hw,Av,mY]at g;exact bN g
 . rw[I1 (by rw[aj,aq];exact gL h8 q),beq_eq_false_iff_ne.mpr q];rfl
theorem Sw{x:Nat}(hx:x<512):decide (-(x:Int)-1< -512)=false:=a9.mp (show(ae 512).map (λ(x:Nat)=>decide (-(x:Int)-1< -512))=(ae 512).map λ(x:Nat)=>false from by kernel_rfl) x (aC.mpr hx)
theorem VU(x:Nat): -(-(x:Int)-1)=((x+1:Nat):Int):=by exact eW (Y1 ..)<|eW (YZ ..)<|eW (XT ..) rfl
theorem rR{x w:Nat}(hx:x<512)(hw:w<=x+1)(h0:0<w)(h8:w<=8):au N (k+2) (.obj 616) [.fv (.int (-(x:Int)-1)),.fv (nI w)] wl=some (nI (bF ((oct x w).map dH)),wl):=by
 have t1:decide (-(x:Int)-1< -512)=false:=Sw hx
 have t2:decide (0< -(x:Int)-1+w)=false:=decide_eq_false (by lia)
 have f0:∀n:Nat,i9 .FloorDiv (.fv (nI n)) (.fv (.int 8))=some (.fv (nI (n/8))):=λn=>congrArg (λz=>some (EV.fv (.int z))) (fk _ (by decide))
 have f1:i9 .FloorDiv (.fv (.int (-(-(x:Int)-1)-1))) (.fv (.int 8))=some (.fv (nI (x/8))):=(congrArg (λz=>i9 .FloorDiv (.fv (.int (z-1))) (.fv (.int 8))) (VU x)).trans ((congrArg (λz=>i9 .FloorDiv (.fv (.int z)) (.fv (.int 8))) (show((x+1:Nat):Int)-1=x from tD (x:Int) 1)).trans (f0 x))
 have f2:i9 .FloorDiv (.fv (.int (-(-(x:Int)-1)-w))) (.fv (.int 8))=some (.fv (nI ((x+1-w)/8))):=(congrArg (λz=>i9 .FloorDiv (.fv (.int (z-w))) (.fv (.int 8))) (VU x)).trans ((congrArg (λz=>i9 .FloorDiv (.fv (.int z)) (.fv (.int 8))) (Cu hw).symm).trans (f0 _))
 have hm:au N (k+1) (.obj 578) [.fv (.range ((x+1-w)/8:Nat) ((x/8:Nat)+1:Int) 1)] wl=some (nI (bF ((oct x w).map dH)),wl):=by
  have hb:x/8+1<=100000:=ak (cB (Nat.div_le_self x 8)) (ll (show x+1<=512 from hx) rfl)
  have hu:x+1-w<=x:=Ir (cq h0 x)
  have e:=td (N:=N) (k:=k) (wl:=wl) (d:=.range ((x+1-w)/8:Nat) ((x/8+1:Nat):Int) 1) (l:=(ae (x/8+1-(x+1-w)/8)).map λi=>(x+1-w)/8+i) (by exact eW bG<|rB (j0 (Nat.div_le_div_right hu)) hb) (λn hn=>by
   (refine bS (bO.mp hn) λi hi q1=>?_;subst q1)
   rw[aC]at hi;exact ak (bV (fu hi)) (ll hb rfl))
  exact(J' hx hw h0 h8).1▸e
 exact cK rfl<|bt rfl rfl<|ao (bl (Ae (fZ (tj t1 rfl rfl) λ_=>fZ (Ih t2 rfl rfl) λ_=>r7)) aY)<|
  ao (gk (xs:=[.fv (nI (x/8)),.fv (nI ((x+1-w)/8))]) (ah (dh rfl rfl f1) (ah (dh rfl rfl f2) aE)) rfl)<|br<|bY<|aG (ah rfl aE) hm
theorem Ci{v:FV}{o:FV}(h:∀k wl,au N (k+3) (.obj a) [.fv o] wl=some (v,wl)){n:Nat}:ev (au N (n+3)) (.call (.bc (.obj a)) (.cons (.var 0) .nil)) [.val o] wl=some (.fv v,wl):=aG (ah rfl aE) (h n wl)
theorem qJ{p q:IE}{b c:Bool}(h1:eK C p fr wl=some (b,wl))(h2:eK C q fr wl=some (c,wl)):eK C (.ig (.cons p (.cons q .nil))) fr wl=some (b&&c,wl):=jJ (Uo h1 λ_=>by
 induction c using ax with
 |true=>exact dS h2 pA
 |false=>exact d7 h2)
theorem Xc{x:Nat}(hx:x<512):((-(x:Int)-1).fmod 8==0)=(x%8==7):=a9.mp (show(ae 512).map (λ(x:Nat)=>(-(x:Int)-1).fmod 8==0)=(ae 512).map λ(x:Nat)=>x%8==7 from by kernel_rfl) x (aC.mpr hx)
theorem slot_of{c:Int}{x w:Nat}{ld am st:Bool}(h1:∀k wl,au N (k+3) (.obj 235) [.fv (ord c a b (-(x:Int)-1) fq)] wl=some (.bool ld,wl))(h2:∀k wl,au N (k+3) (.obj 249) [.fv (ord c a b (-(x:Int)-1) fq)] wl=some (.bool am,wl))
 (h3:∀k wl,au N (k+3) (.obj 242) [.fv (ord c a b (-(x:Int)-1) fq)] wl=some (.bool st,wl))(h4:∀k wl,au N (k+3) (.obj 186) [.fv (ord c a b (-(x:Int)-1) fq)] wl=some (nI w,wl))(hx:x<512)(hw:w<=x+1)(HI:0<w)(MF:w<=8):
 au N (k+10) (.obj 630) [.fv (ord c a b (-(x:Int)-1) fq)] wl=
  some (.tup [nI (if(ld&&decide (b=10))||(decide (a=10)&&am)then bF ((oct x w).map dH)else 0),nI (if !((ld&&decide (b=10))||(decide (a=10)&&am))&&(decide (a=10)&&st)then bF (whole ((oct x w).map dH))else 0)],wl):=by
 have tb:∀fr:List Slot,fr=[.val (ord c a b (-(x:Int)-1) fq)]->eK (au N (k+9)) (.cmp .Eq (.attr (.var 0) 7) (.bc (.int 10))) fr wl=some (decide (b=10),wl):=λfr e=>by subst e;exact gI (x:=b) (y:=10) (by rw[cR,beq_iff_eq,decide_eq_true_iff];exact jh) rfl rfl
 have ta:∀fr:List Slot,fr=[.val (ord c a b (-(x:Int)-1) fq)]->eK (au N (k+9)) (.cmp .Eq (.attr (.var 0) 6) (.bc (.int 10))) fr wl=some (decide (a=10),wl):=λfr e=>by subst e;exact gI (x:=a) (y:=10) (by rw[cR,beq_iff_eq,decide_eq_true_iff];exact jh) rfl rfl
 have e1:eK (au N (k+9)) (.ig (.cons (.call (.bc (.obj 235)) (.cons (.var 0) .nil)) (.cons (.cmp .Eq (.attr (.var 0) 7) (.bc (.int 10))) .nil))) [.val (ord c a b (-(x:Int)-1) fq)] wl=some (ld&&decide (b=10),wl):=qJ (jI rfl (Ci (n:=k+6) h1)) (tb _ rfl)
 have e2:eK (au N (k+9)) (.ig (.cons (.cmp .Eq (.attr (.var 0) 6) (.bc (.int 10))) (.cons (.call (.bc (.obj 249)) (.cons (.var 0) .nil)) .nil))) [.val (ord c a b (-(x:Int)-1) fq)] wl=some (decide (a=10)&&am,wl):=qJ (ta _ rfl) (jI rfl (Ci (n:=k+6) h2))
 have rd:ev (au N (k+9)) (.tup (.cons (.call (.bc (.obj 616)) (.cons (.attr (.var 0) 8) (.cons (.call (.bc (.obj 186)) (.cons (.var 0) .nil)) .nil))) (.cons (.lit (.int 0)) .nil))) [.val (ord c a b (-(x:Int)-1) fq)] wl=some (.fv (.tup [nI (bF ((oct x w).map dH)),nI 0]),wl):=
  iG (ah (aG (ah rfl (ah (Ci (n:=k+6) h4) aE)) (rR (k:=k+7) hx hw HI MF)) (ah rfl aE)) rfl
 refine cK (k:=k+9) rfl ?_;induction q1:(ld&&decide (b=10))using ax with
 |true=>exact bt rfl rfl<|br (cz (q1▸e1) (br (bY rd)))
 |false=>
  induction q2:(decide (a=10)&&am)using ax with
  |true=>exact bt rfl rfl<|ao (bl (q1▸e1) aY)<|br (cz (q2▸e2) (br (bY rd)))
  |false=>
   refine bt (cH:=[.val (ord c a b (-(x:Int)-1) fq)]) rfl rfl<|ao (bl (q1▸e1) aY)<|ao (bl (q2▸e2) aY) ?_
   have z0:∀fr:List Slot,hX (au N (k+9)) N (.cons (.ret (.tup (.cons (.lit (.int 0)) (.cons (.lit (.int 0)) .nil)))) .nil) (fr,wl)=some (.ret (.tup [nI 0,nI 0]),fr,wl):=λ_=>rfl
   have e3:eK (au N (k+9)) (.cmp .Eq (.attr (.var 0) 6) (.bc (.int 10))) [.val (ord c a b (-(x:Int)-1) fq)] wl=some (decide (a=10),wl):=ta _ rfl
   have e4:=Ci (n:=k+6) (wl:=wl) h3
   have e5:ev (au N (k+9)) (.call (.bc (.obj 623)) (.cons (.attr (.var 0) 8) (.cons (.call (.bc (.obj 186)) (.cons (.var 0) .nil)) .nil))) [.val (ord c a b (-(x:Int)-1) fq)] wl=some (.fv (.bool (w==8&&x%8==7)),wl):=by
    refine aG (ah rfl (ah (Ci (n:=k+6) h4) aE)) (cK (k:=k+8) rfl (bt (cH:=[.val (.int (-(x:Int)-1)),.val (nI w)]) rfl rfl ?_));by_cases hw:w=8
    . subst hw
      have:((-(x:Int)-1).fmod 8==0)=(x%8==7):=by
       exact Xc hx
      show some (Fl.ret (.bool ((-(x:Int)-1).fmod 8==0)),_,wl)=_;exact eW this rfl
    . have h8:((w:Int)==8)=false:=by rw[beq_eq_false_iff_ne];exactλc=>hw (jh.mp c)
      have h8':(w==8)=false:=by rw[beq_eq_false_iff_ne];exact hw
      refine eW h8'<|eW (h_ ..) ?_;refine br (bY ?_);refine eW Pf<|eW tS<|eW z1 ?_
      show((some (EV.fv (.bool ((w:Int)==8)),wl):Option (EV×WL)).bind _)=_;exact eW h8 rfl
   induction q3:decide (a=10)using ax with
   |false=>exact ao (bl (jJ (d7 (q3▸e3))) aY) (z0 _)
   |true=>
    induction st using ax with
    |false=>exact ao (bl (jJ (dS (q3▸e3) (d7 (jI rfl e4)))) aY) (z0 _)
    |true=>
     induction q5:(w==8&&x%8==7)using ax with
     |false=>
      exact eW ((J' hx hw HI MF).2)<|eW (if_neg (λe=>ay (q5.symm.trans e)))<|ao (bl (jJ (dS (q3▸e3) (dS (jI rfl e4) (d7 (jI rfl (q5▸e5)))))) aY) (z0 _)
     |true=>
      have ht:=rR (N:=N) (k:=k+7) (wl:=wl) hx hw HI MF;rw[<-(J' hx hw HI MF).2.trans (if_pos q5)]at ht
      have h8:w=8:=eq_of_beq (qw.mp q5).1;subst h8;exact br (cz (jJ (dS (q3▸e3) (dS (jI rfl e4) (dS (jI rfl (q5▸e5)) pA)))) (br (bY (iG (ah rfl (ah (aG (ah rfl (ah rfl aE)) ht) aE)) rfl))))
theorem GK{c:Int}{a b:Int}(h1:∀k wl,au N (k+3) (.obj 235) [.fv (ord c a b off fq)] wl=some (.bool false,wl))(h2:∀k wl,au N (k+3) (.obj 249) [.fv (ord c a b off fq)] wl=some (.bool false,wl))
 (h3:∀k wl,au N (k+3) (.obj 242) [.fv (ord c a b off fq)] wl=some (.bool false,wl)):au N (k+10) (.obj 630) [.fv (ord c a b off fq)] wl=some (.tup [nI 0,nI 0],wl):=by
 have ta:∀fr:List Slot,fr=[.val (ord c a b off fq)]->eK (au N (k+9)) (.cmp .Eq (.attr (.var 0) 6) (.bc (.int 10))) fr wl=some (a==10,wl):=λfr e=>by subst e;exact gI rfl rfl rfl
 have e2:eK (au N (k+9)) (.ig (.cons (.cmp .Eq (.attr (.var 0) 6) (.bc (.int 10))) (.cons (.call (.bc (.obj 249)) (.cons (.var 0) .nil)) .nil))) [.val (ord c a b off fq)] wl=some (false,wl):=by
  have:=qJ (ta _ rfl) (jI rfl (Ci (n:=k+6) (wl:=wl) h2))
  rwa[jN]at this
 have e3:eK (au N (k+9)) (.ig (.cons (.cmp .Eq (.attr (.var 0) 6) (.bc (.int 10))) (.cons (.call (.bc (.obj 242)) (.cons (.var 0) .nil)) (.cons (.call (.bc (.obj 623)) (.cons (.attr (.var 0) 8) (.cons (.call (.bc (.obj 186)) (.cons (.var 0) .nil)) .nil))) .nil)))) [.val (ord c a b off fq)] wl=some (false,wl):=by
  induction q:(a==10)using ax with
  |false=>exact jJ (d7 (q▸ta _ rfl))
  |true=>exact jJ (dS (q▸ta _ rfl) (d7 (jI rfl (Ci (n:=k+6) h3))))
 exact cK (k:=k+9) rfl<|bt rfl rfl<|ao (bl (jJ (d7 (jI rfl (Ci (n:=k+6) h1)))) aY)<|ao (bl e2 aY)<|ao (bl e3 aY)<|br (bY rfl)
structure Row where
 w:Nat
 f:FV
 md:Int->FV
 asks:List Nat
 gu:List Nat
 rs:List Int
 ws:List Int
 jX:Nat
 fM:Bool
 xW:Bool
noncomputable def oB(w:Nat):bB:=match w with
 |0=>aa "on"
 |1=>aa "branch"
 |2=>aa "jump"
 |3=>aa "exit"
 |_=>aa "call"
def Row.fv(r:Row):FV:=.tup [.str (oB r.w),r.f,nL r.asks,nL r.gu,.list (r.rs.map .int),.list (r.ws.map .int),nI r.jX]
noncomputable def nG(c:Int):Bool:=c%8==4||c%8==7
noncomputable def TN(c:Int):bB:=if c%8=1 then aa "ldx" else if c%8=2 then aa "st" else if c%8=3 then aa "stx" else if c%8=5 then aa "jmp" else if c%8=6 then aa "jmp32" else aa "alu64"
structure rZ(N:Nat)(r:Row)(o:FV)(d:Int):Prop where
 told:∀k wl,asked N k wl o=told wl r.w
 dist:r.w=1\/r.w=2\/r.w=4->∀k wl,au N (k+10) (.obj 256) [.fv o] wl=some (.int d,wl)
 Vx:∀k wl,au N (k+10) (.obj 597) [.fv o] wl=some (.tup [nI (bF r.asks),nI (bF r.gu)],wl)
 slots:∃a b:Nat,(∀k wl,au N (k+10) (.obj 630) [.fv o] wl=some (.tup [nI a,nI b],wl))/\a<2^64/\(r.fM=false->a=bF (r.rs.map dH)/\b=bF (whole (r.ws.map dH)))
 fM:∀k wl,au N (k+10) (.obj 637) [.fv o] wl=some (.bool r.fM,wl)
 cls:∃s,(∀k wl,au N (k+10) (.obj 151) [.fv o] wl=some (.str s,wl))/\ry s [.str (aa "alu"),.str (aa "alu64")]=some r.xW
 code:∃c:Int,mr (.fv o) 5=some (.fv (.int c))/\j7 (dr c 7) [.int 4,.int 7]=some r.xW
structure Row.Ok(N:Nat)(r:Row):Prop where
 w:r.w<=4
 call:∀k wl a,au N (k+10) r.f [.fv (.int a)] wl=some (r.md a,wl)
 ord:∀a,rZ N r (r.md a) a
 asks:r.asks.length<=16/\∀x∈r.asks,x<16
 gu:∀x∈r.gu,x<16
 xW:r.xW=true->∃x,r.gu=[x]
 rs:r.rs.length<=8/\∀o∈r.rs,-512<=o/\o<= -1
 ws:r.ws.length<=8/\∀o∈r.ws,-512<=o/\o<= -1
def uj:List Int:=Uu++Gd++[5,6,149,133]
theorem rQ(a b off fq:Int):∀c∈uj,(∃s,(∀k wl,au N (k+10) (.obj 151) [.fv (ord c a b off fq)] wl=some (.str s,wl))/\ry s [.str (aa "alu"),.str (aa "alu64")]=some (nG c))/\
 ∃x:Int,mr (.fv (ord c a b off fq)) 5=some (.fv (.int x))/\j7 (dr x 7) [.int 4,.int 7]=some (nG c):=by
 have h1:∀k wl,uj.map (λc=>au N (k+10) (.obj 151) [.fv (ord c a b off fq)] wl)=uj.map λc=>some (.str (TN c),wl):=λk wl=>by kernel_rfl
 have h2:uj.map (λc=>ry (TN c) [.str (aa "alu"),.str (aa "alu64")])=uj.map λc=>some (nG c):=by kernel_rfl
 have h3:uj.map (λc=>j7 (dr c 7) [.int 4,.int 7])=uj.map λc=>some (nG c):=by kernel_rfl
 exactλc hc=>⟨⟨TN c,λk wl=>a9.mp (h1 k wl) c hc,a9.mp h2 c hc⟩,c,rfl,a9.mp h3 c hc⟩
theorem Fv{n:Nat}(h:∀x∈l,x<n):bF l<2^n:=Nat.lt_pow_two_of_testBit _ λi hi=>by
 rw[gx,decide_eq_false];exactλc=>Nat.not_le_of_lt (h i c) hi
theorem zf{o:Int}(h: -512<=o/\o<= -1):dH o<64:=Nat.div_lt_of_lt_mul ((Int.toNat_lt (n:=512) (Int.sub_nonneg_of_le (Uk h.2))).mpr (Mv (Int.sub_lt_self _ (by decide)) (Uk h.1)))
theorem sr{x w:Nat}(hx:x<512)(hw:w<=x+1)(h8:w<=8):(oct x w).length<=8/\∀o∈oct x w,-512<=o/\o<= -1:=by
 unfold oct;refine⟨by refine eW (aj ..)<|eW aq ?_;exact h8,λo ho=>?_⟩
 (refine bS (bO.mp ho) λi hi q1=>?_;subst q1)
 rw[aC]at hi;lia
theorem N4{l:List Int}(h:∀o∈l,-512<=o/\o<= -1):bF (l.map dH)<2^64:=Fv λt ht=>by
 (refine bS (bO.mp ht) λo ho q2=>?_;subst q2)
 exact zf (h o ho)
noncomputable def memC:List (Int×Bool×Bool×Bool×Nat):=[(121,true,false,false,8),(97,true,false,false,4),(105,true,false,false,2),(113,true,false,false,1),(129,true,false,false,4),(137,true,false,false,2),(145,true,false,false,1),
 (123,false,false,true,8),(99,false,false,true,4),(107,false,false,true,2),(115,false,false,true,1),(122,false,false,true,8),(98,false,false,true,4),(106,false,false,true,2),(114,false,false,true,1),(219,false,true,false,8),(195,false,true,false,4)]
theorem Oi(a b off fq:Int):∀t∈memC,∀k wl,[235,249,242,186,158,165,207,214,221].map (λf=>au N (k+2) (.obj f) [.fv (ord t.1 a b off fq)] wl)=[.bool t.2.1,.bool t.2.2.1,.bool t.2.2.2.1,nI t.2.2.2.2,.bool false,.bool false,.bool false,.bool false,.bool false].map λv=>some (v,wl):=by
 intro t ht k wl
 have h:memC.map (λt=>[235,249,242,186,158,165,207,214,221].map (λf=>au N (k+2) (.obj f) [.fv (ord t.1 a b off fq)] wl))=memC.map λt=>[.bool t.2.1,.bool t.2.2.1,.bool t.2.2.2.1,nI t.2.2.2.2,.bool false,.bool false,.bool false,.bool false,.bool false].map λv=>some (v,wl):=by kernel_rfl
 exact a9.mp h t ht
theorem rx:∀t∈memC,t.1∈Uu/\t.1∈uj/\nG t.1=false/\0<t.2.2.2.2/\t.2.2.2.2<=8/\((t.2.1||t.2.2.1)&&t.2.2.2.1)=false:=by decide+kernel
theorem eV(hb:b<16):∀x∈[b],x<16:=λ_ h=>aH.mp h▸hb
theorem eA:∀x∈([]:List Nat),x<16:=λ_ h=>absurd h a8
theorem ka(hb:b<10):b<16:=az hb (av rfl)
theorem VW(hb:b<10):((b:Int)==10)=false:=beq_eq_false_iff_ne.mpr λe=>bx hb (pV e)
theorem mi(ha:a<16)(hb:b<16):∀x∈[a,b],x<16:=λ_ h=>(a6.mp h).elim (λe=>e▸ha) (eV hb _)
variable{r:Row}
theorem Kt(a b off fq:Int):∀t∈memC,∀k wl,au N (k+10) (.obj 637) [.fv (ord t.1 a b off fq)] wl=some (.bool (t.1%8==3&&b==10),wl):=by
 intro t ht k wl
 have h:memC.map (λt=>au N (k+10) (.obj 637) [.fv (ord t.1 a b off fq)] wl)=memC.map λt=>some (.bool (t.1%8==3&&b==10),wl):=by kernel_rfl
 exact a9.mp h t ht
theorem kB{α:Type}{l l':List α}(h:l=l')(i:Nat):l[i]?=l'[i]?:=by exact eW h rfl
theorem zp{t:Int×Bool×Bool×Bool×Nat}(ht:t∈memC){x:Nat}{d:Int}{ru wu:List Nat}(hw:r.w=0)(hx:x<512)(r9:t.2.2.2.2<=x+1)(hu:Uses N (ord t.1 a b (-(x:Int)-1) fq) ru wu)(l1:ru.length<=16)(l2:wu.length<=16)(s1:∀x∈ru,x<16)(s2:∀x∈wu,x<16)
 (hr:bF ru=bF r.asks)(hl:bF wu=bF r.gu)(lk:(t.1%8==3&&((b:Int)==10))=r.fM)(al:r.xW=false)
 (hs:r.fM=false->(if(t.2.1&&decide (b=10))||(decide (a=10)&&t.2.2.1)then oct x t.2.2.2.2 else[])=r.rs/\(if decide (a=10)&&t.2.2.2.1 then oct x t.2.2.2.2 else[])=r.ws):rZ N r (ord t.1 a b (-(x:Int)-1) fq) d:=by
 (refine iS (rx t ht) λm1 m2 m3 m4 m5 m6=>?_)
 have M:=Oi (N:=N) a b (-(x:Int)-1) fq t ht
 have c:=rQ (N:=N) a b (-(x:Int)-1) fq t.1 m2;rw[m3,<-al]at c;refine⟨λk wl=>hw▸E1 _ _ _ _ t.1 m1,λh=>by rw[hw]at h;exact absurd h (by decide),λk wl=>?_,⟨_,_,λk wl=>slot_of (ld:=t.2.1) (am:=t.2.2.1) (st:=t.2.2.2.1) (λk wl=>(aK (M (k+1) wl)).1) (λk wl=>ag (kB (M (k+1) wl) 1)) (λk wl=>ag (kB (M (k+1) wl) 2)) (λk wl=>ag (kB (M (k+1) wl) 3)) hx r9 m4 m5,?_,λh=>?_⟩,λk wl=>lk▸Kt a b _ fq t ht k wl,c.1,c.2⟩
 . have:=JK (N:=N) (k:=k) (wl:=wl) (o:=ord t.1 a b (-(x:Int)-1) fq) (λk wl=>congrArg (List.drop 6) (M (k+3) wl)) hu l1 l2 s1 s2
   rw[hr,hl]at this;exact this
 . split
   . exact N4 (sr hx r9 m5).2
   . exact xu (by decide)
 . (refine xA (hs h) λh1 h2=>?_)
   refine eL h1<|eL h2 ?_
   have e:(!((t.2.1&&decide (b=10))||(decide (a=10)&&t.2.2.1))&&(decide (a=10)&&t.2.2.2.1))=(decide (a=10)&&t.2.2.2.1):=by
    revert m6
    induction t.2.1 using ax<;>induction t.2.2.1 using ax<;>induction t.2.2.2.1 using ax<;>induction decide (a=10)using ax<;>induction decide (b=10)using ax<;>decide
   exact eW e<|⟨by split<;>rfl,by split<;>rfl⟩
theorem vy{x w:Nat}{p:Prop}[Decidable p](h:(oct x w).length<=8/\∀o∈oct x w,-512<=o/\o<= -1):(if p then oct x w else[]).length<=8/\∀o∈(if p then oct x w else[]),-512<=o/\o<= -1:=by
 split
 . exact h
 . exact⟨aU _,λ_ h=>absurd h a8⟩
theorem di:([]:List Int).length<=8/\∀o∈([]:List Int),-512<=o/\o<= -1:=⟨aU _,λ_ h=>absurd h a8⟩
section
variable {x w:Nat}{c:Int}
theorem M_(off fq:Int):∀c∈([121,97,105,113,129,137,145]:List Int),Uses N (ord c a b off fq) [b] [a]:=λc hc k wl=>by
 have h:([121,97,105,113,129,137,145]:List Int).map (λc=>au N (k+5) (.obj 296) [.fv (ord c a b off fq)] wl)=([121,97,105,113,129,137,145]:List Int).map λc=>some (.tup [nL [b],nL [a]],wl):=by kernel_rfl
 exact a9.mp h c hc
theorem M'(off fq:Int):∀c∈([122,98,106,114]:List Int),Uses N (ord c a b off fq) [a] []:=λc hc k wl=>by
 have h:([122,98,106,114]:List Int).map (λc=>au N (k+5) (.obj 296) [.fv (ord c a b off fq)] wl)=([122,98,106,114]:List Int).map λc=>some (.tup [nL [a],nL []],wl):=by kernel_rfl
 exact a9.mp h c hc
noncomputable abbrev jb(x:Nat):Int:= -(x:Int)-1
noncomputable def ldC(sx:Bool):List (Nat×Int):=if sx then[(8,129),(4,129),(2,137),(1,145)]else[(8,121),(4,97),(2,105),(1,113)]
def A'(sx:Bool)(c:Int)(base one x w:Nat):Row:=⟨0,.mB (if sx then 5 else 6) [nI base,.int (jb x),nI one,nI w],λ_=>ord c one base (jb x) 0,[base],[one],if base=10 then oct x (if sx then min w 4 else w)else[],[],0,false,false⟩
theorem JN{sx:Bool}(hc:(w,c)∈ldC sx):(c,true,false,false,if sx then min w 4 else w)∈memC/\c∈([121,97,105,113,129,137,145]:List Int)/\(c%8==3)=false/\∀k wl y(a b:Nat),au N (k+10) (A' sx c b a x w).f [.fv (.int y)] wl=some (ord c a b (jb x) 0,wl):=by
 have h1:∀sx,∀p∈ldC sx,(p.2,true,false,false,if sx then min p.1 4 else p.1)∈memC/\p.2∈([121,97,105,113,129,137,145]:List Int)/\(p.2%8==3)=false:=by decide+kernel
 have h2:∀sx k wl y(a b:Nat),(ldC sx).map (λp=>au N (k+10) (A' sx p.2 b a x p.1).f [.fv (.int y)] wl)=(ldC sx).map λp=>some (ord p.2 a b (jb x) 0,wl):=λsx k wl y a b=>by induction sx using ax<;>kernel_rfl
 exact⟨(h1 sx (w,c) hc).1,(h1 sx (w,c) hc).2.1,(h1 sx (w,c) hc).2.2,λk wl y a b=>a9.mp (h2 sx k wl y a b) (w,c) hc⟩
theorem A9{sx:Bool}(hc:(w,c)∈ldC sx)(ha:a<10)(hb:b<16)(hx:x<512)(hw:w<=x+1):(A' sx c b a x w).Ok N:=
 fA (JN (N:=N) (x:=x) hc) λt1 t2 t4 t3=>
 have Ux:(if sx then min w 4 else w)<=x+1:=sx.casesOn (motive:=λsx=>(if sx then min w 4 else w)<=x+1) hw (ak (pT _ _) hw)
 ⟨aU _,λk wl y=>t3 k wl y a b,λy=>zp t1 rfl hx Ux (M_ _ _ c t2) (av rfl) (av rfl) (eV hb) (eV (ka ha)) rfl rfl ((congrArg (·&&_) t4).trans (h_ _)) rfl (λ_=>⟨by simp[A'],by simp[A']⟩),
   ⟨av rfl,eV hb⟩,eV (ka ha),λh=>absurd h ay,vy (sr hx Ux (rx _ t1).2.2.2.2.1),di⟩
noncomputable def stC:List (Nat×Int):=[(8,123),(4,99),(2,107),(1,115)]
def Sg(c:Int)(base one x w:Nat):Row:=⟨0,.mB 4 [nI base,.int (jb x),nI one,nI w],λ_=>ord c base one (jb x) 0,[base,one],[],[],if base=10 then oct x w else[],0,false,false⟩
theorem Jl(hc:(w,c)∈stC):(c,false,false,true,w)∈memC/\(c%8==3)=true/\dr c 7=3/\(∀k wl(a b:Nat) y z,au N (k+10) (.mB 4 [nI a,.int y,nI b,nI w]) [.fv (.int z)] wl=some (ord c a b y 0,wl))/\
 ∀(a b:Int) off k wl,[158,165,249].map (λf=>au N (k+2) (.obj f) [.fv (ord c a b off 0)] wl)=bD 3 (some (.bool false,wl)):=by
 have h1:∀p∈stC,(p.2,false,false,true,p.1)∈memC/\(p.2%8==3)=true/\dr p.2 7=3:=by decide+kernel
 have h2:∀k wl(a b:Nat) y z,stC.map (λp=>au N (k+10) (.mB 4 [nI a,.int y,nI b,nI p.1]) [.fv (.int z)] wl)=stC.map λp=>some (ord p.2 a b y 0,wl):=λk wl a b y z=>by kernel_rfl
 have h3:∀(a b:Int) off k wl,stC.map (λp=>[158,165,249].map (λf=>au N (k+2) (.obj f) [.fv (ord p.2 a b off 0)] wl))=stC.map λ_=>bD 3 (some (.bool false,wl)):=λa b off k wl=>by kernel_rfl
 exact⟨(h1 (w,c) hc).1,(h1 (w,c) hc).2.1,(h1 (w,c) hc).2.2,λk wl a b y z=>a9.mp (h2 k wl a b y z) (w,c) hc,λa b off k wl=>a9.mp (h3 a b off k wl) (w,c) hc⟩
theorem kg:((ae 16).filter λn=>decide (n∈l)).length<=16/\∀x∈(ae 16).filter (λn=>decide (n∈l)),x<16:=⟨dG _ _,λx hx=>aC.mp (eO.mp hx).1⟩
theorem Bg{d:Int}(hc:(w,c)∈stC)(ha:a<16)(hb:b<16)(hx:x<512)(hw:w<=x+1)(h0:r.w=0)(h1:r.asks=[a,b])(h2:r.gu=[])(h3:((b:Int)==10)=r.fM)(h4:r.xW=false)(h5:r.fM=false->[]=r.rs/\(if a=10 then oct x w else[])=r.ws):rZ N r (ord c a b (jb x) 0) d:=
 kI (Jl (N:=N) hc) λt1 t2 t3 _ t5=>zp t1 h0 hx hw (M9 (λk wl=>t5 _ _ _ k wl) t3) kg.1 (aU _) kg.2 eA ((pJ (mi ha hb)).trans (congrArg bF h1.symm)) (congrArg bF h2.symm) ((congrArg (·&&_) t2).trans ((gQ _).trans h3)) h4 (λh=>by simpa using h5 h)
theorem G8(hc:(w,c)∈stC)(ha:a<16)(hb:b<10)(hx:x<512)(hw:w<=x+1):(Sg c a b x w).Ok N:=
 kI (Jl (N:=N) hc) λt1 _ _ t4 _=>⟨aU _,λk wl y=>t4 _ _ _ _ _ _,λy=>Bg hc ha (ka hb) hx hw rfl rfl rfl (VW hb) rfl (λ_=>⟨rfl,rfl⟩),⟨av rfl,mi ha (ka hb)⟩,eA,λh=>absurd h ay,di,vy (sr hx hw (rx _ t1).2.2.2.2.1)⟩
def NG(base x:Nat):Row:=⟨0,.mB 14 [nI base,.int (jb x)],λ_=>ord 123 base 10 (jb x) 0,[base,10],[],[],[],0,true,false⟩
theorem C'(ha:a<16)(hx:x<512)(hw:8<=x+1):(NG a x).Ok N:=
 ⟨aU _,λk wl y=>by kernel_rfl,λy=>Bg (w:=8) (b:=10) (by decide) ha (by decide) hx hw rfl rfl rfl rfl rfl (λh=>absurd h.symm ay),⟨av rfl,mi ha (by decide)⟩,eA,λh=>absurd h ay,di,di⟩
noncomputable def Uq:List (Nat×Int):=[(8,122),(4,98),(2,106),(1,114)]
def E_(c:Int)(base x w:Nat):Row:=⟨0,.mB 3 [nI base,.int (jb x),nI w],λ_=>ord c base 0 (jb x) 3,[base],[],[],if base=10 then oct x w else[],0,false,false⟩
theorem C_(hc:(w,c)∈Uq):(c,false,false,true,w)∈memC/\(c%8==3)=false/\c∈([122,98,106,114]:List Int)/\(∀k wl(a:Nat) y z,au N (k+10) (.mB 3 [nI a,.int y,nI w]) [.fv (.int z)] wl=some (ord c a 0 y 3,wl)):=by
 have h1:∀p∈Uq,(p.2,false,false,true,p.1)∈memC/\(p.2%8==3)=false/\p.2∈([122,98,106,114]:List Int):=by decide+kernel
 have h2:∀k wl(a:Nat) y z,Uq.map (λp=>au N (k+10) (.mB 3 [nI a,.int y,nI p.1]) [.fv (.int z)] wl)=Uq.map λp=>some (ord p.2 a 0 y 3,wl):=λk wl a y z=>by kernel_rfl
 exact⟨(h1 (w,c) hc).1,(h1 (w,c) hc).2.1,(h1 (w,c) hc).2.2,λk wl a y z=>a9.mp (h2 k wl a y z) (w,c) hc⟩
theorem Dc(hc:(w,c)∈Uq)(ha:a<16)(hx:x<512)(hw:w<=x+1):(E_ c a x w).Ok N:=
 fA (C_ (N:=N) hc) λt1 t2 t3 t4=>⟨aU _,λk wl y=>t4 _ _ _ _ _,λy=>zp (b:=0) t1 rfl hx hw (M' _ _ c t3) (av rfl) (aU _) (eV ha) eA rfl rfl ((congrArg (·&&_) t2).trans (h_ _)) rfl (λ_=>by simp[E_]),⟨av rfl,eV ha⟩,eA,λh=>absurd h ay,di,vy (sr hx hw (rx _ t1).2.2.2.2.1)⟩
noncomputable def wF:List (Int×bB×Bool×Bool):=[(0,aa "add",false,false),(65,aa "fetch_or",false,true),(241,aa "cmpxchg",true,false),(225,aa "xchg",false,true),(160,aa "xor",false,false)]
noncomputable def PW:List (Nat×Int):=[(8,219),(4,195)]
def Fc(c:Int)(t:Int×bB×Bool×Bool)(base one x w:Nat):Row:=⟨0,.mB 2 [nI base,.str t.2.1,.int (jb x),nI one,nI w],λ_=>ord c base one (jb x) t.1,[base,one]++if t.2.2.1 then[0]else[],if t.2.2.1 then[0]else if t.2.2.2 then[one]else[],if base=10 then oct x w else[],[],0,false,false⟩
theorem Q6{t:Int×bB×Bool×Bool}(hc:(w,c)∈PW)(ht:t∈wF):(c,false,true,false,w)∈memC/\(c%8==3)=true/\(∀k wl(a b:Nat) y z,au N (k+10) (.mB 2 [nI a,.str t.2.1,.int y,nI b,nI w]) [.fv (.int z)] wl=some (ord c a b y t.1,wl))/\
 ∀(a b:Nat) off k wl,au N (k+5) (.obj 296) [.fv (ord c a b off t.1)] wl=some (.tup [nL ((ae 16).filter λn=>decide (n∈[a,b]++if t.2.2.1 then[0]else[])),nL (if t.2.2.1 then[0]else if t.2.2.2 then[b]else[])],wl):=by
 have h1:∀p∈PW,(p.2,false,true,false,p.1)∈memC/\(p.2%8==3)=true:=by decide+kernel
 have h2:∀k wl(a b:Nat) y z,PW.map (λp=>wF.map λt=>au N (k+10) (.mB 2 [nI a,.str t.2.1,.int y,nI b,nI p.1]) [.fv (.int z)] wl)=PW.map λp=>wF.map λt=>some (ord p.2 a b y t.1,wl):=λk wl a b y z=>by kernel_rfl
 refine⟨(h1 (w,c) hc).1,(h1 (w,c) hc).2,λk wl a b y z=>a9.mp (a9.mp (h2 k wl a b y z) (w,c) hc) t ht,λa b off k wl=>?_⟩;simp only[PW,a6,MQ,a8,or_false]at hc;simp only[wF,a6,a8,or_false]at ht;refine Nb (nm:=t.2.1) (λk wl=>?_) (λk wl=>?_) ?_ (λk wl=>?_) ?_ λC fr=>?_<;>rcases hc with⟨rfl,rfl⟩|⟨rfl,rfl⟩<;>rcases ht with rfl|rfl|rfl|rfl|rfl<;>kernel_rfl
theorem lt_if{t:Bool}(ha:a<16)(hb:b<16):∀x∈[a,b]++(if t then[0]else[]),x<16:=λx h=>(cp.mp h).elim (mi ha hb x) (t.casesOn (motive:=λt=>x∈(if t then[0]else[])->x<16) (eA x) (eV (by decide) x))
theorem lt_iff{t u:Bool}(hb:b<16):∀x∈(if t then[0]else if u then[b]else[]),x<16:=t.casesOn (motive:=λt=>∀x∈(if t then[0]else if u then[b]else[]),x<16) (u.casesOn (motive:=λu=>∀x∈(if u then[b]else[]),x<16) eA (eV hb)) (eV (by decide))
theorem SQ{t u:Bool}:(if t then[0]else if u then[b]else[]).length<=16:=t.casesOn (motive:=λt=>(if t then[0]else if u then[b]else[]).length<=16) (u.casesOn (motive:=λu=>(if u then[b]else[]).length<=16) (aU _) (av rfl)) (av rfl)
theorem Fi{t:Int×bB×Bool×Bool}{d:Int}(hc:(w,c)∈PW)(ht:t∈wF)(ha:a<16)(hb:b<16)(hx:x<512)(hw:w<=x+1)(h0:r.w=0)(h1:r.asks=[a,b]++if t.2.2.1 then[0]else[])(h2:r.gu=if t.2.2.1 then[0]else if t.2.2.2 then[b]else[])(h3:((b:Int)==10)=r.fM)(h4:r.xW=false)(h5:r.fM=false->(if a=10 then oct x w else[])=r.rs/\[]=r.ws):rZ N r (ord c a b (jb x) t.1) d:=
 fA (Q6 (N:=N) hc ht) λt1 t2 _ t4=>zp t1 h0 hx hw (λk wl=>t4 a b _ k wl) kg.1 SQ kg.2 (lt_iff hb) ((pJ (lt_if ha hb)).trans (congrArg bF h1.symm)) (congrArg bF h2.symm) ((congrArg (·&&_) t2).trans ((gQ _).trans h3)) h4 (λh=>by simpa using h5 h)
theorem JR{t:Int×bB×Bool×Bool}(hc:(w,c)∈PW)(ht:t∈wF)(ha:a<16)(hb:b<10)(hx:x<512)(hw:w<=x+1):(Fc c t a b x w).Ok N:=
 fA (Q6 (N:=N) hc ht) λt1 _ t3 _=>⟨aU _,λk wl y=>t3 _ _ _ _ _ _,λy=>Fi hc ht ha (ka hb) hx hw rfl rfl rfl (VW hb) rfl (λ_=>⟨rfl,rfl⟩),
  ⟨t.2.2.1.casesOn (motive:=λu=>([a,b]++if u then[0]else[]).length<=16) (av rfl) (av rfl),lt_if ha (ka hb)⟩,lt_iff (ka hb),λh=>absurd h ay,vy (sr hx hw (rx _ t1).2.2.2.2.1),di⟩
def Sk(base x:Nat):Row:=⟨0,.mB 13 [nI base,.int (jb x)],λ_=>ord 219 base 10 (jb x) 160,[base,10],[],[],[],0,true,false⟩
theorem G_(ha:a<16)(hx:x<512)(hw:8<=x+1):(Sk a x).Ok N:=
 ⟨aU _,λk wl y=>by kernel_rfl,λy=>Fi (t:=(160,aa "xor",false,false)) (w:=8) (b:=10) (aF (i:=0) rfl) (aF (i:=4) rfl) ha (by decide) hx hw rfl rfl rfl rfl rfl (λh=>absurd h.symm ay),⟨av rfl,mi ha (by decide)⟩,eA,λh=>absurd h ay,di,di⟩
end
theorem vw{c a b d:Int}{ru wu:List Nat}(hc:c∈uj)(h6:∀k wl,[207,214,221,235,242,249].map (λf=>au N (k+3) (.obj f) [.fv (ord c a b off fq)] wl)=bD 6 (some (.bool false,wl)))(ht:∀k wl,asked N k wl (ord c a b off fq)=told wl r.w)
 (hd:r.w=1\/r.w=2\/r.w=4->∀k wl,au N (k+10) (.obj 256) [.fv (ord c a b off fq)] wl=some (.int d,wl))(hu:Uses N (ord c a b off fq) ru wu)(l1:ru.length<=16)(l2:wu.length<=16)(s1:∀x∈ru,x<16)(s2:∀x∈wu,x<16)
 (hr:bF ru=bF r.asks)(hl:bF wu=bF r.gu)(lk:decide (10∈ru)=r.fM)(al:nG c=r.xW)(hs:r.fM=false->r.rs=[]/\r.ws=[]):rZ N r (ord c a b off fq) d:=by
 have cl:=rQ (N:=N) a b off fq c hc;rw[al]at cl;refine⟨ht,hd,λk wl=>?_,⟨0,0,λk wl=>GK (λk wl=>ag (kB (h6 k wl) 3)) (λk wl=>ag (kB (h6 k wl) 5)) (λk wl=>ag (kB (h6 k wl) 4)),by decide,λh=>?_⟩,λk wl=>lk▸Ov (λk wl=>h6 (k+2) wl) hu,cl.1,cl.2⟩
 . exact eL hr<|eL hl<|JK (λk wl=>congrArg (List.take 3) (h6 (k+2) wl)) hu l1 l2 s1 s2
 . exact eW ((hs h).1)<|eW ((hs h).2)<|⟨rfl,rfl⟩
noncomputable def ui:List (Int×bB×Bool×Bool):=[(15,aa "add",false,true),(191,aa "mov",true,true),(175,aa "xor",false,true),(183,aa "mov",true,false)]
noncomputable def Xw(t:Int×bB×Bool×Bool)(a b:Nat):List Nat:=(if t.2.2.1 then[]else[a])++if t.2.2.2 then[b]else[]
theorem PX{t:Int×bB×Bool×Bool}(ha:a<16)(hb:b<16):∀x∈Xw t a b,x<16:=λx h=>(cp.mp h).elim (t.2.2.1.casesOn (motive:=λu=>x∈(if u then[]else[a])->x<16) (eV ha x) (eA x)) (t.2.2.2.casesOn (motive:=λu=>x∈(if u then[b]else[])->x<16) (eA x) (eV hb x))
theorem Bf:decide (10∈(ae 16).filter λn=>decide (n∈l))=decide (10∈l):=
 decide_eq_decide.mpr (eO.trans ⟨λh=>of_decide_eq_true h.2,λh=>⟨aC.mpr (by decide),decide_eq_true h⟩⟩)
theorem zq{t:Int×bB×Bool×Bool}{d:Int}(ht:t∈ui)(ha:a<16)(hb:b<16)(h0:r.w=0)(h1:bF ((if t.2.2.1 then[]else[a])++if t.2.2.2 then[b]else[])=bF r.asks)(h2:r.gu=[a])(h3:decide (10∈(if t.2.2.1 then[]else[a])++if t.2.2.2 then[b]else[])=r.fM)(h4:r.xW=true)(h5:r.rs=[]/\r.ws=[]):
 rZ N r (ord t.1 a b 0 fq) d:=by
 have g:∀t∈ui,t.1∈Uu/\nG t.1=true/\t.1∈uj:=by decide+kernel
 have f:∀k wl,ui.map (λt=>[207,214,221,235,242,249].map (λf=>au N (k+3) (.obj f) [.fv (ord t.1 a b 0 fq)] wl))=ui.map λ_=>bD 6 (some (.bool false,wl)):=λk wl=>by kernel_rfl
 have u:Uses N (ord t.1 a b 0 fq) ((ae 16).filter λn=>decide (n∈Xw t a b)) [a]:=by
  refine Jb (nm:=t.2.1) (λk wl=>?_) (λk wl=>?_) (λk wl=>?_) ?_ ?_ ?_<;>simp only[ui,a6,a8,or_false]at ht<;>rcases ht with rfl|rfl|rfl|rfl<;>kernel_rfl
 exact jP (g t ht) λt1 t2 t3=>vw t3 (λk wl=>a9.mp (f k wl) t ht) (λk wl=>h0▸E1 _ _ _ _ t.1 t1) (λh=>by rw[h0]at h;exact absurd h (by decide)) u kg.1 (av rfl) kg.2 (eV ha) ((pJ (PX ha hb)).trans h1) (congrArg bF h2.symm) (Bf.trans h3) (t2.trans h4.symm) λ_=>h5
def JS(t:Int×bB×Bool×Bool)(a b:Nat):Row:=⟨0,.mB 7 [.str t.2.1,nI a,nI b],λ_=>ord t.1 a b 0 0,if t.2.2.1 then[b]else[a,b],[a],[],[],0,false,true⟩
theorem NM{t:Int×bB×Bool×Bool}(ht:t∈ui.take 3)(ha:a<10)(hb:b<10):(JS t a b).Ok N:=by
 have h1:t∈ui:=kN ht
 have tw:t.2.2.2=true:=(by decide+kernel:∀t∈ui.take 3,t.2.2.2=true) t ht
 have h2:∀k wl(a b:Nat) z,(ui.take 3).map (λt=>au N (k+10) (.mB 7 [.str t.2.1,nI a,nI b]) [.fv (.int z)] wl)=(ui.take 3).map λt=>some (ord t.1 a b 0 0,wl):=λk wl a b z=>by kernel_rfl
 have e:(if t.2.2.1 then[]else[a])++(if t.2.2.2 then[b]else[])=(JS t a b).asks:=by
  unfold JS;refine eW tw ?_;induction t.2.2.1 using ax<;>rfl
 have l:∀x∈(JS t a b).asks,x<10:=t.2.2.1.casesOn (motive:=λu=>∀x∈(if u then[b]else[a,b]),x<10) (λx h=>(a6.mp h).elim (λq=>q▸ha) λh=>aH.mp h▸hb) (λx h=>aH.mp h▸hb);exact⟨aU _,λk wl y=>a9.mp (h2 k wl a b y) t ht,λy=>zq h1 (ka ha) (ka hb) rfl (congrArg bF e) rfl (e▸decide_eq_false λh=>b8 _ (l _ h)) rfl ⟨rfl,rfl⟩,
  ⟨t.2.2.1.casesOn (motive:=λu=>(if u then[b]else[a,b]).length<=16) (av rfl) (av rfl),λx h=>ka (l x h)⟩,eV (ka ha),λ_=>⟨a,rfl⟩,di,di⟩
def Vz(a:Nat):Row:=⟨0,.mB 8 [nI a],λ_=>ord 183 a 0 0 5,[],[a],[],[],0,false,true⟩
theorem JM(ha:a<10):(Vz a).Ok N:=
 ⟨aU _,λk wl y=>by kernel_rfl,λy=>zq (t:=(183,aa "mov",true,false)) (b:=0) (aF (i:=3) rfl) (ka ha) (by decide) rfl rfl rfl rfl rfl ⟨rfl,rfl⟩,⟨aU _,eA⟩,eV (ka ha),λ_=>⟨a,rfl⟩,di,di⟩
def VB(a:Nat):Row:=⟨0,.mB 18 [nI a],λ_=>ord 15 a 10 0 0,[a,10],[a],[],[],0,true,true⟩
theorem JT(ha:a<10):(VB a).Ok N:=
 ⟨aU _,λk wl y=>by kernel_rfl,λy=>zq (t:=(15,aa "add",false,true)) (b:=10) (aF (i:=0) rfl) (ka ha) (by decide) rfl rfl rfl (decide_eq_true (.tail _ (.head _))) rfl ⟨rfl,rfl⟩,⟨av rfl,mi (ka ha) (by decide)⟩,eV (ka ha),λ_=>⟨a,rfl⟩,di,di⟩
def Vy(a:Nat):Row:=⟨0,.mB 12 [nI a],λ_=>ord 191 a 10 0 0,[10],[a],[],[],0,true,true⟩
theorem JL(ha:a<10):(Vy a).Ok N:=
 ⟨aU _,λk wl y=>by kernel_rfl,λy=>zq (t:=(191,aa "mov",true,true)) (b:=10) (aF (i:=1) rfl) (ka ha) (by decide) rfl rfl rfl rfl rfl ⟨rfl,rfl⟩,⟨av rfl,eV (by decide)⟩,eV (ka ha),λ_=>⟨a,rfl⟩,di,di⟩
theorem LN(a b off fq:Int):∀c∈Gd,c∈uj/\nG c=false/\(∀k wl,[207,214,221,235,242,249].map (λf=>au N (k+3) (.obj f) [.fv (ord c a b off fq)] wl)=bD 6 (some (.bool false,wl)))/\∀k wl,au N (k+10) (.obj 256) [.fv (ord c a b off fq)] wl=some (.int off,wl):=λc hc=>by
 have h1:∀k wl,Gd.map (λc=>[207,214,221,235,242,249].map (λf=>au N (k+3) (.obj f) [.fv (ord c a b off fq)] wl))=Gd.map λc=>bD 6 (some (.bool false,wl)):=λk wl=>by kernel_rfl
 have h2:∀k wl,Gd.map (λc=>au N (k+10) (.obj 256) [.fv (ord c a b off fq)] wl)=Gd.map λc=>some (.int off,wl):=λk wl=>by kernel_rfl
 have h3:∀c∈Gd,c∈uj/\nG c=false:=by decide+kernel
 exact⟨(h3 c hc).1,(h3 c hc).2,λk wl=>a9.mp (h1 k wl) c hc,λk wl=>a9.mp (h2 k wl) c hc⟩
theorem Dn{c d:Int}(hc:c∈([109,61,173]:List Int))(ha:a<16)(hb:b<16)(h0:r.w=1)(h1:bF [a,b]=bF r.asks)(h2:r.gu=[])(h3:decide (10∈[a,b])=r.fM)(h4:r.xW=false)(h5:r.rs=[]/\r.ws=[]):rZ N r (ord c a b d 0) d:=by
 have WM:c∈Gd:=(by decide:∀c∈([109,61,173]:List Int),c∈Gd) c hc
 (refine fA (LN (N:=N) a b d 0 c WM) λt1 t2 t3 t4=>?_)
 refine vw t1 t3 (λk wl=>h0▸E2 _ _ _ _ c WM) (λ_=>t4) (Na (λk wl=>?_) (λk wl=>?_)) kg.1 (aU _) kg.2 eA ((pJ (mi ha hb)).trans h1) (congrArg bF h2.symm) (Bf.trans h3) (t2.trans h4.symm) λ_=>h5
 . simp only[a6,a8,or_false]at hc
   rcases hc with rfl|rfl|rfl<;>kernel_rfl
 . simp only[a6,a8,or_false]at hc
   rcases hc with rfl|rfl|rfl<;>kernel_rfl
theorem Dp{c d:Int}(hc:c∈([69,85,21]:List Int))(ha:a<16)(h0:r.w=1)(h1:r.asks=[a])(h2:r.gu=[])(h3:decide (10∈[a])=r.fM)(h4:r.xW=false)(h5:r.rs=[]/\r.ws=[]):rZ N r (ord c a 0 d fq) d:=by
 have WM:c∈Gd:=(by decide:∀c∈([69,85,21]:List Int),c∈Gd) c hc
 (refine fA (LN (N:=N) a 0 d fq c WM) λt1 t2 t3 t4=>?_)
 refine vw t1 t3 (λk wl=>h0▸E2 _ _ _ _ c WM) (λ_=>t4) (ru:=[a]) (wu:=[]) (λk wl=>?_) (av rfl) (aU _) (eV ha) eA (congrArg bF h1.symm) (congrArg bF h2.symm) h3 (t2.trans h4.symm) λ_=>h5;simp only[a6,a8,or_false]at hc;rcases hc with rfl|rfl|rfl<;>kernel_rfl
def Zk(a b jX:Nat):Row:=⟨1,.mB 10 [nI a,nI b],λd=>ord 109 a b d 0,[a,b],[],[],[],jX,false,false⟩
theorem NH(ha:a<10)(hb:b<10):(Zk a b jX).Ok N:=
 ⟨av rfl,λk wl y=>by kernel_rfl,λy=>Dn (.head _) (ka ha) (ka hb) rfl rfl rfl (decide_eq_false λh=>(a6.mp h).elim (λe=>b8 10 (e.symm▸ha)) λh=>b8 10 (aH.mp h▸hb)) rfl ⟨rfl,rfl⟩,⟨av rfl,mi (ka ha) (ka hb)⟩,eA,λh=>absurd h ay,di,di⟩
def Sh(a jX:Nat):Row:=⟨1,.mB 17 [nI a],λd=>ord 61 10 a d 0,[a,10],[],[],[],jX,true,false⟩
theorem NL(ha:a<10):(Sh a jX).Ok N:=
 ⟨av rfl,λk wl y=>by kernel_rfl,λy=>Dn (a:=10) (by decide) (by decide) (by lia) rfl (sA λt=>by simp[Sh,or_comm]) rfl (by simp[Sh]) rfl ⟨rfl,rfl⟩,⟨av rfl,mi (ka ha) (by decide)⟩,eA,λh=>absurd h ay,di,di⟩
def VA(a jX:Nat):Row:=⟨1,.mB 16 [nI a],λd=>ord 173 a 10 d 0,[a,10],[],[],[],jX,true,false⟩
theorem NK(ha:a<10):(VA a jX).Ok N:=
 ⟨av rfl,λk wl y=>by kernel_rfl,λy=>Dn (b:=10) (by decide) (by lia) (by decide) rfl rfl rfl (by simp[VA]) rfl ⟨rfl,rfl⟩,⟨av rfl,mi (ka ha) (by decide)⟩,eA,λh=>absurd h ay,di,di⟩
def Zl(a jX:Nat):Row:=⟨1,.mB 9 [nI a],λd=>ord 69 a 0 d 6,[a],[],[],[],jX,false,false⟩
theorem NI(ha:a<10):(Zl a jX).Ok N:=
 ⟨av rfl,λk wl y=>by kernel_rfl,λy=>Dp (.head _) (ka ha) rfl rfl rfl (decide_eq_false λh=>b8 10 (aH.mp h▸ha)) rfl ⟨rfl,rfl⟩,⟨av rfl,eV (ka ha)⟩,eA,λh=>absurd h ay,di,di⟩
def Zm(jX:Nat):Row:=⟨1,.mB 15 [],λd=>ord 85 10 0 d 1,[10],[],[],[],jX,true,false⟩
theorem NJ:(Zm jX).Ok N:=
 ⟨av rfl,λk wl y=>by kernel_rfl,λy=>Dp (a:=10) (by decide) (by decide) rfl rfl rfl rfl rfl ⟨rfl,rfl⟩,⟨av rfl,eV (by decide)⟩,eA,λh=>absurd h ay,di,di⟩
def Sj(jX:Nat):Row:=⟨1,.mB 20 [],λd=>ord 21 6 0 d 0,[6],[],[],[],jX,false,false⟩
theorem Si:(Sj jX).Ok N:=
 ⟨av rfl,λk wl y=>by kernel_rfl,λy=>Dp (a:=6) (by decide) (by decide) rfl rfl rfl rfl rfl ⟨rfl,rfl⟩,⟨av rfl,eV (by decide)⟩,eA,λh=>absurd h ay,di,di⟩
def Fb(HO:Bool)(jX:Nat):Row:=⟨2,if HO then .obj 354 else .obj 347,λd=>if HO then ord 6 0 0 0 d else ord 5 0 0 d 0,[],[],[],[],jX,false,false⟩
theorem JO{HO:Bool}:(Fb HO jX).Ok N:=by
 refine⟨av rfl,λk wl y=>by induction HO using ax<;>kernel_rfl,λy=>?_,⟨aU _,eA⟩,eA,λh=>absurd h ay,di,di⟩;induction HO using ax with
 |true=>exact vw (c:=6) (ru:=[]) (wu:=[]) (by decide) (λk wl=>by kernel_rfl) (λk wl=>RL _ _ _ _) (λ_ k wl=>by kernel_rfl) (λk wl=>by kernel_rfl) (aU _) (aU _) eA eA rfl rfl rfl rfl λ_=>⟨rfl,rfl⟩
 |false=>exact vw (c:=5) (ru:=[]) (wu:=[]) (by decide) (λk wl=>by kernel_rfl) (λk wl=>RM _ _ _ _) (λ_ k wl=>by kernel_rfl) (λk wl=>by kernel_rfl) (aU _) (aU _) eA eA rfl rfl rfl rfl λ_=>⟨rfl,rfl⟩
def oQ:Row:=⟨3,.mB 19 [],λ_=>ord 149 0 0 0 0,[0],[],[],[],0,false,false⟩
theorem JP:oQ.Ok N:=by
 refine⟨by decide,λk wl y=>by kernel_rfl,λy=>?_,⟨av rfl,eV (by decide)⟩,eA,λh=>absurd h ay,di,di⟩
 have cl:=rQ (N:=N) 0 0 0 0 149 (by decide);exact⟨λk wl=>GB _ _ _ _,λh=>absurd h (by decide),λk wl=>by kernel_rfl,⟨0,0,λk wl=>by kernel_rfl,by decide,λ_=>⟨rfl,rfl⟩⟩,λk wl=>by kernel_rfl,cl.1,cl.2⟩
def De:Row:=⟨4,.obj 426,λd=>ord 133 0 1 0 d,[1,2,3,4,5],[0,1,2,3,4,5],[],[],0,false,false⟩
theorem G9:De.Ok N:=by
 refine⟨by decide,λk wl y=>by kernel_rfl,λy=>?_,⟨av rfl,by decide+kernel⟩,by decide+kernel,λh=>absurd h ay,di,di⟩
 have cl:=rQ (N:=N) 0 1 0 y 133 (by decide);exact⟨λk wl=>CS _ _,λ_ k wl=>by kernel_rfl,λk wl=>by kernel_rfl,⟨0,0,λk wl=>by kernel_rfl,by decide,λ_=>⟨rfl,rfl⟩⟩,λk wl=>by kernel_rfl,cl.1,cl.2⟩
noncomputable def n5:List (Nat×Nat):=[(7,0),(87,3),(2,4),(132,2),(131,3),(89,2)]
def qn(t:Nat×Nat):Row:=⟨0,.mB 11 [nI t.1],λ_=>ord 133 0 0 0 t.1,(ae t.2).map (1+·),[0,1,2,3,4,5],[],[],0,false,false⟩
theorem JQ{t:Nat×Nat}(ht:t∈n5):(qn t).Ok N:=by
 have cl:=λy=>rQ (N:=N) 0 0 0 y 133 (by decide)
 have f:∀t∈n5,(qn t).asks.length<=16/\∀x∈(qn t).asks,x<16:=by decide+kernel
 have e1:∀k wl y,n5.map (λt=>au N (k+10) (qn t).f [.fv (.int y)] wl)=n5.map λt=>some ((qn t).md y,wl):=λk wl y=>by kernel_rfl
 have e2:∀k wl(y:Int),n5.map (λt=>au N (k+10) (.obj 597) [.fv ((qn t).md y)] wl)=n5.map λt=>some (.tup [nI (bF (qn t).asks),nI (bF (qn t).gu)],wl):=λk wl y=>by kernel_rfl
 have e3:∀k wl(y:Int),n5.map (λt=>au N (k+10) (.obj 630) [.fv ((qn t).md y)] wl)=n5.map λ_=>some (.tup [nI 0,nI 0],wl):=λk wl y=>by kernel_rfl
 have e4:∀k wl(y:Int),n5.map (λt=>au N (k+10) (.obj 637) [.fv ((qn t).md y)] wl)=n5.map λ_=>some (.bool false,wl):=λk wl y=>by kernel_rfl
 exact⟨aU _,λk wl y=>a9.mp (e1 k wl y) t ht,λy=>⟨λk wl=>GC _ _,λh=>absurd h (by decide:¬((0:Nat)=1\/(0:Nat)=2\/(0:Nat)=4)),λk wl=>a9.mp (e2 k wl y) t ht,⟨0,0,λk wl=>a9.mp (e3 k wl y) t ht,by decide,λ_=>⟨rfl,rfl⟩⟩,λk wl=>a9.mp (e4 k wl y) t ht,(cl _).1,(cl _).2⟩,f t ht,(by decide:∀x∈[0,1,2,3,4,5],x<16),λh=>absurd h ay,di,di⟩
def W(c:Nat)(wl:WL):Prop:=∃a b:Nat,wl=some [nI a,nI b]/\b<=c
theorem W.le{d:Nat}(h:W c wl)(q:c<=d):W d wl:=by(refine gf h ?_;clear h;intro a b e hb);exact⟨a,b,e,ak hb q⟩
theorem Ez{i:IE}{n:Nat}(h:ev C e fr wl=some (.fv d,w1))(ho:fr[j]?=some (.val .well))(h2:ev C i fr w1=some (.fv (nI n),some xs))(hk:n<xs.length/\n<100):
 ex C N (.fV (.v j) i e) (fr,wl)=some (.next,fr,some (xs.set n d)):=by
 show(ev C e fr wl).bind _=_;refine eW h<|eW (bJ ..) ?_;dsimp only;refine eW ho ?_
 show(ev C i fr w1).bind _=_;refine eW h2<|eW (bJ ..) ?_
 show(if 0<=(n:Int)/\(n:Int).toNat<xs.length/\(n:Int)<2^62 then some (Fl.next,fr,some (xs.set (n:Int).toNat d))else ab)=_;rw[if_pos ⟨bI n,by exact eW (cG ..)<|hk.1,by lia⟩,cG]
theorem Dt{m:Nat}(h:0<m):i9 .Mod (.fv (nI a)) (.fv (nI m))=some (.fv (nI (a%m))):=by
 show(if(m:Int)≠0 then some (Int.fmod (a:Int) (m:Int))else ab).map (λr=>EV.fv (.int r))=_;rw[if_pos (by lia),Int.fmod_eq_emod_of_nonneg _ (by lia)];rfl
theorem Eb{m:Nat}(h:0<m)(h2:m<2^128):i9 .FloorDiv (.fv (nI a)) (.fv (nI m))=some (.fv (nI (a/m))):=by
 show(if(m:Int)≠0/\(m:Int).natAbs<2^128 then some (Ai (a:Int) (m:Int))else ab).map (λr=>EV.fv (.int r))=_;rw[if_pos ⟨by lia,h2⟩,fk _ (by lia)];rfl
theorem Sm(h:b<=1000000):i9 .Pow (.fv (.int 1000003)) (.fv (nI b))=some (.fv (nI (1000003^b))):=by
 show(if 0<=(b:Int)/\((dy 1000003:Nat):Int)*(b:Int)<=2^27 then some ((1000003:Int)^(b:Int).toNat)else ab).map (λr=>EV.fv (.int r))=_;rw[show dy 1000003=20 by decide+kernel,if_pos ⟨by lia,by lia⟩,cG];exact congrArg (λz=>some (EV.fv (.int z))) (ya 1000003 b).symm
theorem sX{n m:Nat}(h:c<=a)(e:rb (a+n) m=true):c+n<=m:=ak (iu h n) (av e)
theorem ce{n m:Nat}(e:rb n m=true):c+n<=c+m:=cq (av e) c
theorem dj{m:Nat}(h:W c wl)(hc:c<=900000)(hm:0<m)(ZY:m<2^128):∃f w',f<m/\W (c+1) w'/\∀k,au N (k+1) (.obj 678) [.fv .well,.fv (nI m)] wl=some (nI f,w'):=by
 (refine gf h ?_;clear h;intro a b q1;subst q1;intro hb)
 have rest:∀(a' b' k:Nat),hX (au N k) N (.cons (.assign 2 (.bin .Mod (.idx (.var 0) (.lit (.int 0))) (.var 1))) (.cons (.fV (.v 0) (.lit (.int 0)) (.bin .FloorDiv (.idx (.var 0) (.lit (.int 0))) (.var 1))) (.cons (.ret (.var 2)) .nil))) ([.val .well,.val (nI m),.unset],some [nI a',nI b'])=
  some (.ret (nI (a'%m)),[.val .well,.val (nI m),.val (nI (a'%m))],some [nI (a'/m),nI b']):=λa' b' k=>
  ao (aZ (dh rfl rfl (Dt hm)) rfl)<|ao (Ez (n:=0) (xs:=[nI a',nI b']) (dh rfl rfl (Eb hm ZY)) rfl rfl ⟨by simp,by decide⟩)<|br (bY rfl)
 by_cases h0:a=0
 . subst h0
   refine⟨1000003^(7+(b+1))%m,some [nI (1000003^(7+(b+1))/m),nI (b+1)],tC _ hm,⟨_,_,rfl,cB hb⟩,λk=>cK rfl ?_⟩;exact bt rfl rfl<|ao (cz (gI rfl rfl rfl) (ao (Ez (n:=1) (xs:=[nI 0,nI b]) (d:=nI (b+1)) (dh rfl rfl rfl) rfl rfl ⟨by simp,by decide⟩)<|ao (Ez (n:=0) (xs:=[nI 0,nI (b+1)]) (dh rfl (dh (y:=.fv (nI (b+1))) (r:=.fv (nI (7+(b+1)))) rfl rfl rfl) (Sm (by lia))) rfl rfl ⟨by simp,by decide⟩) aY)) (rest _ _ _)
 . refine⟨a%m,some [nI (a/m),nI b],tC _ hm,⟨_,_,rfl,j0 hb⟩,λk=>cK rfl ?_⟩
   exact bt rfl rfl<|ao (bl (gI (x:=a) (y:=0) (by rw[beq_eq_false_iff_ne];lia) rfl rfl) aY) (rest _ _ _)
theorem call_of(h:W c wl)(hc:c<=900000)(h0:0<xs.length)(h1:xs.length<1000):∃d w',d∈xs/\W (c+1) w'/\∀k,au N (k+2) (.obj 685) [.fv .well,.fv (.tup xs)] wl=some (d,w'):=by
 (refine cM (dj (N:=N) h hc h0 (dk h1 (by decide))) λf w' hf hw e=>?_)
 refine⟨xs[f],w',MV hf,hw,λk=>cK rfl ?_⟩;refine bt rfl rfl<|br<|bY<|de rfl (aG (ah rfl (ah (cI (r:=.fv (nI xs.length)) (ah rfl aE) ?_) aE)) (e k)) ?_
 . exact V4 (ak (bV h1) (by decide))
 . exact Wi.trans (Dg (aV hf) (dk (dk hf h1) (by decide)))
noncomputable def Y4(w:Nat)(s:Int):Int:=if(24:Int)-w<s then 24-(w:Int)else s
def RB(h w:Nat)(s:Int):Nat:=(8*h+23-Y4 w s).toNat
theorem N3:((ae 62).all λh=>(ae 9).all λw=>(ae 17).all λ(s:Nat)=>decide (RB h w s<512/\w<=RB h w s+1/\Y4 w s-8*h-24=jb (RB h w s)))=true:=by kernel_rfl
theorem Dq{h w:Nat}{s:Int}(hh:h<62)(hw:w<=8)(h1:0<=s)(h2:s<=16):RB h w s<512/\w<=RB h w s+1/\Y4 w s-8*h-24=jb (RB h w s):=
 xE (gm h1) λn e=>by
  subst e;exact of_decide_eq_true (aL.mp (aL.mp (aL.mp N3 h (aC.mpr hh)) w (aC.mpr (d5 hw))) n (aC.mpr (d5 (uw.mp h2))))
theorem B'{h w:Nat}(hW:W c wl)(hc:c<=900000)(hh:h<62)(hw:0<w)(MF:w<=8):∃x w',x<512/\w<=x+1/\W (c+1) w'/\∀k,au N (k+3) (.obj 692) [.fv .well,.fv (nI h),.fv (nI w)] wl=some (.int (jb x),w'):=by
 (refine cM (call_of (N:=N) (xs:=[.int 4,.int 8,.int 0,.int 12,.int 16,.int 7,.int 8,.int 1,.int 13,.int 0,.int (-512),.int (-1)]) hW hc (by decide) (by decide)) λd w' hd QM e=>?_)
 have hs:∃s:Int,d=.int s/\(s= -512\/s= -1\/(0<=s/\s<=16)):=by
  simp only[a6,a8,or_false]at hd;rcases hd with rfl|rfl|rfl|rfl|rfl|rfl|rfl|rfl|rfl|rfl|rfl|rfl<;>exact⟨_,rfl,by decide⟩
 (refine bS hs ?_;clear hs;intro s q2;subst q2;intro hs)
 rcases hs with rfl|rfl|⟨h1,h2⟩
 . exact⟨511,w',by decide,ak MF (by decide),QM,λk=>cK rfl<|bt rfl rfl<|ao (aZ (aG (ah rfl (ah rfl aE)) (e k)) rfl)<|br (cz (gI rfl rfl rfl) (br (bY rfl)))⟩
 . refine⟨w-1,w',aQ (pd _ _) (aQ MF (by decide)),bh (mz hw).symm,QM,λk=>cK rfl<|bt rfl rfl<|ao (aZ (aG (ah rfl (ah rfl aE)) (e k)) rfl)<|ao (bl (gI rfl rfl rfl) aY)<|br (bY (qU (tj rfl rfl rfl) ?_))⟩
   show some (EV.fv (.int (-(w:Int))),w')=_;rw[show jb (w-1)= -(w:Int)by unfold jb;lia]
 . refine⟨RB h w s,w',(Dq hh MF h1 h2).1,(Dq hh MF h1 h2).2.1,QM,λk=>cK rfl<|bt rfl rfl<|ao (aZ (aG (ah rfl (ah rfl aE)) (e k)) rfl)<|ao (bl (gI (x:=s) (y:= -512) (by rw[beq_eq_false_iff_ne];exactλc=>absurd (c▸h1) (by decide)) rfl rfl) aY)<|br (bY (pq (tj (x:=s) (y:=0) (decide_eq_false (pj.mpr h1)) rfl rfl) ?_))⟩
   have m:i9 .Mult (.fv (.int 8)) (.fv (nI h))=some (.fv (.int (8*(h:Int)))):=rfl;refine(dh (dh rfl (dh rfl rfl m) rfl) rfl rfl).trans ?_
   show some (EV.fv (.int ((if(24:Int)-w<s then 24-(w:Int)else s)-8*h-24)),w')=_;exact congrArg (λz=>some (EV.fv (.int z),w')) (Dq hh MF h1 h2).2.2
theorem Jj(x w:Nat):((oct x w).map FV.int).take 4=(oct x (min w 4)).map FV.int:=by
 unfold oct;exact eL Au<|eL Au<|eW List.take_range<|eW (Nat.min_comm ..) rfl
theorem uz{w:Nat}(h:w=8\/w=4\/w=2\/w=1):0<w/\w<=8:=by rcases h with q|q|q|q<;>refine eW q ?_<;>decide
theorem Fx(C:my)(h:ev C e fr wl=some (.fv d,wl))(hi:items (.fv d)=some vs):ev C (.bj .list false (.cons e .nil)) fr wl=some (.fv (.list vs),wl):=by
 refine cI (ah h aE) ?_
 show(listItems (.fv d)).map _=_;rw[show listItems (.fv d)=items (.fv d)by induction d using FV.casesOn<;>rfl,hi];rfl
noncomputable def bodyOf(f:bw):IB:=match f.body with
 |.stmts b=>b
 |.expr _=>.nil
noncomputable def lZ:Nat->IB->IB
 |0,b=>b
 |n+1,.cons _ r=>lZ n r
 |_+1,.nil=>.nil
theorem Q8{a b:IE}{x y:Nat}(h1:ev C a fr wl=some (.fv (nI x),wl))(h2:ev C b fr wl=some (.fv (nI y),wl)):eK C (.cmp .Eq a b) fr wl=some (decide (x=y),wl):=gI (by rw[cR,beq_iff_eq,decide_eq_true_iff];exact jh) h1 h2
theorem Gk{a b:IE}{x y:Nat}(h1:ev C a fr wl=some (.fv (nI x),wl))(h2:ev C b fr wl=some (.fv (nI y),wl)):eK C (.cmp .Lt a b) fr wl=some (decide (x<y),wl):=tj (decide_eq_decide.mpr dn) h1 h2
abbrev xB(b x w:Nat):List Int:=if b=10 then oct x w else[]
def TFr(h way b one w x:Nat)(s8 s9 Sb:Slot):List Slot:=[.val .well,.val (nI h),.val (nI way),.val (nI b),.val (nI one),.val (nI w),.val (.int (jb x)),.val (.list ((xB b x w).map .int)),s8,s9,Sb]
def T4(N c:Nat)(wl:WL)(h way b one w x:Nat):Prop:=∃r w',Row.Ok N r/\r.fM=false/\r.w=0/\W c w'/\∃cH,∀k,hX (au N (k+3)) N (lZ 4 (bodyOf rH)) (TFr h way b one w x .unset .unset .unset,wl)=some (.ret r.fv,cH,w')
section
variable {h way one w x:Nat}(hW:W c wl)(jc:one<10)(hb:b<16)(hx:x<512)(r9:w<=x+1)(hw:w=8\/w=4\/w=2\/w=1)
include hW jc hb hx r9 hw
theorem four{l:List (Nat×Int)}(h:∃a b c d,l=[(8,a),(4,b),(2,c),(1,d)]):∃cd,(w,cd)∈l:=jG h λa b c d e=>e▸hw.elim (λq=>⟨a,q▸.head _⟩) λhw=>hw.elim (λq=>⟨b,q▸.tail _ (.head _)⟩) λhw=>hw.elim (λq=>⟨c,q▸.tail _ (.tail _ (.head _))⟩) λq=>⟨d,q▸.tail _ (.tail _ (.tail _ (.head _)))⟩
theorem Jh(h1:way<2):T4 N c wl h way b one w x:=xE (four hW jc hb hx r9 hw (l:=ldC false) ⟨_,_,_,_,rfl⟩) λcd CA=>
 ⟨_,_,A9 CA jc hb hx r9,rfl,rfl,hW,_,λk=>br (cz (tj (x:=way) (y:=2) (decide_eq_true (dn.mpr h1)) rfl rfl) (ao rfl (br (bY rfl))))⟩
theorem Je:T4 N c wl h 2 b one w x:=xE (four hW jc hb hx r9 hw (l:=ldC true) ⟨_,_,_,_,rfl⟩) λcd CA=>by
 have es:∀(C:my)(fr:List Slot),ev C (.var 7) fr wl=some (.fv (.list ((xB b x w).map .int)),wl)->ev C (.xw (.var 7) (.lit .none) (.lit (.int 4))) fr wl=some (.fv (.list ((xB b x (min w 4)).map .int)),wl):=λC fr v=>by
  refine Mx v rfl rfl ?_
  show(if cc ((xB b x w).map FV.int).length=true then some (EV.fv (.list (((xB b x w).map FV.int).take 4)))else ab)=_;rw[if_pos (show cc _=true from decide_eq_true (by rw[aj];exact ll (vy (p:=b=10) (sr hx r9 (uz hw).2)).1 rfl))];unfold xB;split
  . exact eW (Jj ..) rfl
  . rfl
 exact⟨_,_,A9 CA jc hb hx r9,rfl,rfl,hW,_,λk=>ao (bl (tj rfl rfl rfl) aY) (br (cz (gI rfl rfl rfl) (ao rfl (br (bY (iG (ah rfl (ah rfl (ah rfl (ah rfl (ah (es _ _ rfl) (ah rfl (ah rfl aE))))))) (by rfl)))))))⟩
theorem Jf(h1:2<way)(h2:way<5):T4 N c wl h way b one w x:=xE (four hW jc hb hx r9 hw (l:=stC) ⟨_,_,_,_,rfl⟩) λcd CA=>
 ⟨_,_,G8 CA hb jc hx r9,rfl,rfl,hW,_,λk=>ao (bl (tj (x:=way) (y:=2) (decide_eq_false (by lia)) rfl rfl) aY)<|ao (bl (gI (x:=way) (y:=2) (by rw[beq_eq_false_iff_ne];lia) rfl rfl) aY)<|br (cz (tj (x:=way) (y:=5) (decide_eq_true (dn.mpr h2)) rfl rfl) (ao rfl (br (bY rfl))))⟩
theorem Jg:T4 N c wl h 5 b one w x:=xE (four hW jc hb hx r9 hw (l:=Uq) ⟨_,_,_,_,rfl⟩) λcd CA=>
 ⟨_,_,Dc CA hb hx r9,rfl,rfl,hW,[.val .well,.val (nI h),.val (nI 5),.ro (nI b),.val (nI one),.ro (nI w),.ro (.int (jb x)),.val (.list ((xB b x w).map .int)),.unset,.unset,.unset],λk=>rfl⟩
theorem rl{w6:WL}{cd:Int}{t:Int×bB×Bool×Bool}{m:Int}(h1:5<way)(CA:(w,cd)∈PW)(W6:W c w6)(e6:∀k,au N (k+2) (.obj 685) [.fv .well,.fv (.tup [.tup [.str (aa "add"),.int (-1)],.tup [.str (aa "fetch_or"),nI one],.tup [.str (aa "cmpxchg"),.int 0],.tup [.str (aa "xchg"),nI one]])] wl=some (.tup [.str t.2.1,.int m],w6))(ht:t∈wF)
 (ha:∀C,ev C (.ite (.cmp .Eq (.var 8) (.lit (.str (aa "cmpxchg")))) (.lst false (.cons (.var 3) (.cons (.var 4) (.cons (.lit (.int 0)) .nil)))) (.lst false (.cons (.var 3) (.cons (.var 4) .nil)))) (TFr h way b one w x (.val (.str t.2.1)) (.val (.int m)) .unset) w6=some (.fv (nL (Fc cd t b one x w).asks),w6))
 (hl:∀C fr,ev C (.var 9) fr w6=some (.fv (.int m),w6)->ev C (.ite (.cmp .Lt (.var 9) (.lit (.int 0))) (.lst false .nil) (.lst false (.cons (.var 9) .nil))) fr w6=some (.fv (nL (Fc cd t b one x w).gu),w6)):T4 N c wl h way b one w x:=by
 refine⟨_,_,JR CA ht hb jc hx r9,rfl,rfl,W6,[.val .well,.val (nI h),.val (nI way),.ro (nI b),.ro (nI one),.ro (nI w),.ro (.int (jb x)),.val (.list ((xB b x w).map .int)),.ro (.str t.2.1),.val (.int m),.val (nL (Fc cd t b one x w).asks)],λk=>ao (bl (tj (x:=way) (y:=2) (decide_eq_false (by lia)) rfl rfl) aY)<|ao (bl (gI (x:=way) (y:=2) (by rw[beq_eq_false_iff_ne];lia) rfl rfl) aY)<|ao (bl (tj (x:=way) (y:=5) (decide_eq_false (by lia)) rfl rfl) aY)<|ao (bl (gI (x:=way) (y:=5) (by rw[beq_eq_false_iff_ne];lia) rfl rfl) aY)<|
  ao (w_ (aG (ah rfl (ah rfl aE)) (e6 _)) rfl)<|ao (aZ (ha _) rfl)<|ao rfl<|br (bY ?_)⟩
 exact iG (ah rfl (ah rfl (ah rfl (ah (hl _ _ rfl) (ah rfl (ah rfl (ah rfl aE))))))) (by rfl)
omit hW jc hb hx r9 hw in
theorem uH{m:Int}{q:Bool}(hq:decide (m<0)=q)(v:ev C (.var 9) fr wl=some (.fv (.int m),wl)):ev C (.ite (.cmp .Lt (.var 9) (.lit (.int 0))) (.lst false .nil) (.lst false (.cons (.var 9) .nil))) fr wl=some (.fv (.list (if q then[]else[.int m])),wl):=
 q.casesOn (motive:=λq=>decide (m<0)=q->ev C (.ite (.cmp .Lt (.var 9) (.lit (.int 0))) (.lst false .nil) (.lst false (.cons (.var 9) .nil))) fr wl=some (.fv (.list (if q then[]else[.int m])),wl)) (λhq=>pq (tj hq v rfl) (y6 (own:=false) (ah v aE) rfl)) (λhq=>qU (tj hq v rfl) rfl) hq
theorem Ji(h1:5<way)(ZJ:w=8\/w=4)(hc:c<=900000):T4 N (c+1) wl h way b one w x:=by
 have CA:∃cd,(w,cd)∈PW:=ZJ.elim (λq=>⟨219,q▸.head _⟩) λq=>⟨195,q▸.tail _ (.head _)⟩
 have hn:decide ((one:Int)<0)=false:=decide_eq_false (pj.mpr (bI one));refine xE CA λcd CA=>cM (call_of (N:=N) (xs:=[.tup [.str (aa "add"),.int (-1)],.tup [.str (aa "fetch_or"),nI one],.tup [.str (aa "cmpxchg"),.int 0],.tup [.str (aa "xchg"),nI one]]) hW hc (av rfl) (av rfl)) λd w6 hd W6 e6=>?_
 have QM:=hW.le (iq c);refine(a6.mp hd).elim (λe=>?_) λhd=>(a6.mp hd).elim (λe=>?_) λhd=>(a6.mp hd).elim (λe=>?_) λhd=>?_
 . subst e;exact rl QM jc hb hx r9 hw (t:=(0,aa "add",false,false)) (m:= -1) h1 CA W6 e6 (aF (i:=0) rfl) (λC=>rfl) λC fr h=>uH (q:=true) rfl h
 . subst e;exact rl QM jc hb hx r9 hw (t:=(65,aa "fetch_or",false,true)) (m:=one) h1 CA W6 e6 (aF (i:=1) rfl) (λC=>rfl) λC fr h=>uH (q:=false) hn h
 . subst e;exact rl QM jc hb hx r9 hw (t:=(241,aa "cmpxchg",true,false)) (m:=0) h1 CA W6 e6 (aF (i:=2) rfl) (λC=>rfl) λC fr h=>uH (q:=false) rfl h
 . have e:=aH.mp hd
   subst e;exact rl QM jc hb hx r9 hw (t:=(225,aa "xchg",false,true)) (m:=one) h1 CA W6 e6 (aF (i:=3) rfl) (λC=>rfl) λC fr h=>uH (q:=false) hn h
end
theorem Nf{way w0:Nat}(HI:w0=8\/w0=4\/w0=2\/w0=1):∃w:Nat,(w=8\/w=4\/w=2\/w=1)/\(5<way->w=8\/w=4)/\∀C h b one wl,ex C N (.ite (.cmp .Gt (.var 2) (.lit (.int 5))) (.cons (.assign 5 (.bj .max false (.cons (.var 5) (.cons (.lit (.int 4)) .nil)))) .nil) .nil) ([.val .well,.val (nI h),.val (nI way),.val (nI b),.val (nI one),.val (nI w0),.unset,.unset,.unset,.unset,.unset],wl)=
 some (.next,[.val .well,.val (nI h),.val (nI way),.val (nI b),.val (nI one),.val (nI w),.unset,.unset,.unset,.unset,.unset],wl):=by
 by_cases h5:5<way
 . refine⟨if w0<4 then 4 else w0,?_,λ_=>?_,λC h b one wl=>cz (Ih (x:=way) (y:=5) (decide_eq_true (dn.mpr h5)) rfl rfl) ?_⟩<;>rcases HI with rfl|rfl|rfl|rfl<;>first|rfl|decide
 . exact⟨w0,HI,λq=>absurd q h5,λC h b one wl=>bl (Ih (x:=way) (y:=5) (decide_eq_false λq=>h5 (dn.mp q)) rfl rfl) aY⟩
theorem Ej{h:Nat}(hW:W c wl)(hc:c<=800000)(hh:h<62):∃r w',Row.Ok N r/\r.fM=false/\r.w=0/\W (c+10) w'/\∀k,au N (k+4) (.obj 699) [.fv .well,.fv (nI h)] wl=some (r.fv,w'):=
 cM (dj (N:=N) (m:=8) hW (sX (c:=c) (n:=0) hc rfl) (by decide) (by decide)) λway w1 OU W1 e1=>
 cM (call_of (N:=N) (xs:=[.int 10,.int 10,.int 7,.int 10]) W1 (sX (c:=c) (n:=1) hc rfl) (by decide) (by decide)) λd2 w2 hd2 W2 e2=>
 cM (dj (N:=N) (m:=10) W2 (sX (c:=c) (n:=2) hc rfl) (by decide) (by decide)) λone w3 jc W3 e3=>
 cM (call_of (N:=N) (xs:=[.int 8,.int 4,.int 8,.int 2,.int 1]) W3 (sX (c:=c) (n:=3) hc rfl) (by decide) (by decide)) λd4 w4 hd4 W4 e4=>
 bS (bO.mp (show d2∈[10,10,7,10].map nI from hd2)) λb hb q2=>bS (bO.mp (show d4∈[8,4,8,2,1].map nI from hd4)) λw0 HI q4=>
 have hb:=(by decide:∀b∈[10,10,7,10],b<16) b hb
 have HI:=(by decide:∀w∈[8,4,8,2,1],w=8\/w=4\/w=2\/w=1) w0 HI
 dU (Nf (N:=N) (way:=way) HI) λw hw ZJ ew=>
 iR (B' (N:=N) W4 (sX (c:=c) (n:=4) hc rfl) hh (uz hw).1 (uz hw).2) λx w5 hx r9 W5 e5=>by
  subst q2 q4
  have W5':=W5.le (ce (c:=c) (n:=5) (m:=9) rfl)
  have t:T4 N (c+9+1) w5 h way b one w x:=by
   have W6:=W5'.le (iq _);rcases(show way<2\/way=2\/(2<way/\way<5)\/way=5\/5<way from(g8 way 2).elim .inl λq=>.inr (q.elim .inl λq=>.inr ((g8 way 5).elim (λr=>.inl ⟨q,r⟩) .inr)))with h1|rfl|⟨h1,CB⟩|rfl|h1
   . exact Jh W6 jc hb hx r9 hw h1
   . exact Je W6 jc hb hx r9 hw
   . exact Jf W6 jc hb hx r9 hw h1 CB
   . exact Jg W6 jc hb hx r9 hw
   . exact Ji W5' jc hb hx r9 hw h1 (ZJ h1) (by lia)
  refine iI t λr w' a1 a2 a3 a4 q=>xE q λcH e=>⟨r,w',a1,a2,a3,a4,λk=>cK rfl (bt rfl rfl (ao (gk (xs:=[.fv (nI way),.fv (nI b),.fv (nI one),.fv (nI w0)]) (ah (aG (ah rfl (ah rfl aE)) (e1 _)) (ah (aG (ah rfl (ah rfl aE)) (e2 _)) (ah (aG (ah rfl (ah rfl aE)) (e3 _)) (ah (aG (ah rfl (ah rfl aE)) (e4 _)) aE)))) rfl)<|ao (ew _ _ _ _ _)<|ao (aZ (aG (ah rfl (ah rfl (ah rfl aE))) (e5 k)) rfl)<|ao (aZ (d:=.list ((xB b x w).map .int)) ?_ rfl) (e k)))⟩;unfold xB;refine Cv (gI (x:=b) (y:=10) (r:=decide (b=10)) (by rw[cR,beq_iff_eq,decide_eq_true_iff];lia) rfl rfl) (λq=>?_) (λq=>?_)
  . exact eW (if_pos (of_decide_eq_true q))<|Fx _ rfl (HA (by lia) (uz hw).2)
  . exact eW (if_neg (of_decide_eq_false q)) rfl
theorem or5:∀n,n<5->n=0\/n=1\/n=2\/n=3\/n=4:=by decide
theorem or7:∀n,n<7->n=0\/n=1\/n=2\/n=3\/n=4\/n=5\/n=6:=by decide
theorem call_plain(hW:W c wl)(hc:c<=800000):∃r w',Row.Ok N r/\r.fM=false/\r.w<=1/\W (c+10) w'/\∀k,au N (k+4) (.obj 706) [.fv .well] wl=some (r.fv,w'):=by
 refine cps λGz kz=>?_
 (refine cM (dj (N:=N) (m:=5) hW (sX (c:=c) (n:=0) hc rfl) (by decide) (by decide)) λway w1 OU W1 e1=>?_)
 (refine cM (dj (N:=N) (m:=10) W1 (sX (c:=c) (n:=1) hc rfl) (by decide) (by decide)) λone w2 jc W2 e2=>?_)
 (refine cM (dj (N:=N) (m:=10) W2 (sX (c:=c) (n:=2) hc rfl) (by decide) (by decide)) λMC w3 Wv W3 e3=>?_)
 refine kz ?_
 suffices hs:∃r w',Row.Ok N r/\r.fM=false/\r.w<=1/\W (c+10) w'/\∃cH,∀k,hX (au N (k+3)) N (lZ 1 (bodyOf rI)) ([.val .well,.val (nI way),.val (nI one),.val (nI MC),.unset,.unset,.unset],w3)=some (.ret r.fv,cH,w')by
  (refine iI hs ?_;clear hs;intro r w' a1 a2 a3 a4 q1;refine xE q1 ?_;clear q1;intro cH e)
  exact⟨r,w',a1,a2,a3,a4,λk=>cK rfl (bt rfl rfl (ao (gk (xs:=[.fv (nI way),.fv (nI one),.fv (nI MC)]) (ah (aG (ah rfl (ah rfl aE)) (e1 _)) (ah (aG (ah rfl (ah rfl aE)) (e2 _)) (ah (aG (ah rfl (ah rfl aE)) (e3 _)) aE))) rfl) (e k)))⟩
 clear e1 e2 e3
 have KQ:way=0\/way=1\/way=2\/way=3\/way=4:=or5 _ OU;rcases KQ with rfl|rfl|rfl|rfl|rfl
 . (refine cM (call_of (N:=N) (xs:=[.tup [.int 7,.int 0],.tup [.int 87,.int 3],.tup [.int 2,.int 4],.tup [.int 132,.int 2],.tup [.int 131,.int 3],.tup [.int 89,.int 2]]) W3 (sX (c:=c) (n:=3) hc rfl) (by decide) (by decide)) λd w4 hd W4 e4=>?_)
   refine bS (bO.mp (show d∈n5.map λt=>FV.tup [nI t.1,nI t.2]from hd)) λt ht q2=>?_;subst q2
   have KW:t.2<=100:=(by decide:∀t∈n5,t.2<=100) t ht
   have i1:items (.fv (.range 1 ((t.2:Int)+1) 1))=some (((ae t.2).map (1+·)).map nI):=by
    exact eW bG<|rB (a:=1) (b:=t.2+1) (by lia) (by lia)
   exact⟨_,_,JQ ht,rfl,aU _,W4.le (ce (c:=c) (n:=4) rfl),[.val .well,.val (nI 0),.val (nI one),.val (nI MC),.ro (nI t.1),.val (nI t.2),.unset],λk=>br (cz (gI rfl rfl rfl) (ao (w_ (aG (ah rfl (ah rfl aE)) (e4 _)) rfl) (ao rfl (br (bY (iG (ah rfl (ah rfl (ah (Fx _ rfl i1) (ah rfl (ah rfl (ah rfl (ah rfl aE))))))) (by rfl)))))))⟩
 . obtain⟨jX,w4,-,W4,e4⟩:=dj (N:=N) (m:=12) W3 (sX (c:=c) (n:=3) hc rfl) (by decide) (by decide)
   exact⟨_,_,NH (jX:=jX) jc Wv,rfl,aT _,W4.le (ce (c:=c) (n:=4) rfl),_,λk=>ao (bl (gI rfl rfl rfl) aY)<|br (cz (gI rfl rfl rfl) (ao rfl (br (bY (iG (ah rfl (ah rfl (ah rfl (ah rfl (ah rfl (ah rfl (ah (aG (ah rfl (ah rfl aE)) (e4 _)) aE))))))) (by rfl))))))⟩
 . obtain⟨jX,w4,-,W4,e4⟩:=dj (N:=N) (m:=12) W3 (sX (c:=c) (n:=3) hc rfl) (by decide) (by decide)
   exact⟨_,_,NI (jX:=jX) jc,rfl,aT _,W4.le (ce (c:=c) (n:=4) rfl),_,λk=>ao (bl (gI rfl rfl rfl) aY)<|ao (bl (gI rfl rfl rfl) aY)<|br (cz (gI rfl rfl rfl) (ao rfl (br (bY (iG (ah rfl (ah rfl (ah rfl (ah rfl (ah rfl (ah rfl (ah (aG (ah rfl (ah rfl aE)) (e4 _)) aE))))))) (by rfl))))))⟩
 . exact⟨_,_,JM jc,rfl,aU _,W3.le (ce (c:=c) (n:=3) rfl),[.val .well,.val (nI 3),.ro (nI one),.val (nI MC),.unset,.unset,.unset],λk=>rfl⟩
 . (refine cM (call_of (N:=N) (xs:=[.str (aa "add"),.str (aa "mov"),.str (aa "xor")]) W3 (sX (c:=c) (n:=3) hc rfl) (by decide) (by decide)) λd w4 hd W4 e4=>?_)
   refine bS (bO.mp (show d∈(ui.take 3).map λt=>FV.str t.2.1 from hd)) λt ht q3=>?_;subst q3
   have hm:=(by decide+kernel:∀t∈ui.take 3,(t.2.1==aa "mov")=t.2.2.1) t ht;refine⟨_,_,NM ht jc Wv,rfl,aU _,W4.le (ce (c:=c) (n:=4) rfl),[.val .well,.val (nI 4),.ro (nI one),.ro (nI MC),.unset,.unset,.ro (.str t.2.1)],λk=>ao (bl (gI rfl rfl rfl) aY)<|ao (bl (gI rfl rfl rfl) aY)<|ao (bl (gI rfl rfl rfl) aY)<|ao (bl (gI rfl rfl rfl) aY)<|
    ao (aZ (aG (ah rfl (ah rfl aE)) (e4 _)) rfl)<|ao rfl<|br (bY (iG (ah rfl (ah rfl (ah (x:=.fv (nL (JS t one MC).asks)) (Cv (mU hm rfl rfl) (λq=>?_) (λq=>?_)) (ah rfl (ah rfl (ah rfl (ah rfl aE))))))) (by rfl)))⟩
   . show _=some (EV.fv (nL (if t.2.2.1=true then[MC]else[one,MC])),w4)
     exact eW q rfl
   . show _=some (EV.fv (nL (if t.2.2.1=true then[MC]else[one,MC])),w4)
     exact eW q rfl
theorem En{h:Nat}(hW:W c wl)(hc:c<=800000)(hh:h<62):∃r w',Row.Ok N r/\r.fM=true/\r.w<=1/\W (c+10) w'/\∀k,au N (k+4) (.obj 713) [.fv .well,.fv (nI h)] wl=some (r.fv,w'):=by
 refine cps λGz kz=>?_
 (refine cM (dj (N:=N) (m:=7) hW (sX (c:=c) (n:=0) hc rfl) (by decide) (by decide)) λway w1 OU W1 e1=>?_)
 (refine cM (dj (N:=N) (m:=10) W1 (sX (c:=c) (n:=1) hc rfl) (by decide) (by decide)) λone w2 jc W2 e2=>?_)
 (refine cM (call_of (N:=N) (xs:=[.int 7,.int 10]) W2 (sX (c:=c) (n:=2) hc rfl) (by decide) (by decide)) λd3 w3 hd3 W3 e3=>?_)
 refine bS (bO.mp (show d3∈[7,10].map nI from hd3)) λb hb q4=>?_;subst q4;replace hb:=(by decide:∀b∈[7,10],b<16) b hb
 (refine iR (B' (N:=N) (w:=8) W3 (sX (c:=c) (n:=3) hc rfl) hh (by decide) (by decide)) λx w4 hx r9 W4 e4=>?_)
 refine kz ?_
 suffices hs:∃r w',Row.Ok N r/\r.fM=true/\r.w<=1/\W (c+10) w'/\∃cH,∀k,hX (au N (k+3)) N (lZ 1 (bodyOf rJ)) ([.val .well,.val (nI h),.val (nI way),.val (nI one),.val (nI b),.val (.int (jb x))],w4)=some (.ret r.fv,cH,w')by
  (refine iI hs ?_;clear hs;intro r w' a1 a2 a3 a4 q5;refine xE q5 ?_;clear q5;intro cH e)
  exact⟨r,w',a1,a2,a3,a4,λk=>cK rfl (bt rfl rfl (ao (gk (xs:=[.fv (nI way),.fv (nI one),.fv (nI b),.fv (.int (jb x))]) (ah (aG (ah rfl (ah rfl aE)) (e1 _)) (ah (aG (ah rfl (ah rfl aE)) (e2 _)) (ah (aG (ah rfl (ah rfl aE)) (e3 _)) (ah (aG (ah rfl (ah rfl (ah rfl aE))) (e4 _)) aE)))) rfl) (e k)))⟩
 clear e1 e2 e3 e4;obtain⟨jX,w5,-,W5,e5⟩:=dj (N:=N) (m:=12) W4 (sX (c:=c) (n:=4) hc rfl) (by decide) (by decide)
 have KQ:way=0\/way=1\/way=2\/way=3\/way=4\/way=5\/way=6:=or7 _ OU;rcases KQ with rfl|rfl|rfl|rfl|rfl|rfl|rfl
 . exact⟨_,_,JT jc,rfl,aU _,W4.le (ce (c:=c) (n:=4) rfl),[.val .well,.val (nI h),.val (nI 0),.ro (nI one),.val (nI b),.val (.int (jb x))],λk=>rfl⟩
 . exact⟨_,_,NL (jX:=jX) jc,rfl,aT _,W5.le (ce (c:=c) (n:=5) rfl),_,λk=>ao (bl (gI rfl rfl rfl) aY)<|br (cz (gI rfl rfl rfl) (ao rfl (br (bY (iG (ah rfl (ah rfl (ah rfl (ah rfl (ah rfl (ah rfl (ah (aG (ah rfl (ah rfl aE)) (e5 _)) aE))))))) (by rfl))))))⟩
 . exact⟨_,_,NK (jX:=jX) jc,rfl,aT _,W5.le (ce (c:=c) (n:=5) rfl),_,λk=>ao (bl (gI rfl rfl rfl) aY)<|ao (bl (gI rfl rfl rfl) aY)<|br (cz (gI rfl rfl rfl) (ao rfl (br (bY (iG (ah rfl (ah rfl (ah rfl (ah rfl (ah rfl (ah rfl (ah (aG (ah rfl (ah rfl aE)) (e5 _)) aE))))))) (by rfl))))))⟩
 . exact⟨_,_,NJ (jX:=jX),rfl,aT _,W5.le (ce (c:=c) (n:=5) rfl),_,λk=>ao (bl (gI rfl rfl rfl) aY)<|ao (bl (gI rfl rfl rfl) aY)<|ao (bl (gI rfl rfl rfl) aY)<|br (cz (gI rfl rfl rfl) (br (bY (iG (ah rfl (ah rfl (ah rfl (ah rfl (ah rfl (ah rfl (ah (aG (ah rfl (ah rfl aE)) (e5 _)) aE))))))) (by rfl)))))⟩
 . exact⟨_,_,C' hb hx r9,rfl,aU _,W4.le (ce (c:=c) (n:=4) rfl),[.val .well,.val (nI h),.val (nI 4),.val (nI one),.ro (nI b),.ro (.int (jb x))],λk=>rfl⟩
 . exact⟨_,_,G_ hb hx r9,rfl,aU _,W4.le (ce (c:=c) (n:=4) rfl),[.val .well,.val (nI h),.val (nI 5),.val (nI one),.ro (nI b),.ro (.int (jb x))],λk=>rfl⟩
 . exact⟨_,_,JL jc,rfl,aU _,W4.le (ce (c:=c) (n:=4) rfl),[.val .well,.val (nI h),.val (nI 6),.ro (nI one),.val (nI b),.val (.int (jb x))],λk=>rfl⟩
noncomputable def o5:Nat->IB->IS
 |0,.cons s _=>s
 |n+1,.cons _ r=>o5 n r
 |_,.nil=>.cont
noncomputable def bR:IB->IB
 |.cons (.for _ _ b) _=>b
 |.cons _ r=>bR r
 |.nil=>.nil
structure mv(N:Nat)(R:List Row)(loose hJ:Bool):Prop where
 ok:∀r∈R,r.Ok N
 len:R.length<=10
 last:∃L,R=L++[oQ]/\∀r∈L,r.w≠3
 calls:R.countP (λr=>r.w==4)=if hJ then 1 else 0
 fM:R.any (λr=>r.fM)=loose
 reach:∀p r,R[p]?=some r->r.w=2->∃j r',R[j]?=some r'/\r'.w=1/\r'.jX%R.length=p+1/\j<p
structure Found(N:Nat)(L:List Row)(n c:Nat)(lk:Bool):Prop where
 ok:∀r∈L,r.Ok N/\r.w≠3
 len:L.length<=2*n+c
 calls:L.countP (λr=>r.w==4)=c
 fM:L.any (λr=>r.fM)=lk
 reach:∀p r,L[p]?=some r->r.w=2->∃j r',L[j]?=some r'/\r'.w=1/\r'.jX=p+1/\j<p
theorem Jn{L:List Row}{x:Row}(hx:x∈L++[r])(k:x∈L->P)(l:x=r->P):P:=(cp.mp hx).elim k λq=>l (aH.mp q)
theorem vo{L:List Row}{Q:Nat->Row->Prop}(h:∀p x,L[p]?=some x->x.w=2->∃j r',L[j]?=some r'/\r'.w=1/\Q p r'/\j<p)(hj:r.w=2->∃j r',L[j]?=some r'/\r'.w=1/\Q L.length r'/\j<L.length):
 ∀p x,(L++[r])[p]?=some x->x.w=2->∃j r',(L++[r])[j]?=some r'/\r'.w=1/\Q p r'/\j<p:=λp x hp h2=>
 have up:∀{j:Nat}{r':Row},L[j]?=some r'->(L++[r])[j]?=some r':=λe=>(ek (fB e)).trans e
 uN hp (λe=>iR (h p x e h2) λj r' e a1 a2 a3=>⟨j,r',up e,a1,a2,a3⟩) λi e1 e2=>by
  have i0:i=0:=Nat.lt_one_iff.mp (fB e2);subst i0
  have e3:r=x:=ag e2;subst e3;exact eW e1<|iR (hj h2) λj r' e a1 a2 a3=>⟨j,r',up e,a1,a2,a3⟩
theorem Found.snoc{L:List Row}{n n' c':Nat}{lk lk':Bool}(h:Found N L n c lk)(hr:r.Ok N/\r.w≠3)(hl:L.length+1<=2*n'+c')(hc:c+(if(r.w==4)=true then 1 else 0)=c')(hk:(lk||r.fM)=lk')(hj:r.w=2->∃j r',L[j]?=some r'/\r'.w=1/\r'.jX=L.length+1/\j<L.length):Found N (L++[r]) n' c' lk' where
 ok _ hx:=Jn hx (h.ok _) λe=>e▸hr
 len:=ak (bh aI) hl
 calls:=IQ.trans ((congrArg (·+_) h.calls).trans ((congrArg (c+·) ((MX ..).trans (dZ _))).trans hc))
 fM:=Qc.trans ((congrArg (·||_) h.fM).trans ((congrArg (lk||·) (fP _)).trans hk))
 reach:=vo (Q:=λp r'=>r'.jX=p+1) h.reach hj
theorem Found.add{L:List Row}{n:Nat}{lk:Bool}(h:Found N L n c lk)(hr:r.Ok N)(h3:r.w<=1):Found N (L++[r]) (n+1) c (lk||r.fM):=
 h.snoc ⟨hr,λe=>absurd (e▸h3) (by decide)⟩ (by have:=h.len;lia) (by rw[show(r.w==4)=false from beq_eq_false_iff_ne.mpr λe=>absurd (e▸h3) (by decide)];rfl) rfl λe=>absurd (e▸h3) (by decide)
theorem Found.call{L:List Row}{n:Nat}{lk:Bool}(h:Found N L n 0 lk):Found N (L++[De]) n 1 lk:=
 h.snoc ⟨G9,(by decide:(4:Nat)≠3)⟩ (cB h.len) rfl (fP _) λe=>absurd e (by decide:(4:Nat)≠2)
theorem Found.ZA{L:List Row}{n:Nat}{HO lk:Bool}(h:Found N L n c lk):Found N (L++[Sj (L.length+2)]++[Fb HO jX]) (n+1) c lk:=
 have hl:=h.len
 have h1:Found N (L++[Sj (L.length+2)]) (n+1) c lk:=h.snoc ⟨Si,(by decide:(1:Nat)≠3)⟩ (by lia) rfl (fP _) λe=>absurd e (by decide:(1:Nat)≠2)
 have e1:(L++[Sj (L.length+2)]).length=L.length+1:=aI
 h1.snoc ⟨JO,(by decide:(2:Nat)≠3)⟩ (e1.symm▸(by lia)) rfl (fP _) λ_=>⟨L.length,Sj (L.length+2),List.getElem?_concat_length,rfl,(congrArg (·+1) e1).symm,jA (bg _) e1.symm⟩
theorem Found.part{L:List Row}{n:Nat}{lk hJ:Bool}(h:Found N L n c lk)(hn:n<=4)(hc:c=if hJ then 1 else 0):mv N (L++[oQ]) lk hJ:=
 have hl:L.length<=9:=ak h.len (j3 (i2 2 hn) (hc▸hJ.casesOn (motive:=λb=>(if b then 1 else 0)<=1) (aU _) (aT _)))
 have hL:(L++[oQ]).length=L.length+1:=aI
 {ok:=λx hx=>Jn hx (λq=>(h.ok x q).1) λe=>e▸JP
  len:=ak (bh hL) (cB hl)
  last:=⟨L,rfl,λr hr=>(h.ok r hr).2⟩
  calls:=IQ.trans (h.calls.trans hc)
  fM:=Qc.trans ((congrArg (·||_) h.fM).trans (fP _))
  reach:=vo (Q:=λp r'=>r'.jX%(L++[oQ]).length=p+1) (λp x hp h2=>iR (h.reach p x hp h2) λj r' e a1 a2 a3=>⟨j,r',e,a1,by exact eW a2<|eW hL<|Nat.mod_eq_of_lt (xk (fB hp)),a3⟩) λe=>absurd e (by decide:(3:Nat)≠2)}
abbrev dQ(L:List Row):List FV:=L.map Row.fv
def Cs(cb lb:Bool)(h m s g:Nat)(L:List Row)(y kd:Slot):List Slot:=[.val .well,.val (.bool cb),.val (nI h),.val (nI m),.val (.bool lb),.val (nI s),.val (nI g),.own (.ob (.list (dQ L))),y,kd]
theorem yn{L:List Row}:dQ (L++[r])=dQ L++[r.fv]:=bf
theorem yG{b:Bool}{g:Nat}(q:(b&&decide (i=g))=false):(b&&decide (g<i+1))=(b&&decide (g<i)):=by
 induction b using ax with
 |false=>rfl
 |true=>exact decide_eq_decide.mpr ⟨λh=>gL (mX h) λe=>of_decide_eq_false q e.symm,dm⟩
theorem uP{b:Bool}{g:Nat}(q:(b&&decide (i=g))=true):(b&&decide (g<i))=false/\(b&&decide (g<i+1))=true/\b=true:=an q λh1 h2=>by
 have e:=of_decide_eq_true h2;subst h1 e;exact⟨decide_eq_false (b8 _),decide_eq_true (bg _),rfl⟩
noncomputable def Eg(b:Bool):Nat:=if b then 1 else 0
theorem F6(b:Bool):Eg b<=1:=b.casesOn (motive:=λb=>Eg b<=1) (aU _) (aT _)
section
variable {cb lb:Bool}{h m g:Nat}{y kd:Slot}
theorem mI{L:List Row}{w w':WL}(hl:L.length<=100)(q:ev C e (Cs cb lb h m s g L y kd) w=some (.fv r.fv,w')):ex C N (.append (.v 7) e) (Cs cb lb h m s g L y kd,w)=some (.next,Cs cb lb h m s g (L++[r]) y kd,w'):=
 (i_ (xs:=dQ L) rfl q (decide_eq_true (by exact eW (aj ..)<|ll hl rfl))).trans (by unfold Cs;exact eW yn rfl)
theorem Hg{L:List Row}{lk:Bool}{w:WL}(hF:Found N L i (Eg (cb&&decide (g<i))) lk)(hl:L.length<=9):∃L1,Found N L1 i (Eg (cb&&decide (g<i+1))) lk/\L1.length<=10/\ex (au N (k+4)) N (o5 0 (bR (bodyOf km))) (Cs cb lb h m s g L (.val (nI i)) kd,w)=some (.next,Cs cb lb h m s g L1 (.val (nI i)) kd,w):=by
 have tc:eK (au N (k+4)) (.ig (.cons (.var 1) (.cons (.cmp .Eq (.var 8) (.var 6)) .nil))) (Cs cb lb h m s g L (.val (nI i)) kd) w=some (cb&&decide (i=g),w):=qJ (jI rfl rfl) (Q8 rfl rfl);induction q:(cb&&decide (i=g))using ax with
 |true=>
  rw[(uP q).1]at hF;exact eW ((uP q).2.1)<|⟨L++[De],hF.call,ak (bh aI) (cB hl),cz (q▸tc) (ao (mI (ll hl rfl) rfl) aY)⟩
 |false=>exact⟨L,yG q▸hF,j0 hl,bl (q▸tc) aY⟩
theorem Hf{L:List Row}{n kind:Nat}{w:WL}(hF:Found N L i n (lb&&decide (s<i)))(hl:L.length<=10)(hW:W c w)(hc:c<=750000)(hh:h<62)(hcb:cb=cb):∃L2 w',Found N L2 (i+1) n (lb&&decide (s<i+1))/\W (c+12) w'/\
 ex (au N (k+4)) N (o5 2 (bR (bodyOf km))) (Cs cb lb h m s g L (.val (nI i)) (.val (nI kind)),w)=some (.next,Cs cb lb h m s g L2 (.val (nI i)) (.val (nI kind)),w'):=by
 have tl:eK (au N (k+4)) (.ig (.cons (.var 4) (.cons (.cmp .Eq (.var 8) (.var 5)) .nil))) (Cs cb lb h m s g L (.val (nI i)) (.val (nI kind))) w=some (lb&&decide (i=s),w):=qJ (jI rfl rfl) (Q8 rfl rfl)
 have KW:L.length<=100:=ll hl rfl;induction q:(lb&&decide (i=s))using ax with
 |true=>
  rw[(uP q).1]at hF;exact eW ((uP q).2.1)<|iI (En (N:=N) (h:=h) hW (sX (n:=0) hc rfl) hh) λr w' r1 r2 r3 r4 r5=>⟨L++[r],w',r2▸hF.add r1 r3,r4.le (ce rfl),cz (q▸tl) (ao (mI KW (aG (ah rfl (ah rfl aE)) (r5 k))) aY)⟩
 |false=>
  rw[<-yG q]at hF;by_cases h6:kind<6
  . exact iI (Ej (N:=N) (h:=h) hW (sX (n:=0) hc rfl) hh) λr w' r1 r2 r3 r4 r5=>⟨L++[r],w',by have:=hF.add r1 (r3▸aU _);rwa[r2,fP]at this,r4.le (ce rfl),bl (q▸tl) (ao (cz ((Gk (x:=kind) (y:=6) rfl rfl).trans (by exact eW (decide_eq_true h6) rfl)) (ao (mI KW (aG (ah rfl (ah rfl aE)) (r5 k))) aY)) aY)⟩
  . have t6:eK (au N (k+4)) (.cmp .Lt (.var 9) (.lit (.int 6))) (Cs cb lb h m s g L (.val (nI i)) (.val (nI kind))) w=some (false,w):=(Gk (x:=kind) (y:=6) rfl rfl).trans (by exact eW (decide_eq_false h6) rfl)
    have t9:eK (au N (k+4)) (.cmp .Lt (.var 9) (.lit (.int 9))) (Cs cb lb h m s g L (.val (nI i)) (.val (nI kind))) w=some (decide (kind<9),w):=Gk (x:=kind) (y:=9) rfl rfl;by_cases h9:kind<9
    . rw[decide_eq_true h9]at t9
      exact iI (call_plain (N:=N) hW (sX (n:=0) hc rfl)) λr w' r1 r2 r3 r4 r5=>⟨L++[r],w',by have:=hF.add r1 r3;rwa[r2,fP]at this,r4.le (ce rfl),bl (q▸tl) (ao (bl t6 (ao (cz t9 (ao (mI KW (aG (ah rfl aE) (r5 k))) aY)) aY)) aY)⟩
    . rw[decide_eq_false h9]at t9
      refine cM (call_of (N:=N) (xs:=[.obj 347,.obj 354]) hW (sX (n:=0) hc rfl) (by decide) (by decide)) λd w7 hd W7 e7=>cM (dj (N:=N) (m:=12) W7 (sX (c:=c) (n:=1) hc rfl) (by decide) (by decide)) λjX w8 _ W8 e8=>?_
      have hf:∃HO:Bool,d=if HO then .obj 354 else .obj 347:=(a6.mp hd).elim (λe=>⟨false,e⟩) λhd=>⟨true,aH.mp hd⟩
      refine xE hf λHO hd=>?_;subst hd
      have eb:ev (au N (k+4)) (.bin .Add (.bj .len false (.cons (.var 7) .nil)) (.lit (.int 2))) (Cs cb lb h m s g L (.val (nI i)) (.val (nI kind))) w=some (.fv (nI (L.length+2)),w):=dh (cI (r:=.fv (nI L.length)) (ah rfl aE) (by
       show(if cc (dQ L).length=true then some (EV.fv (.int ((dQ L).length:Nat)))else ab)=_;exact eW (aj ..)<|eW (if_pos (show cc L.length=true from decide_eq_true (ll hl rfl))) rfl)) rfl rfl
      exact⟨L++[Sj (L.length+2)]++[Fb HO jX],w8,hF.ZA,W8.le (ce (c:=c) (n:=2) rfl),bl (q▸tl) (ao (bl t6 (ao (bl t9 (ao (mI (r:=Sj (L.length+2)) KW (iG (ah rfl (ah rfl (ah rfl (ah rfl (ah rfl (ah rfl (ah eb aE))))))) (by rfl)))
       (ao (mI (r:=Fb HO jX) (by exact eW aI<|ak (cB hl) (by decide)) (iG (ah rfl (ah (aG (ah rfl (ah rfl aE)) (e7 _)) (ah rfl (ah rfl (ah rfl (ah rfl (ah (aG (ah rfl (ah rfl aE)) (e8 _)) aE))))))) (by rfl))) aY))) aY)) aY)⟩
end
def PtJ(N:Nat)(cb lb:Bool)(s g c i:Nat)(a:List Row×WL×Slot):Prop:=Found N a.1 i (Eg (cb&&decide (g<i))) (lb&&decide (s<i))/\W (c+14*i) a.2.1/\Y a.2.2
theorem Hd{cb lb:Bool}{h m g:Nat}(hi:i<m)(hm:m<=4)(hh:h<62)(hc:c<=700010){a:List Row×WL×Slot}:PtJ N cb lb s g c i a->Turn (hX (au N (k+4)) N (bR (bodyOf km)) (Cs cb lb h m s g a.1 (.val (nI i)) a.2.2,a.2.1)) (λ(a:List Row×WL×Slot) y=>Cs cb lb h m s g a.1 y a.2.2) (λa=>a.2.1) (PtJ N cb lb s g c (i+1)):=
 Sl a λL w kd q=>jP q λhF hW hY=>by
  clear q
  have hl:L.length<=9:=ak hF.len (by have:=F6 (cb&&decide (g<i));lia);refine dU (Hg (k:=k) (cb:=cb) (lb:=lb) (h:=h) (m:=m) (s:=s) (g:=g) (kd:=kd) (w:=w) hF hl) λL1 hF1 Zz e1=>cM (dj (N:=N) (m:=10) hW (by lia) (by decide) (by decide)) λkind w6 _ W6 e6=>
   cM (Hf (k:=k) (cb:=cb) (lb:=lb) (h:=h) (m:=m) (s:=s) (g:=g) (kind:=kind) hF1 Zz W6 (by lia) hh rfl) λL2 w' h1 h2 h3=>?_
  exact .next (L2,w',.val (nI kind)) (.val (nI i)) (ao e1 (ao (aZ (aG (ah rfl (ah rfl aE)) (e6 _)) (jD rfl hY)) (ao h3 aY))) (.va _) ⟨h1,h2.le (by lia),.va _⟩
theorem HZ{hJ:Bool}(hW:W c wl)(hc:c<=700000):∃R loose w',mv N R loose hJ/\W (c+100) w'/\au N (k+5) (.obj 720) [.fv .well,.fv (.bool hJ)] wl=some (.tup [.list (dQ R),.bool loose],w'):=
 cM (dj (N:=N) (m:=62) hW (sX (c:=c) (n:=0) hc rfl) (by decide) (by decide)) λTe w1 WB W1 e1=>
 cM (dj (N:=N) (m:=3) W1 (sX (c:=c) (n:=1) hc rfl) (by decide) (by decide)) λmore w2 Wx W2 e2=>
 cM (dj (N:=N) (m:=3) W2 (sX (c:=c) (n:=2) hc rfl) (by decide) (by decide)) λlo w3 Cz W3 e3=>
 have m4:2+more<=4:=cq (mX Wx) 2
 have mb:2+more<2^128:=aQ m4 (by decide)
 cM (dj (N:=N) (m:=2+more) W3 (sX (c:=c) (n:=3) hc rfl) (az (by decide) (aP 2 more)) mb) λJm w4 Wr W4 e4=>
 cM (dj (N:=N) (m:=2+more) W4 (sX (c:=c) (n:=4) hc rfl) (az (by decide) (aP 2 more)) mb) λgate w5 hgate W5 e5=>
 xT (C:=au N (k+4)) (N:=N) (fr:=Cs hJ ((lo:Int)==1) Te (2+more) Jm gate [] .unset .unset) (wl:=w5) (λ(a:List Row×WL×Slot) y=>Cs hJ ((lo:Int)==1) Te (2+more) Jm gate a.1 y a.2.2) (λa=>a.2.1)
  (PtJ N hJ ((lo:Int)==1) Jm gate (c+5)) ([],w5,.unset) (j:=8) (it:=.bj .range false (.cons (.var 3) .nil)) (b:=bR (bodyOf km)) (y0:=.unset) rfl (cL (b:=2+more) (ll m4 rfl)) rfl .un
  ⟨⟨λ_ h=>absurd h a8,aU _,(congrArg Eg (jN _)).symm,(jN _).symm,λp r h=>nn h⟩,W5,.un⟩ (λ_ _=>rfl) (λ_ _ _=>rfl) (λi a hi g=>Hd hi m4 WB (by lia) g)
  λa y _=>Sl a λL w6 kd g e6=>by
   have hF:Found N L (2+more) (Eg (hJ&&decide (gate<2+more))) (((lo:Int)==1)&&decide (Jm<2+more)):=g.1;rw[decide_eq_true hgate,decide_eq_true Wr,mZ,mZ]at hF
   have len:L.length<=9:=ak hF.len (j3 (i2 2 m4) (F6 _));refine⟨L++[oQ],_,w6,hF.part m4 rfl,g.2.1.le (by lia),cK rfl<|bt rfl rfl<|ao (gk (xs:=[.fv (nI Te),.fv (nI (2+more)),.fv (.bool ((lo:Int)==1))]) (ah (aG (ah rfl (ah rfl aE)) (e1 _)) (ah (dh rfl (aG (ah rfl (ah rfl aE)) (e2 _)) rfl) (ah (y7 (aG (ah rfl (ah rfl aE)) (e3 _)) rfl rfl) aE))) rfl)<|
    ao (gk (xs:=[.fv (nI Jm),.fv (nI gate),.own (.ob (.list []))]) (ah (aG (ah rfl (ah rfl aE)) (e4 _)) (ah (aG (ah rfl (ah rfl aE)) (e5 _)) (ah rfl aE))) rfl)<|
    ao e6<|br<|bY<|iG (ah (x:=.fv (.list (dQ (L++[oQ])))) (dh rfl rfl ?_) (ah rfl aE)) (by rfl)⟩
   show(if cc ((dQ L).length+1)=true then some (EV.fv (.list (dQ L++[oQ.fv])))else ab)=_;rw[if_pos (show cc _=true from decide_eq_true (by rw[aj];exact ll (cB len) rfl)),yn]
theorem Kh{a b:Int}(h:a.natAbs<2^63\/b.natAbs<2^63):i9 .Mult (.fv (.int a)) (.fv (.int b))=some (.fv (.int (a*b))):=by
 show(if a.natAbs<2^63\/b.natAbs<2^63 then some (a*b)else ab).map (λr=>EV.fv (.int r))=_;exact eW (if_pos h) rfl
theorem HX{ns:List Int}(hn:ns.length<=63):∃wl,W 0 wl/\au N (k+1) (.obj 671) [.fv (.list (ns.map FV.int))] none=some (.well,wl):=by
 have p90:∀(C:my) fr,ev C (.bin .Pow (.lit (.int 10)) (.lit (.int 90))) fr none=some (.fv (.int (10^90)),none):=λC fr=>by kernel_rfl
 have p40:∀(C:my) fr,ev C (.bin .Pow (.lit (.int 10)) (.lit (.int 40))) fr none=some (.fv (.int (10^40)),none):=λC fr=>by kernel_rfl
 (refine cM (uQ (C:=au N k) (N:=N) (fr:=[.val (.list (ns.map FV.int)),.val (.int 10007),.unset]) (wl:=none) (λ(v:Int) y=>[.val (.list (ns.map FV.int)),.val (.int v),y]) (λ_=>none) (λ_ v=>0<=v) 10007 (j:=2) (it:=.xw (.var 0) (.lit .none) (.lit (.int 63))) (x:=.fv (.list ((ns.map FV.int).take 63))) (vs:=(ns.map FV.int).take 63)
   (b:=bR (bodyOf tM)) (y0:=.unset) (Mx rfl rfl rfl (U5 (by decide) (by refine eW (aj ..) ?_;lia))) (rC (by refine eW gd<|eW (aj ..) ?_;lia)) rfl .un (by decide) (λa y v hy=>by cases hy<;>rfl) (λi d v hd hv=>by
     have ue:=aF hd;obtain⟨cell,-,rfl⟩:=bO.mp (kN ue)
     have m1:=Kh (a:=v) (b:=1000003) (.inr (by decide))
     have m2:∀z:Int,i9 .Mult (.fv (.int 2)) (.fv (.int z))=some (.fv (.int (2*z))):=λz=>Kh (.inl (by decide));refine⟨.next,_,.val (.int cell),ao (aZ (dh (dh rfl rfl m1) (dh (dh (dh rfl (cI (ah (cI (ah rfl aE) rfl) aE) rfl) (m2 _)) (cI (ah (y7 rfl rfl rfl) aE) rfl) rfl) (p90 _ _) (r:=.fv (.int (Int.fmod (2*(cell.natAbs:Int)+if decide (cell<0)then 1 else 0) (10^90)))) ?_) rfl) rfl) aY,.va _,fw,?_⟩
     . rfl
     . exact Int.add_nonneg (Int.mul_nonneg hv (by decide)) (Int.fmod_nonneg_of_pos _ (by decide)))) λv y hy hv e=>?_)
 (refine xE (gm hv) λn q1=>?_;subst q1)
 obtain⟨a,ha⟩:∃a:Nat,ev (au N k) (.ite (.cmp .GtE (.var 1) (.bin .Pow (.lit (.int 10)) (.lit (.int 40)))) (.var 1) (.bin .Pow (.var 1) (.lit (.int 11)))) [.val (.list (ns.map FV.int)),.val (.int n),y] none=some (.fv (nI a),none):=by
  by_cases h:(10:Int)^40<=n
  . exact⟨n,qU (T5 (decide_eq_true h) rfl (p40 _ _)) rfl⟩
  . refine⟨n^11,pq (T5 (decide_eq_false h) rfl (p40 _ _)) (dh rfl rfl ?_)⟩
    have hb:dy (n:Int)<=133:=by
     unfold dy;split
     . exact aU _
     . rename_i q
       refine eW (Int.natAbs_natCast ..) ?_
       have h0:n≠0:=λc=>q (by exact eW c rfl)
       have:n.log2<133:=(YX h0).mpr (dk (dn.mp (Mu.mp h)) (by decide));lia
    show(if 0<=(11:Int)/\((dy (n:Int):Nat):Int)*11<=2^27 then some ((n:Int)^(11:Int).toNat)else ab).map (λr=>EV.fv (.int r))=_;rw[if_pos ⟨by decide,by lia⟩];exact congrArg (λz=>some (EV.fv (.int z))) (ya n 11).symm
 refine⟨some [nI a,nI 0],⟨a,0,rfl,aT _⟩,cK rfl<|bt rfl rfl<|ao (aZ rfl rfl)<|ao e<|br (bY ?_)⟩;exact eW yJ<|eW ha rfl
inductive kX(n:Nat)(nx:Nat->List Nat)(asks gu:Nat->Nat->Prop):Nat->Nat->Prop where
 |ask {i t:Nat}:i<n->asks i t->kX n nx asks gu i t
 |back {i j t:Nat}:i<n->j∈nx i->kX n nx asks gu j t->¬gu i t->kX n nx asks gu i t
theorem kX.least{n:Nat}{asks gu F:Nat->Nat->Prop}(h1:∀i t,i<n->asks i t->F i t)(h2:∀i j t,i<n->j∈nx i->F j t->¬gu i t->F i t)(h:kX n nx asks gu i t):F i t:=by
 induction h with
 |ask hi ha=>exact h1 _ _ hi ha
 |back hi hj _ hl ih=>exact h2 _ _ _ hi hj ih hl
theorem fx{n:Nat}(h:xs[n]?=some d)(hn:n<1000000):jt (.fv (.list xs)) (.fv (nI n)) wl=some (.fv d):=Wj.trans (Dg h hn)
theorem nH{n:Nat}(h:xs[n]?=some d)(hn:n<1000000):jt (.bor (.ob (.list xs))) (.fv (nI n)) wl=some (.fv d):=KJ.trans (Dg h hn)
theorem nC(h:xs.length<=1000):jw .len false [.fv (.list xs)]=some (.fv (nI xs.length)):=V5 (ak h (by decide))
theorem I0:((ae 5).all λw=>(oB w==aa "exit")==decide (w=3)&&(oB w==aa "jump")==decide (w=2)&&(oB w==aa "branch")==decide (w=1)&&(oB w==aa "call")==decide (w=4))=true:=by kernel_rfl
theorem EU{w:Nat}(h:w<=4):(oB w==aa "exit")=decide (w=3)/\(oB w==aa "jump")=decide (w=2)/\(oB w==aa "branch")=decide (w=1)/\(oB w==aa "call")=decide (w=4):=
 have q:=aL.mp I0 w (aC.mpr (d5 h))
 LZ q λa b c d=>⟨eq_of_beq a,eq_of_beq b,eq_of_beq c,eq_of_beq d⟩
noncomputable def l7(w at_ to:Nat):List Nat:=if w=3 then[]else if w=2 then[to]else if w=1 then[at_+1,to]else[at_+1]
theorem Em{R:List Row}(hr:R[i]?=some r)(hw:r.w<=4)(hl:R.length<=10):au N (k+1) (.obj 727) [.fv (.list (dQ R)),.fv (nI i)] wl=some (nL (l7 r.w i (r.jX%R.length)),wl):=by
 have hi:i<R.length:=(c9.mp hr).1
 have e0:ev (au N k) (.idx (.var 0) (.var 1)) [.val (.list (dQ R)),.val (nI i),.unset,.unset] wl=some (.fv r.fv,wl):=de rfl rfl (fx (by refine eW fK<|eW hr ?_;rfl) (by lia))
 have e1:ev (au N k) (.bj .len false (.cons (.var 0) .nil)) [.val (.list (dQ R)),.val (nI i),.unset,.unset] wl=some (.fv (nI R.length),wl):=by
  have:=nC (xs:=dQ R) (by refine eW (aj ..) ?_;lia);rw[aj]at this;exact cI (ah rfl aE) this
 refine cps λGz kz=>?_;obtain⟨q3,q2,q1,-⟩:=EU hw;refine kz ?_;refine cK rfl<|bt (cH:=[.val (.list (dQ R)),.val (nI i),.val (.str (oB r.w)),.val (nI (r.jX%R.length))]) rfl rfl<|ao (gk (xs:=[.fv (.str (oB r.w)),.fv (nI (r.jX%R.length))]) (ah (de e0 rfl rfl) (ah (dh (de e0 rfl rfl) e1 (Dt (by lia))) aE)) rfl) ?_;unfold l7;by_cases h3:r.w=3
 . exact eW (if_pos h3)<|br (cz (mU (q3.trans (decide_eq_true h3)) rfl rfl) (br (bY rfl)))
 . refine eW (if_neg h3) ?_
   refine ao (bl (mU (q3.trans (decide_eq_false h3)) rfl rfl) aY) ?_;by_cases h2:r.w=2
   . exact eW (if_pos h2)<|br (cz (mU (q2.trans (decide_eq_true h2)) rfl rfl) (br (bY rfl)))
   . refine eW (if_neg h2) ?_
     refine ao (bl (mU (q2.trans (decide_eq_false h2)) rfl rfl) aY) (br (bY ?_));by_cases h1:r.w=1
     . exact eW (if_pos h1)<|qU (mU (q1.trans (decide_eq_true h1)) rfl rfl) rfl
     . exact eW (if_neg h1)<|pq (mU (q1.trans (decide_eq_false h1)) rfl rfl) rfl
theorem T8{l:Nat}{d1 d2:FV}(ho:fr[l]?=some (.own (.ob (.list (ys++[.tup [d1,d2]])))))(hs:(ys++[FV.tup [d1,d2]]).length<=2^20)(h:ez (fr.set l (.own (.ob (.list ys)))) [i,j] [d1,d2]=some cH):ex C N (.pop [i,j] false l) (fr,wl)=some (.next,cH,wl):=
 bs (bs (bs ho rfl) rfl) (bs Gu ((if_pos (decide_eq_true hs)).trans (ms (show ez (fr.set l (.own (.ob (.list (ys++[FV.tup [d1,d2]]).dropLast)))) [i,j] [d1,d2]=some cH from(congrArg (λy=>ez (fr.set l (.own (.ob (.list y)))) [i,j] [d1,d2]) Gw).trans h))))
theorem Md{l:Nat}(ho:fr[l]?=some (.own (.ob (.list (ys++[d])))))(hs:(ys++[d]).length<=2^20)(h:setSlot (fr.set l (.own (.ob (.list ys)))) j (.val d)=some cH):ex C N (.pop [j] true l) (fr,wl)=some (.next,cH,wl):=
 bs (bs (bs ho rfl) rfl) (bs Gu ((if_pos (decide_eq_true hs)).trans (ms (show setSlot (fr.set l (.own (.ob (.list (ys++[d]).dropLast)))) j (.val d)=some cH from(congrArg (λy=>setSlot (fr.set l (.own (.ob (.list y)))) j (.val d)) Gw).trans h))))
theorem EB{n:Nat}{i:IE}(ho:fr[j]?=some (.own (.gr iH)))(hi:ev C i fr wl=some (.fv (nI n),wl))(hx:iH[n]?=some xs)(hn:n<1000000)(h:ev C e fr wl=some (.fv d,wl))(hs:xs.length<=2^20):
 ex C N (.append (.at j i) e) (fr,wl)=some (.next,fr.set j (.own (.gr (iH.set n (xs++[d])))),wl):=
 have hg:kD C (.at j i) fr wl=some ((.list xs,λo'=>(o'.l?).elim fr λys=>fr.set j (.own (.gr (iH.set n ys)))),wl):=
  bs (bs ho rfl) (bs rfl (bs hi (bs rfl ((if_pos (show 0<=(n:Int)/\(n:Int)<2^62 from⟨bI n,by lia⟩)).trans (ms hx)))))
 bs hg (bs h (bs rfl (bs rfl (if_pos (decide_eq_true hs)))))
theorem eD{α:Type}{f:Nat->α}{n:Nat}(h:i<n):((ae n).map f)[i]?=some (f i):=by refine eW fK<|eW (Iy h) ?_;rfl
noncomputable def upd{α:Type}(f:Nat->α)(i:Nat)(v:α):Nat->α:=λj=>if j=i then v else f j
theorem d9{α:Type}{f:Nat->α}{v:α}:upd f i v i=v:=if_pos rfl
theorem gh{α:Type}{f:Nat->α}{v:α}(h:j≠i):upd f i v j=f j:=if_neg h
theorem zj{α β:Type}{f:Nat->α}{F:α->β}{n:Nat}{v:α}:((ae n).map λj=>F (f j)).set i (F v)=(ae n).map λj=>F (upd f i v j):=by
 apply Mr;intro j;refine eW List.getElem?_set ?_;by_cases hj:j<n
 . refine eW (eD hj) ?_
   by_cases q:i=j
   . subst q;rw[if_pos rfl,if_pos (by rw[aj,aq];exact hj),eD hj,d9]
   . exact eW (if_neg q)<|eW (eD hj)<|eW (gh (λc=>q c.symm)) rfl
 . have h1:((ae n).map λj=>F (f j))[j]?=none:=ba (by refine eW (aj ..)<|eW aq ?_;lia)
   have h2:((ae n).map λj=>F (upd f i v j))[j]?=none:=ba (by refine eW (aj ..)<|eW aq ?_;lia);refine eW h1<|eW h2 ?_;split
   . rw[if_neg (by rw[aj,aq];lia)]
   . rfl
noncomputable def sumTo(f:Nat->Nat):Nat->Nat
 |0=>0
 |n+1=>sumTo f n+f n
theorem rm(h:∀i,f i<=c):∀n,sumTo f n<=n*c
 |0=>aU _
 |n+1=>by have:=rm h n;have:=h n;refine eW (uv ..) ?_;show sumTo f n+f n<=_;lia
theorem AI{g:Nat->Nat}:∀n,(∀i,i<n->f i=g i)->sumTo f n=sumTo g n
 |0,_=>rfl
 |n+1,h=>by show sumTo f n+f n=sumTo g n+g n;rw[AI n λi hi=>h i (by lia),h n (by lia)]
theorem AH{u x y:Nat}(l:u+x=v+y)(h:y<x):u<v:=Nat.lt_of_add_lt_add_right (n:=x) (l▸eR h v)
theorem JG{n:Nat}(hi:i<n):n-1-i<n:=aQ (pd _ _) (Mp (aQ (aU _) hi) It)
theorem NC{n:Nat}(hi:i<n):n-1-(n-1-i)=i:=ot (Iv hi)
theorem oF{g:Nat->Nat}(hg:∀j,j≠i->g j=f j):∀n,i<n->sumTo g n+f i=sumTo f n+g i
 |0,h=>absurd h (dz _)
 |n+1,h=>by
  show sumTo g n+g n+f i=sumTo f n+f n+g i;by_cases q:i=n
  . subst q;rw[AI i λj hj=>hg j (by lia)];lia
  . have:=oF hg n (by lia);refine eW (hg n (λc=>q c.symm)) ?_;lia
abbrev oR(p:Nat×Nat):FV:=.tup [nI p.1,nI p.2]
abbrev fT(n:Nat)(f:Nat->List Nat):FV:=.list ((ae n).map λi=>nL (f i))
noncomputable def Qo:IG:=.emit (.tup (.cons (.var 0) (.cons (.var 1) .nil)))
def pairF(C:my)(a:List Slot×List FV×WL)(v:FV):Option (List Slot×List FV×WL):=(c7 a.1 [1] v).bind λf9=>(fI C .nil f9 a.2.2).bind λt=>if t.1 then HQ C Qo f9 a.2.1 t.2 else some (f9,a.2.1,t.2)
def xS(n:Nat)(A:Nat->List Nat)(y0 y1:Slot):List Slot:=[y0,y1,.ro (fT n A)]
theorem J1{n:Nat}(l:List Nat):∀(y:Slot)(acc:List FV),Y y->∃y',Y y'/\ki (pairF C) (l.map nI) (xS n A (.val (nI i)) y,acc,wl)=some (xS n A (.val (nI i)) y',acc++(l.map λt=>(i,t)).map oR,wl):=by
 induction l with
 |nil=>exactλy acc hy=>⟨y,hy,(congrArg (λz=>some (xS n A (.val (nI i)) y,z,wl)) (cC acc)).symm⟩
 |cons t l ih=>exactλy acc hy=>bS (ih (.val (nI t)) (acc++[oR (i,t)]) (.va _)) λy' Tb e=>⟨y',Tb,(bs (by cases hy<;>rfl) e).trans (congrArg (λz=>some (xS n A (.val (nI i)) y',z,wl)) (gZ acc [oR (i,t)] _))⟩
theorem Hh{n:Nat}(hn:n<=100)(hA:∀i,i<n->(A i).length<=16)(L:List Nat):(∀i∈L,i<n)->∀(y0 y1:Slot)(acc:List FV),Y y0->Y y1->
 ∃sN,ki (cF C .nil (.gen (.idx (.var 2) (.var 0)) [1] .nil Qo)) (L.map nI) (xS n A y0 y1,acc,wl)=some (sN,acc++(L.flatMap λi=>(A i).map λt=>(i,t)).map oR,wl):=by
 induction L with
 |nil=>exactλ_ y0 y1 acc _ _=>⟨xS n A y0 y1,(congrArg (λz=>some (xS n A y0 y1,z,wl)) (cC acc)).symm⟩
 |cons i L ih=>
  intro hL y0 y1 acc h0 h1
  have hi:=hL i a7
  have hb:c7 (xS n A y0 y1) [0] (nI i)=some (xS n A (.val (nI i)) y1):=by cases h0<;>rfl
  have h5:ev C (.idx (.var 2) (.var 0)) (xS n A (.val (nI i)) y1) wl=some (.fv (nL (A i)),wl):=de (x:=.fv (fT n A)) (y:=.fv (nI i)) rfl rfl (fx (eD hi) (az hi (ak hn (by decide))));refine bS (J1 (C:=C) (wl:=wl) (n:=n) (A:=A) (i:=i) (A i) y1 acc h1) λy' Tb e=>xE (ih (λj hj=>hL j (aW i hj)) (.val (nI i)) y' (acc++((A i).map λt=>(i,t)).map oR) (.va _) Tb) λsN e2=>⟨sN,(bs (bs hb (bs yL ((if_pos rfl).trans (z2.trans (bs h5 (bs (d_ (ak (hA i hi) (by decide))) e)))))) e2).trans (congrArg (λz=>some (sN,z,wl)) ?_)⟩;exact eW ua<|eW bf<|eW (gZ ..) rfl
theorem pairs_len(L:List Nat):(∀i∈L,(A i).length<=16)->(L.flatMap λi=>(A i).map λt=>(i,t)).length<=L.length*16:=by
 induction L with
 |nil=>exactλ_=>aU _
 |cons i L ih=>
  intro h
  have h1:=h i a7
  have h2:=ih λj hj=>h j (aW i hj);exact eW ua<|eW aI<|eW (aj ..)<|eW uY<|eW (uv ..)<|eW (pf ..)<|j3 h2 h1
theorem Ef{n:Nat}{nx:FV}(hn:n<=100)(hA:∀i,i<n->(A i).length<=16)(h1:ev C (.bj .range false (.cons (.bj .len false (.cons (.var 0) .nil)) .nil)) fr wl=some (.fv (.range 0 n 1),wl))(h3:fW fr [1]=some [.ro (fT n A)]):
 ev C (.comp true 2 [1] (.bj .range false (.cons (.bj .len false (.cons (.var 0) .nil)) .nil)) [0] .nil (.gen (.idx (.var 2) (.var 0)) [1] .nil (.emit (.tup (.cons (.var 0) (.cons (.var 1) .nil)))))) fr wl=
  some (.own (.ob (.list (((ae n).flatMap λi=>(A i).map λt=>(i,t)).map oR))),wl):=
 xE (Hh hn hA (ae n) (λi hi=>aC.mp hi) .unset .unset [] .un .un) λsN e=>zZ.trans (bs h1 (bs (cL (ak hn (by decide))) (bs h3 (bs e (if_pos (decide_eq_true (ak (bh (aj _)) (ak (pairs_len _ λi hi=>hA i (aC.mp hi)) (ak (ip 16 (ak (bh aq) hn)) (by decide))))))))))
noncomputable def cN:IB->IB
 |.cons (.while _ b) _=>b
 |.cons _ r=>cN r
 |.nil=>.nil
abbrev ins(f:Nat->List Nat):Nat->Nat->Prop:=λi t=>t∈f i
structure Wk(n:Nat)(nx A Ly F:Nat->List Nat)(Wt:List (Nat×Nat)):Prop where
 CC:∀i,i<n->(F i).Nodup/\∀t∈F i,t<64/\kX n nx (ins A) (ins Ly) i t
 wt:∀p∈Wt,p.1<n/\p.2<64/\kX n nx (ins A) (ins Ly) p.1 p.2
 ask:∀i t,i<n->t∈A i->t∈F i\/(i,t)∈Wt
 back:∀i j t,i<n->j∈nx i->t∈F j->t∉Ly i->t∈F i\/(i,t)∈Wt
def MB(n:Nat)(F:Nat->List Nat)(Wt:List (Nat×Nat)):Nat:=sumTo (λi=>64-(F i).length) n*(n+1)+Wt.length
noncomputable def ma(n:Nat)(nx:Nat->List Nat)(i:Nat):List Nat:=(ae n).filter λo=>decide (i∈nx o)
def nu(n:Nat)(nx Ly:Nat->List Nat)(i t:Nat):List (Nat×Nat):=((ma n nx i).filter λo=> !decide (t∈Ly o)).map λo=>(o,t)
section
variable {n:Nat}{Ly:Nat->List Nat}{Wt:List (Nat×Nat)}
theorem FD{α β:Type}{W:List (α×β)}{i i':α}{t t':β}(q:(i',t')∈W++[(i,t)])(k:(i',t')∈W->P)(l:i'=i->t'=t->P):P:=
 (cp.mp q).elim k λq=>l (gc (aH.mp q)).1 (gc (aH.mp q)).2
theorem Wk.skip(h:Wk n nx A Ly F (Wt++[(i,t)]))(hf:t∈F i):Wk n nx A Ly F Wt:=
 have drop:∀i' t',t'∈F i'\/(i',t')∈Wt++[(i,t)]->t'∈F i'\/(i',t')∈Wt:=λi' t' q=>q.elim .inl λq=>FD q .inr λe1 e2=>.inl (e1▸e2▸hf)
 ⟨h.CC,λp hp=>h.wt p (du _ hp),λi t hi ht=>drop _ _ (h.ask i t hi ht),λi j t hi hj ht hl=>drop _ _ (h.back i j t hi hj ht hl)⟩
theorem sy{o:Nat}:o∈ma n nx i↔o<n/\i∈nx o:=eO.trans (and_congr aC decide_eq_true_iff)
theorem Dx{o:Nat}(h1:o<n)(h2:i∈nx o)(h3:t∉Ly o):(o,t)∈nu n nx Ly i t:=bO.mpr ⟨o,eO.mpr ⟨sy.mpr ⟨h1,h2⟩,by exact eW (decide_eq_false h3) rfl⟩,rfl⟩
theorem th:(ma n nx i).length<=n:=ak (dG _ _) (bh aq)
theorem vp:(nu n nx Ly i t).length<=n:=ak (bh (aj _)) (ak (dG _ _) th)
theorem vA(a:l.Nodup)(hf:t∉l):(l++[t]).Nodup:=mV.mpr ⟨a,ck.mpr ⟨a8,eC⟩,λx hx y hy c=>hf (aH.mp hy▸c▸hx)⟩
theorem uK{i' t':Nat}:t'∈upd F i (F i++[t]) i'↔t'∈F i'\/i'=i/\t'=t:=by
 by_cases e:i'=i
 . subst e;exact eW d9<|iW cp<|iW aH<|or_congr Iff.rfl ⟨λh=>⟨rfl,h⟩,λh=>h.2⟩
 . exact eW (gh e)<|⟨.inl,λh=>h.resolve_right λc=>e c.1⟩
theorem Wk.grow(h:Wk n nx A Ly F (Wt++[(i,t)]))(hf:t∉F i):Wk n nx A Ly (upd F i (F i++[t])) (Wt++nu n nx Ly i t):=
 jP (h.wt (i,t) (dF _ (cS _))) λhi ht hL=>
 have drop:∀i' t',t'∈F i'\/(i',t')∈Wt++[(i,t)]->t'∈upd F i (F i++[t]) i'\/(i',t')∈Wt++nu n nx Ly i t:=λi' t' q=>q.elim (λq=>.inl (uK.mpr (.inl q))) λq=>FD q (λq=>.inr (du _ q)) λe1 e2=>.inl (uK.mpr (.inr ⟨e1,e2⟩))
 {CC:=λi' pL=>⟨if e:i'=i then by subst e;exact eW d9<|vA (h.CC i' pL).1 hf else(gh (f:=F) (v:=F i++[t]) e).symm▸(h.CC i' pL).1,
   λt' ZK=>(uK.mp ZK).elim ((h.CC i' pL).2 t') λe=>e.1▸e.2▸⟨ht,hL⟩⟩
  wt:=λp hp=>(cp.mp hp).elim (λq=>h.wt p (du _ q)) λq=>bS (bO.mp q) λo ho e=>e▸xA (eO.mp ho) λh1 h2=>xA (sy.mp h1) λh3 h4=>⟨h3,ht,.back h3 h4 hL λc=>by rw[decide_eq_true c]at h2;exact ff h2⟩
  ask:=λi t hi ht=>drop _ _ (h.ask i t hi ht)
  back:=λi' j t' pL hj ZK hl=>(uK.mp ZK).elim (λq=>drop _ _ (h.back i' j t' pL hj q hl)) λe=>.inr (dF _ (e.2▸Dx pL (e.1▸hj) (e.2▸hl)))}
theorem Wk.less(h:Wk n nx A Ly F (Wt++[(i,t)]))(hf:t∉F i):MB n (upd F i (F i++[t])) (Wt++nu n nx Ly i t)<MB n F (Wt++[(i,t)]):=by
 refine jP (h.wt (i,t) (dF _ (cS _))) λhi ht _=>?_;refine xA (h.CC i hi) λa b=>?_
 have l1:(F i++[t]).length<=(ae 64).length:=jC (vA a hf) λx hx=>aC.mpr ((cp.mp hx).elim (λq=>(b x q).1) λq=>aH.mp q▸ht);rw[aq,aI,pU]at l1
 have l2:=vp (n:=n) (nx:=nx) (Ly:=Ly) (i:=i) (t:=t)
 have l3:=oF (f:=λi=>64-(F i).length) (g:=λj=>64-(upd F i (F i++[t]) j).length) (i:=i) (λj hj=>by exact eW (gh hj) rfl) n hi;rw[d9,aI,pU]at l3;unfold MB;refine eW aI<|eW aI<|eW pU ?_;generalize sumTo (λj=>64-(upd F i (F i++[t]) j).length) n=u at l3⊢;generalize sumTo (λi=>64-(F i).length) n=v at l3⊢;rw[show 64-(F i).length=64-((F i).length+1)+1 from(mz (Nat.sub_pos_of_lt l1)).symm]at l3
 have l4:v=u+1:=qT (l3.symm.trans ((congrArg (u+·) (pf _ 1)).trans (fc u 1 _).symm));rw[l4,uv,fc];exact eR (by lia) _
end
def MJ(n:Nat)(nx A Ly:Nat->List Nat)(a:(Nat->List Nat)×List (Nat×Nat)×Slot×Slot):List Slot:=
 [.val (fT n nx),.val (fT n A),.val (fT n Ly),.own (.gr ((ae n).map λi=>(a.1 i).map nI)),.val (fT n (ma n nx)),.own (.ob (.list (a.2.1.map oR))),a.2.2.1,a.2.2.2]
section
variable {n:Nat}{Ly:Nat->List Nat}
theorem ze(f:Nat->List Nat):((ae n).map λi=>nL (f i)).length=n:=(aj _).trans aq
theorem GF(hn:n<=10)(f:Nat->List Nat):items (.fv (fT n f))=some ((ae n).map λi=>nL (f i)):=rC (by exact eW (ze ..)<|ll hn rfl)
theorem CU(hn:n<=10)(v:ev C (.var s) fr wl=some (.fv (fT n nx),wl)):ev C (.bj .range false (.cons (.bj .len false (.cons (.var s) .nil)) .nil)) fr wl=some (.fv (.range 0 n 1),wl):=by
 have:=nC (xs:=(ae n).map λi=>nL (nx i)) (by exact eW (ze ..)<|ll hn rfl);rw[ze]at this;exact cI (ah (cI (ah v aE) this) aE) rfl
theorem vd(hn:n<=10){f:Nat->List Nat}(hi:i<n)(h1:ev C (.var a) fr wl=some (.fv (fT n f),wl))(h2:ev C (.var b) fr wl=some (.fv (nI i),wl)):ev C (.idx (.var a) (.var b)) fr wl=some (.fv (nL (f i)),wl):=
 de h1 h2 (fx (eD hi) (RO hi hn rfl))
theorem MA{b:Bool}(h:eK C e fr wl=some (b,wl)):fI C (.cons e .nil) fr wl=some (b,wl):=b.casesOn (motive:=λb=>eK C e fr wl=some (b,wl)->fI C (.cons e .nil) fr wl=some (b,wl)) d7 (λh=>dS h pA) h
theorem GG(hn:n<=10)(h:ev C (.var 0) fr wl=some (.fv (fT n nx),wl))(h':fW fr [0]=some [.ro (fT n nx)]):ev C (.comp false 1 [0] (.bj .range false (.cons (.bj .len false (.cons (.var 0) .nil)) .nil)) [0] .nil (.emit (.comp false 1 [0,1] (.bj .range false (.cons (.bj .len false (.cons (.var 1) .nil)) .nil)) [0] (.cons (.cmp .In (.var 1) (.idx (.var 2) (.var 0))) .nil) (.emit (.var 0))))) fr wl=some (.fv (fT n (ma n nx)),wl):=
 have l:(ae n).length<=2^20:=ll (ak (bh aq) hn) rfl
 comp_map (own:=false) nI (ae n) (CU hn h) (cL (ll hn rfl)) h' (λi=>nL (ma n nx i)) (λi hi=>gz (own:=false) nI (ae n) (CU hn (s:=1) rfl) (cL (ll hn rfl)) rfl (λo=>decide (i∈nx o)) nI (λo ho=>MA (fJ (x:=.fv (nI i)) rfl (vd hn (f:=nx) (a:=2) (b:=0) (aC.mp ho) rfl rfl) (ny i (nx o)))) (λ_ _ _=>rfl) l) l
noncomputable def tf(n:Nat)(A:Nat->List Nat):List (Nat×Nat):=(ae n).flatMap λi=>(A i).map λt=>(i,t)
theorem vJ{p:Nat×Nat}:p∈tf n A↔p.1<n/\p.2∈A p.1:=
 List.mem_flatMap.trans ⟨λh=>bS h λi hi h=>bS (bO.mp h) λt ht e=>e▸⟨aC.mp hi,ht⟩,λh=>⟨p.1,aC.mpr h.1,bO.mpr ⟨p.2,h.2,rfl⟩⟩⟩
theorem Dz:∀n,(∀i,i<n->(A i).length<=16)->(tf n A).length<=n*16:=λn=>by
 induction n with
 |zero=>exactλ_=>aU _
 |succ n ih=>
  intro hA;unfold tf;exact eW dK<|eW List.flatMap_append<|eW aI<|eW (uv ..)<|j3 (ih λi hi=>hA i (dm hi)) (by exact eW ua<|eW List.flatMap_nil<|eW (cC ..)<|eW (aj ..)<|hA n (bg n))
theorem Wk.room{Wt:List (Nat×Nat)}(h:Wk n nx A Ly F Wt)(hi:i<n):(F i).length<=64:=
 ak (jC (l₂:=ae 64) (h.CC i hi).1 λx hx=>aC.mpr ((h.CC i hi).2 x hx).1) (bh aq)
def WI(n:Nat)(nx A Ly:Nat->List Nat)(a:(Nat->List Nat)×List (Nat×Nat)×Slot×Slot):Prop:=Wk n nx A Ly a.1 a.2.1/\MB n a.1 a.2.1<=15000/\Y a.2.2.1/\Y a.2.2.2
theorem AQ(hn:n<=10){a:(Nat->List Nat)×List (Nat×Nat)×Slot×Slot}:WI n nx A Ly a->(!a.2.1.isEmpty)=true->
 yZ (hX (au N k) N (cN (bodyOf ml)) (MJ n nx A Ly a,wl)) (MJ n nx A Ly) (λ_=>wl) λa'=>WI n nx A Ly a'/\MB n a'.1 a'.2.1<MB n a.1 a.2.1:=
 NR a λF Wt s6 s7 hI hT=>fA hI λhK hM h6 h7=>by
  clear hI;rcases EO Wt with rfl|⟨pP,⟨i,t⟩,rfl⟩
  . exact ff hT
  rw[ER]at hK hM⊢;clear hT;refine jP (hK.wt (i,t) (dF _ (cS _))) λhi ht _=>?_
  have hlen:pP.length+1<=15000:=aI (bs:=[(i,t)])▸ak (ji _ _) hM
  have pop:ex (au N k) N (.pop [6,7] false 5) (MJ n nx A Ly (F,pP++[(i,t)],s6,s7),wl)=some (.next,MJ n nx A Ly (F,pP,.val (nI i),.val (nI t)),wl):=
   T8 (ys:=pP.map oR) (d1:=nI i) (d2:=nI t) (congrArg (λl=>some (Slot.own (.ob (.list l)))) bf) (by exact eW aI<|eW (aj ..)<|ll hlen rfl) (by cases h6<;>cases h7<;>rfl)
  have test:eK (au N k) (.cmp .NotIn (.var 7) (.idx (.var 3) (.var 6))) (MJ n nx A Ly (F,pP,.val (nI i),.val (nI t))) wl=some (!decide (t∈F i),wl):=
   fJ rfl (de (r:=.bor (.ob (.list ((F i).map nI)))) rfl rfl (S8 (eD hi) (RO hi hn rfl))) (by
    show(j7 (t:Int) ((F i).map nI)).map (!·)=_;exact eW (ny ..) rfl)
  by_cases hf:t∈F i
  . rw[decide_eq_true hf]at test
    have lt:MB n F pP<MB n F (pP++[(i,t)]):=eR (jA (bg pP.length) (aI (bs:=[(i,t)])).symm) _;exact .mk .next (F,pP,.val (nI i),.val (nI t)) (ao pop (ao (bl test aY) aY)) fw ⟨⟨hK.skip hf,ak (bV lt) hM,.va _,.va _⟩,lt⟩
  . rw[decide_eq_false hf]at test
    have less:=hK.less hf;refine .mk .next (upd F i (F i++[t]),pP++nu n nx Ly i t,.val (nI i),.val (nI t)) (ao pop (ao (cz test (ao (EB (n:=i) (d:=nI t) (xs:=(F i).map nI) rfl rfl (eD hi) (RO hi hn rfl) rfl (by refine eW (aj ..) ?_;exact ll (hK.room hi) rfl)) (ao (pQ (w1:=wl) (ds:=(nu n nx Ly i t).map oR) (xs:=pP.map oR) rfl ?_ (decide_eq_true (by exact eW (aj ..)<|eW (aj ..)<|ll (j3 (fN hlen) (ak vp hn)) rfl))) ?_))) aY)) fw ⟨⟨hK.grow hf,ak (bV less) hM,.va _,.va _⟩,less⟩
    . refine(gz (C:=au N k) (wl:=wl) (fr:=(MJ n nx A Ly (F,pP,.val (nI i),.val (nI t))).set 3 (.own (.gr (((ae n).map λi=>(F i).map nI).set i ((F i).map nI++[nI t]))))) (own:=false) nI (ma n nx i) (aX:=[2,7]) (it:=.idx (.var 4) (.var 6)) (e:=.tup (.cons (.var 0) (.cons (.var 2) .nil))) (ifs:=.cons (.cmp .NotIn (.var 2) (.idx (.var 1) (.var 0))) .nil) (vd hn (f:=ma n nx) (a:=4) (b:=6) hi rfl rfl) (d_ (ll (ak th hn) rfl)) rfl (λo=> !decide (t∈Ly o)) (λo=>oR (o,t)) (λo ho=>MA (fJ rfl (vd hn (f:=Ly) (a:=1) (b:=0) (sy.mp ho).1 rfl rfl) (by
       show(j7 (t:Int) ((Ly o).map nI)).map (!·)=_;exact eW (ny ..) rfl))) (λ_ _ _=>rfl) (ll (ak th hn) rfl)).trans ?_
      rw[if_neg ay,nu,bG];rfl
    . have h1:=zj (n:=n) (f:=F) (F:=Rr nI) (i:=i) (v:=F i++[t])
      rw[bf]at h1
      show _=some (Fl.next,MJ n nx A Ly (upd F i (F i++[t]),pP++nu n nx Ly i t,_,_),wl);unfold MJ;exact eL h1<|eW bf rfl
theorem tU(hn:n<=10)(hN:20000<=N)(hA:∀i,i<n->(A i).length<=16/\∀t∈A i,t<64):
 ∃F:Nat->List Nat,(∀i,i<n->(F i).Nodup/\(∀t∈F i,t<64)/\∀t,t∈F i↔kX n nx (ins A) (ins Ly) i t)/\au N (k+1) (.obj 732) [.fv (fT n nx),.fv (fT n A),.fv (fT n Ly)] wl=some (fT n F,wl):=by
 have e3:∀fr,fr[0]?=some (.val (fT n nx))->ev (au N k) (.sU 1 [] (.var 0) 0) fr wl=some (.own (.gr ((ae n).map λ_=>([]:List Nat).map nI)),wl):=λfr h=>by
  refine eW HP<|eW fi<|eW h ?_
  show(items (.fv (fT n nx))).bind _=_;refine eW (GF hn ..) ?_
  show some (EV.own (.gr (((ae n).map λi=>nL (nx i)).map λ_=>[])),wl)=_;exact eW bG rfl
 have m0:MB n (λ_=>[]) (tf n A)<=15000:=ak (j3 (Nat.mul_le_mul (ak (rm (c:=64) (λ_=>aT _) n) (ip 64 hn)) (cB hn)) (ak (Dz n λi hi=>(hA i hi).1) (ip 16 hn))) (av rfl);refine se (C:=au N k) (N:=N) (wl:=wl) (fr:=MJ n nx A Ly (λ_=>[],tf n A,.unset,.unset)) (MJ n nx A Ly) (λ_=>wl) (WI n nx A Ly) (λa=>MB n a.1 a.2.1) (λ_=>[],tf n A,.unset,.unset) (t:=.cmp .NotEq (.var 5) (.lst false .nil)) (b:=cN (bodyOf ml)) rfl rfl
  ⟨⟨λi _=>⟨eC,λt h=>absurd h a8⟩,λp hp=>xA (vJ.mp hp) λh1 h2=>⟨h1,(hA _ h1).2 _ h2,.ask h1 h2⟩,λi t hi ht=>.inr (vJ.mpr ⟨hi,ht⟩),λi j t _ _ ht _=>absurd ht a8⟩,m0,.un,.un⟩ (aQ m0 (az (by decide) hN))
  (λa=> !a.2.1.isEmpty) (λa=>NR a λF Wt s6 s7 _=>by
    induction Wt using bP with
    |nil=>exact fJ rfl rfl rfl
    |cons p r=>exact fJ rfl rfl rfl) (λa=>AQ hn) λa=>NR a λF Wt s6 s7 hI hT e=>?_
 obtain rfl:Wt=[]:=Wt.casesOn (motive:=λW=>(!W.isEmpty)=false->W=[]) (λ_=>rfl) (λ_ _ h=>ff h.symm) hT
 have hK:Wk n nx A Ly F []:=hI.1;refine⟨F,λi hi=>⟨(hK.CC i hi).1,λt ht=>((hK.CC i hi).2 t ht).1,λt=>⟨λht=>((hK.CC i hi).2 t ht).2,λh=>h.least (F:=λi t=>t∈F i) (λi t hi ht=>(hK.ask i t hi ht).resolve_right a8) λi j t hi hj ht hl=>(hK.back i j t hi hj ht hl).resolve_right a8⟩⟩,?_⟩;refine cK rfl<|bt rfl rfl<|ao (gC (e3 _ rfl) rfl)<|ao (aZ (GG hn rfl rfl) rfl)<|ao (gC (Ef (nx:=fT n nx) (ll hn rfl) (λi hi=>(hA i hi).1) (CU hn (s:=0) rfl) rfl) rfl)<|ao e<|ao rfl<|br (bY ?_)
 show some (EV.fv (.list (((ae n).map λi=>(F i).map nI).map FV.list)),wl)=_;exact eW bG rfl
end
def rowAt(R:List Row)(i:Nat):Row:=R[i]?.getD oQ
theorem iA{R:List Row}(h:i<R.length):R[i]?=some (rowAt R i):=by unfold rowAt;refine eW (aV h) ?_;rfl
theorem pG{R:List Row}(h:i<R.length):rowAt R i∈R:=aF (iA h)
theorem vL{α:Type}(g:Row->α)(R:List Row):R.map g=(ae R.length).map λi=>g (rowAt R i):=by
 apply Mr;intro j;by_cases hj:j<R.length
 . refine eW (eD hj)<|eW fK<|eW (iA hj) ?_;rfl
 . rw[ba (by rw[aj];lia),ba (by rw[aj,aq];lia)]
theorem qB{R:List Row}(h:R.length<=1000):items (.fv (.list (dQ R)))=some (R.map Row.fv):=rC (by refine eW (aj ..) ?_;lia)
theorem kl{l:List FV}(h:l.length<=1000):items (.fv (.list l))=some l:=rC (by lia)
theorem wG{f:Nat}{os:List Int}(hl:os.length<=8)(ho:∀o∈os,-512<=o/\o<= -1)(h:ev C (.idx (.var 0) (.lit (nI f))) fr wl=some (.fv (.list (os.map .int)),wl)):
 ev C (.comp false 1 [] (.idx (.var 0) (.lit (nI f))) [0] .nil (.emit (.bin .FloorDiv (.bin .Sub (.un .USub (.var 0)) (.lit (.int 1))) (.lit (.int 8))))) fr wl=some (.fv (nL (os.map dH)),wl):=by
 have:=comp_map (own:=false) FV.int os h (kl (by refine eW (aj ..) ?_;lia)) (cs:=[]) (aX:=[]) rfl (λo=>nI (dH o)) (e:=.bin .FloorDiv (.bin .Sub (.un .USub (.var 0)) (.lit (.int 1))) (.lit (.int 8))) (λo h=>by
  have h1:=ho o h;refine dh (dh (XW rfl rfl) rfl rfl) rfl ?_
  have:=Eb (a:=(-o-1).toNat) (m:=8) (by decide) (by decide);rw[nI,IT (by lia)]at this;exact this) (by lia)
 rw[if_neg ay]at this;rw[nL,bG];exact this
theorem LA{n:Nat}:Px (.fv (nL l)) [.fv (nI n)]=some (.fv (nI (l.count n))):=by
 have e:∀m:List Nat,(m.map λ(n:Nat)=>(n:Int)).count (n:Int)=m.count n:=λm=>by
  induction m with
  |nil=>rfl
  |cons x r ih=>
   rw[bT,Qb,Qb,ih];by_cases q:x=n
   . subst q;simp
   . have:((x:Int)==n)=false:=by rw[beq_eq_false_iff_ne];lia
     have h2:(x==n)=false:=by rw[beq_eq_false_iff_ne];exact q
     exact eW this<|eW h2 rfl
 refine bs (a:=[nI n]) rfl (bs (a:=[(n:Int)]) rfl (bs (a:=l.map nI) rfl (bs (jW l) ?_)))
 show some (EV.fv (.int (((l.map λ(n:Nat)=>(n:Int)).count (n:Int):Nat))))=_;exact eW (e ..) rfl
theorem Ek{R:List Row}(hR:∀r∈R,r.Ok N)(hn:R.length<=10)(hN:20000<=N):
 ∃F:Nat->List Nat,(∀i,i<R.length->(F i).Nodup/\(∀t∈F i,t<64)/\∀t,t∈F i↔kX R.length nx (ins λi=>(rowAt R i).rs.map dH) (ins λi=>whole ((rowAt R i).ws.map dH)) i t)/\
  au N (k+2) (.obj 737) [.fv (.list (dQ R)),.fv (fT R.length nx)] wl=some (fT R.length F,wl):=by
 (refine bS (tU (N:=N) (k:=k) (wl:=wl) (n:=R.length) (nx:=nx) (A:=λi=>(rowAt R i).rs.map dH) (Ly:=λi=>whole ((rowAt R i).ws.map dH)) hn hN (λi hi=>by
   have:=hR _ (pG hi);refine⟨by refine eW (aj ..) ?_;have:=this.rs.1;lia,λt ht=>?_⟩;obtain⟨o,ho,rfl⟩:=bO.mp ht;exact zf (this.rs.2 o ho))) λF hF e=>?_)
 refine⟨F,hF,?_⟩
 have a1:∀fr,fr[0]?=some (.val (.list (dQ R)))->ev (au N (k+1)) (.comp false 1 [] (.var 0) [0] .nil (.emit (.comp false 1 [] (.idx (.var 0) (.lit (.int 4))) [0] .nil (.emit (.bin .FloorDiv (.bin .Sub (.un .USub (.var 0)) (.lit (.int 1))) (.lit (.int 8))))))) fr wl=some (.fv (fT R.length λi=>(rowAt R i).rs.map dH),wl):=λfr h=>by
  have:=comp_map (own:=false) (C:=au N (k+1)) (wl:=wl) (fr:=fr) Row.fv R (aX:=[]) (cs:=[]) (it:=.var 0) (by exact eW fi<|eW h rfl) (qB (by lia)) rfl (λr=>nL (r.rs.map dH)) (e:=.comp false 1 [] (.idx (.var 0) (.lit (.int 4))) [0] .nil (.emit (.bin .FloorDiv (.bin .Sub (.un .USub (.var 0)) (.lit (.int 1))) (.lit (.int 8))))) (λr hr=>wG (f:=4) (hR r hr).rs.1 (hR r hr).rs.2 rfl) (by lia)
  rwa[if_neg ay,vL]at this
 have a2:∀fr,fr[0]?=some (.val (.list (dQ R)))->ev (au N (k+1)) (.comp false 1 [] (.var 0) [0] .nil (.emit (.comp false 1 [] (.idx (.var 0) (.lit (.int 5))) [0] .nil (.emit (.bin .FloorDiv (.bin .Sub (.un .USub (.var 0)) (.lit (.int 1))) (.lit (.int 8))))))) fr wl=some (.fv (.list (R.map λr=>nL (r.ws.map dH))),wl):=λfr h=>by
  have:=comp_map (own:=false) (C:=au N (k+1)) (wl:=wl) (fr:=fr) Row.fv R (aX:=[]) (cs:=[]) (it:=.var 0) (by exact eW fi<|eW h rfl) (qB (by lia)) rfl (λr=>nL (r.ws.map dH)) (e:=.comp false 1 [] (.idx (.var 0) (.lit (.int 5))) [0] .nil (.emit (.bin .FloorDiv (.bin .Sub (.un .USub (.var 0)) (.lit (.int 1))) (.lit (.int 8))))) (λr hr=>wG (f:=5) (hR r hr).ws.1 (hR r hr).ws.2 rfl) (by lia)
  rwa[if_neg ay]at this
 have a3:∀fr,fr[3]?=some (.val (.list (R.map λr=>nL (r.ws.map dH))))->ev (au N (k+1)) (.comp false 1 [] (.var 3) [0] .nil (.emit (.comp false 1 [0] (.var 0) [0] (.cons (.cmp .Eq (.eg .count (.var 1) (.cons (.var 0) .nil)) (.lit (.int 8))) .nil) (.emit (.var 0))))) fr wl=some (.fv (fT R.length λi=>whole ((rowAt R i).ws.map dH)),wl):=λfr h=>by
  have:=comp_map (own:=false) (C:=au N (k+1)) (wl:=wl) (fr:=fr) (λr:Row=>nL (r.ws.map dH)) R (aX:=[]) (cs:=[]) (it:=.var 3) (by exact eW fi<|eW h rfl) (kl (by refine eW (aj ..) ?_;lia)) rfl (λr=>nL (whole (r.ws.map dH))) (e:=.comp false 1 [0] (.var 0) [0] (.cons (.cmp .Eq (.eg .count (.var 1) (.cons (.var 0) .nil)) (.lit (.int 8))) .nil) (.emit (.var 0))) (λr hr=>by
   have hl:(r.ws.map dH).length<=8:=by exact eW (aj ..)<|(hR r hr).ws.1
   exact gz (own:=false) nI (r.ws.map dH) (cs:=[.ro (nL (r.ws.map dH))]) rfl (d_ (by lia)) rfl (λs=>(r.ws.map dH).count s==8) nI (λs hs=>by
    have h:eK (au N (k+1)) (.cmp .Eq (.eg .count (.var 1) (.cons (.var 0) .nil)) (.lit (.int 8))) [.val (nI s),.ro (nL (r.ws.map dH))] wl=some ((r.ws.map dH).count s==8,wl):=gI (x:=((r.ws.map dH).count s:Nat)) (y:=8) (by rw[cR,beq_iff_eq,beq_iff_eq];lia) (by
     exact eW Lh<|eW (show ev (au N (k+1)) (.var 1) [.val (nI s),.ro (nL (r.ws.map dH))] wl=some (.fv (nL (r.ws.map dH)),wl)from rfl)<|eW (bJ ..)<|eW (show ou (au N (k+1)) (.cons (.var 0) .nil) [.val (nI s),.ro (nL (r.ws.map dH))] wl=some ([.fv (nI s)],wl)from rfl)<|eW (bJ ..)<|eW LA rfl) rfl
    induction q:((r.ws.map dH).count s==8)using ax with
    |true=>exact dS (q▸h) pA
    |false=>exact d7 (q▸h)) (λ_ _ _=>rfl) (by lia)) (by lia)
  rwa[if_neg ay,vL]at this
 exact cK rfl<|bt rfl rfl<|ao (aZ (a1 _ rfl) rfl)<|ao (aZ (a2 _ rfl) rfl)<|br<|bY<|aG (ah rfl (ah rfl (ah (a3 _ rfl) aE))) e
theorem B8(h:l.Nodup)(hl:∀t∈l,t<64):au N (k+1) (.obj 742) [.fv (nL l)] wl=some (nI (bF l),wl):=by
 have len:l.length<=64:=by
  have:=jC (l₂:=ae 64) h λx hx=>aC.mpr (hl x hx)
  rwa[aq]at this
 have a:=comp_map (own:=false) (C:=au N k) (wl:=wl) (fr:=[.val (nL l)]) nI l (aX:=[]) (cs:=[]) (it:=.var 0) rfl (d_ (by lia)) rfl (λt=>nI (2^t)) (e:=.bin .Pow (.lit (.int 2)) (.var 0)) (λt ht=>dh rfl rfl (by
  have:=hl t ht
  show(if 0<=(t:Int)/\((dy 2:Nat):Int)*(t:Int)<=2^27 then some ((2:Int)^(t:Int).toNat)else ab).map (λr=>EV.fv (.int r))=_;rw[show dy 2=2 by decide+kernel,if_pos ⟨by lia,by lia⟩,cG];exact congrArg (λz=>some (EV.fv (.int z))) (ya 2 t).symm)) (by lia)
 rw[if_neg ay]at a;refine cK rfl<|bt rfl rfl<|br<|bY<|cI (ah a aE) ?_
 have e1:l.map (λt=>nI (2^t))=(l.map λt=>2^t).map nI:=by exact eW bG rfl
 show((eZ (l.map λt=>nI (2^t))).bind λis=>if cc is.length=true then some (EV.fv (.int is.sum))else ab)=_;rw[e1,jW,bJ,if_pos (show cc _=true from decide_eq_true (by rw[aj,aj];lia))]
 have e2:∀m:List Nat,(m.map λ(n:Nat)=>(n:Int)).sum=((m.sum:Nat):Int):=λm=>by
  induction m with
  |nil=>rfl
  |cons x r ih=>rw[bT,As,As,ih];lia
 exact eW (e2 ..)<|eW (AG l h) rfl
structure Prog where
 n:Nat
 m:Nat
 o:Nat->FV
 r:Nat->Row
 B:Nat->Nat
 P:Nat->Nat
 T:Nat->Nat
 C:Nat->Nat
structure Prog.Ok(N:Nat)(p:Prog):Prop where
 i4:p.n<=30
 m3:1<=p.m/\p.m<=3
 B0:p.B 0=0
 Bm:p.B p.m=p.n
 UX:∀j,j<p.m->p.B j<p.B (j+1)
 part:∀i,i<p.n->p.P i<p.m/\p.B (p.P i)<=i/\i<p.B (p.P i+1)
 ord:∀i,i<p.n->rZ N (p.r i) (p.o i) ((p.T i:Int)-i-1)
 Qm:∀i,i<p.n->(p.r i).Ok N
 f6:∀i,i<p.n->(p.r i).w=1\/(p.r i).w=2->p.T i<p.n/\p.P (p.T i)=p.P i
 call:∀i,i<p.n->(p.r i).w=4->p.P i+1<p.m/\p.T i=p.B (p.P i+1)/\i=p.C (p.P i)
 calls:∀j,j+1<p.m->p.B j<=p.C j/\p.C j<p.B (j+1)/\(p.r (p.C j)).w=4
 last:∀i,i<p.n->((p.r i).w=3↔i+1=p.B (p.P i+1))
 reach:∀i,i+1<p.n->(p.r i).w=2->∃j,j<i/\(p.r j).w=1/\p.T j=i+1
noncomputable abbrev fH(p:Prog):FV:=.list ((ae p.n).map p.o)
abbrev DX(n:Nat):List (Int×FV):=(ae n).map λ(i:Nat)=>((i:Int),nI i)
def Prog.fv(p:Prog):FV:=.inst 490 [(0,fH p),(1,nL (ae p.n)),(2,.dict (DX p.n)),(3,nI p.n),(4,nL ((ae p.m).map p.B))]
section
variable {p:Prog}(h:p.Ok N)
include h
theorem Prog.Ok.mono(D2:i<j)(hj:j<=p.m):p.B i<p.B j:=by
 induction j with
 |zero=>exact absurd D2 (dz _)
 |succ j ih=>
  have h1:=h.UX j (by lia);rcases cw.mp D2 with q|q
  . exact dk (ih q (by lia)) h1
  . exact eW q<|h1
theorem Prog.Ok.le(D2:i<=j)(hj:j<=p.m):p.B i<=p.B j:=by
 rcases jz D2 with q|q
 . exact bV (h.mono q hj)
 . exact eW q<|aT _
theorem Prog.Ok.Oj(hj:j<p.m):p.B j<p.n:=by exact eL h.Bm<|h.mono hj (aT _)
theorem Prog.Ok.Iq(hi:i<p.n)(hj:j<p.m)(h1:p.B j<=i)(h2:i<p.B (j+1)):p.P i=j:=by
 (refine jP (h.part i hi) λa b c=>?_)
 rcases g8 (p.P i) j with q|q|q
 . have:=h.le (show p.P i+1<=j from q) (by lia);lia
 . exact q
 . have:=h.le (show j+1<=p.P i from q) (by lia);lia
theorem Prog.Ok.goal(hi:i<p.n)(hw:(p.r i).w=1\/(p.r i).w=2\/(p.r i).w=4):p.T i<p.n:=by
 rcases hw with q|q|q
 . exact(h.f6 i hi (.inl q)).1
 . exact(h.f6 i hi (.inr q)).1
 . obtain⟨a,b,-⟩:=h.call i hi q;exact eW b<|h.Oj a
theorem Prog.Ok.next(hi:i<p.n)(hw:(p.r i).w≠3):i+1<p.n/\p.P (i+1)=p.P i:=by
 (refine jP (h.part i hi) λa b c=>?_)
 have h1:i+1≠p.B (p.P i+1):=λq=>hw ((h.last i hi).mpr q)
 have h2:=h.le (show p.P i+1<=p.m by lia) (aT _);rw[h.Bm]at h2;exact⟨by lia,h.Iq (by lia) a (by lia) (by lia)⟩
end
theorem Hp(l:List Nat)(t:Nat):(l.map λ(i:Nat)=>((i:Int),nI i)).lookup (t:Int)=if t∈l then some (nI t)else none:=by
 induction l with
 |nil=>rfl
 |cons x r ih=>
  rw[bT,bK];by_cases q:t=x
  . subst q;rw[beq_self_eq_true];simp
  . have:((t:Int)==(x:Int))=false:=by rw[beq_eq_false_iff_ne];lia
    refine eW this<|eW ih ?_;simp[q]
theorem sC{n:Nat}(h:t<n):(DX n).lookup (t:Int)=some (nI t):=by exact eW (Hp ..)<|eW (if_pos (aC.mpr h)) rfl
theorem yT{y0 y1:EV}{o:FV}(hx:x.arg.GQ=some x)(h0:mr x 0=some y0)(h0':jt y0 (.fv (nI i)) wl=some (.fv o))(h1:mr x 1=some y1)(CB:jt y1 (.fv (nI i)) wl=some (.fv (nI i)))
 (hd:∀k wl,au N (k+10) (.obj 256) [.fv o] wl=some (.int ((t:Int)-i-1),wl)):au N (k+11) (.obj 461) [x,.fv (nI i)] wl=some (nI t,wl):=by
 have v:ev (au N (k+10)) (.var 0) [x.arg,.val (nI i)] wl=some (x,wl):=by
  show(x.arg.GQ).map (λy=>(y,wl))=_;exact eW hx rfl
 refine cK (k:=k+10) rfl<|bt rfl rfl<|br<|bY<|dh (dh (de (Aj v h1) rfl CB) rfl rfl) (aG (ah (de (Aj v h0) rfl h0') aE) (hd _ _)) ?_
 show some (EV.fv (.int ((i:Int)+1+((t:Int)-i-1))))=_;rw[show(i:Int)+1+((t:Int)-i-1)=t by lia]
theorem Bb(n:Nat):dE (DX n) n (nI n)=DX (n+1):=by
 have:∀(l:List Nat),n∉l->dE (l.map λ(i:Nat)=>((i:Int),nI i)) n (nI n)=(l.map λ(i:Nat)=>((i:Int),nI i))++[((n:Int),nI n)]:=λl=>by
  induction l with
  |nil=>exactλ_=>rfl
  |cons x r ih=>
   intro hl;rw[a6,not_or]at hl
   show(if(x:Int)=n then _ else _)=_;rw[if_neg (by lia),ih hl.2];rfl
 rw[this _ (by rw[aC];exact b8 n),DX,dK,bf];rfl
theorem E3:∀(l:List Int),l.Pairwise (·<=·)->fU l=l
 |[],_=>rfl
 |x::r,h=>by
  rw[gE]at h
  show insertSorted x (fU r)=_;refine eW (E3 r h.2) ?_;induction r using bP with
  |nil=>rfl
  |cons y r=>show(if x<=y then _ else _)=_;exact eW (if_pos (h.1 y (a7))) rfl
variable{p:Prog}
theorem XY{g:bw}{args:List EV}{b:IB}{r:List Slot}(h1:FT a=ab)(h2:CT a=some g)(hb:g.body=.stmts b)(h0:lD g [] (.own (.inst a [])::args)=some fr)(h:hX (au N k) N b (fr,wl)=some (.next,.own (.inst c fs)::r,w1)):
 au N (k+1) (.obj a) args wl=some ((OT.inst c fs).fz,w1):=by
 show(FT a).elim _ _=_;refine eW h1 ?_
 show(CT a).bind _=_;refine eW h2 ?_
 show(lD g [] _).bind _=_;refine eW h0<|eW (bJ ..)<|eW hb ?_
 show(hX _ _ _ _).bind made=_;exact eW h rfl
theorem Qq{f:Nat}{o:OB}(ho:fr[i]?=some (.own (.inst c fs)))(hf:fs.lookup f=some (.ob o)):kD C (.fld i f) fr wl=some ((o,λo'=>fr.set i (.own (.inst c (putField fs f (.ob o'))))),wl):=
 bs (bs ho rfl) (bs (a:=(c,fs)) rfl (ms (bs hf rfl)))
theorem T9{f:Nat}(ho:fr[i]?=some (.own (.inst c fs)))(hf:fs.lookup f=some (.ob (.list xs)))(h:ev C e fr wl=some (.fv d,wl))(hs:xs.length<=1000):
 ex C N (.append (.fld i f) e) (fr,wl)=some (.next,fr.set i (.own (.inst c (putField fs f (.ob (.list (xs++[d])))))),wl):=
 bs (Qq ho hf) (bs h (bs rfl (bs (a:=xs) rfl (if_pos (decide_eq_true (ak hs (by decide)))))))
theorem T7{f:Nat}{x:IE}{es:List (Int×FV)}{n:Int}(ho:fr[i]?=some (.own (.inst c fs)))(hf:fs.lookup f=some (.ob (.dict es)))(h:ev C e fr wl=some (.fv d,wl))(hx:ev C x fr wl=some (.fv (.int n),wl))(hs:es.length<=1000):
 ex C N (.fV (.fld i f) x e) (fr,wl)=some (.next,fr.set i (.own (.inst c (putField fs f (.ob (.dict (dE es n d)))))),wl):=
 bs h (bs (a:=d) rfl (bs (Qq ho hf) (bs hx (bs (a:=n) rfl (bs (a:=es) rfl (if_pos (decide_eq_true (ak hs (by decide)))))))))
theorem Me{f:Nat}(ho:fr[i]?=some (.own (.inst c fs)))(h:ev C e fr wl=some (.fv d,wl))(hl:fs.length<900):ex C N (.setAttr i f e) (fr,wl)=some (.next,fr.set i (.own (.inst c (putField fs f (.fv d)))),wl):=
 bs h (bs (bs ho rfl) (bs (a:=(c,fs)) rfl ((if_pos hl).trans rfl)))
abbrev U9(p:Prog)(i:Nat):OT:=.inst 490 [(0,.fv (fH p)),(1,.ob (.list ((ae i).map nI))),(2,.ob (.dict (DX i)))]
abbrev E5(p:Prog):OT:=.inst 490 [(0,.fv (fH p)),(1,.ob (.list ((ae p.n).map nI))),(2,.ob (.dict (DX p.n))),(3,.fv (nI p.n))]
def Y3(p:Prog)(x:EV)(i:Nat)(y:Slot):List Slot:=[.own (U9 p i),x.arg,.val (nI i),y,.unset]
def XU(p:Prog)(x:EV)(c:Nat)(y:Slot):List Slot:=[.own (E5 p),x.arg,.val (nI p.n),y,.own (.ob (.set ((ae (c+1)).map λj=>(p.B j:Int))))]
theorem Qz:((ae p.n).map p.o).length=p.n:=(aj _).trans aq
theorem E8(h:p.Ok N)(h0:fr[0]?=some (.own (.inst c fs)))(h1:fs.lookup 0=some (.fv (fH p))):ev C (.bj .range false (.cons (.bj .len false (.cons (.attr (.var 0) 0) .nil)) .nil)) fr wl=some (.fv (.range 0 p.n 1),wl):=
 cI (ah (cI (ah (Aj (x:=.bor (.inst c fs)) (by exact eW fi<|eW h0 rfl) (TX.trans (ms h1))) aE) ((nC (xs:=(ae p.n).map p.o) (ak (bh Qz) (ak h.i4 (by decide)))).trans (congrArg (λn:Nat=>some (EV.fv (nI n))) Qz))) aE) rfl
theorem get_or(h:p.Ok N)(hi:i<p.n):jt (.fv (fH p)) (.fv (nI i)) wl=some (.fv (p.o i)):=fx (eD hi) (dk (az hi h.i4) (by decide))
theorem SP(h:i<=30):((ae i).map nI).length<=1000:=ak (bh ((aj _).trans aq)) (ak h (by decide))
theorem ON(h:p.Ok N)(hi:i<p.n)(e:j=i):Turn (hX (au N (k+11)) N (bR (bodyOf dA)) (Y3 p x j (.val (nI i)),wl)) (Y3 p x) (λ_=>wl) λj'=>j'=i+1:=by
 subst e
 have hj:j<=30:=ak (bV hi) h.i4
 have wd:au N (k+11) (.obj 193) [.fv (p.o j)] wl=some (.bool false,wl):=(aK ((h.ord j hi).told (k+1) wl)).1;refine .next (j+1) (.val (nI j)) (ao (T9 (f:=1) (c:=490) rfl rfl rfl (SP hj))<|ao (T7 (f:=2) (c:=490) (n:=j) (d:=nI j) (fs:=[(0,.fv (fH p)),(1,.ob (.list ((ae j).map nI++[nI j]))),(2,.ob (.dict (DX j)))]) rfl rfl rfl rfl (by refine eW (aj ..)<|eW aq ?_;exact ak hj (by decide)))<|
  ao (aZ (d:=nI (j+1)) (dh rfl (pq (jI rfl (aG (ah (de (x:=.fv (fH p)) rfl rfl (get_or h hi)) aE) wd)) rfl) rfl) rfl) ?_) (.va _) rfl
 have e1:(ae j).map nI++[nI j]=(ae (j+1)).map nI:=(congrArg (Rr nI) dK).trans bf|>.symm
 exact eW (Bb ..)<|eW e1 rfl
structure I2(p:Prog)(i c:Nat):Prop where
 hc:c+1<=p.m
 hj:∀j,j+1<p.m->(p.C j<i↔j<c)
theorem I2.at(h:p.Ok N)(hi:i<p.n)(hw:(p.r i).w=4)(g:I2 p i c):c=p.P i:=by
 refine jP (h.call i hi hw) λq1 q2 q3=>?_;rcases g8 c (p.P i)with q|q|q
 . have h2:=(h.calls c (dk (xk q) q1)).2.1
   have h3:=h.le (show c+1<=p.P i from q) (bV (g9 q1));exact absurd ((g.hj c (dk (xk q) q1)).mp (az h2 (ak h3 (h.part i hi).2.1))) (b8 _)
 . exact q
 . have:=(g.hj _ q1).mpr q
   rw[<-q3]at this;exact absurd this (b8 _)
theorem I2.hit(h:p.Ok N)(hi:i<p.n)(hw:(p.r i).w=4)(g:I2 p i (p.P i)):I2 p (i+1) (p.P i+1):=
 jP (h.call i hi hw) λq1 q2 q3=>⟨q1,λj hj=>⟨λq=>(cw.mp q).elim (λq=>dm ((g.hj j hj).mp q)) λq=>jP (h.calls j hj) λa1 a2 _=>d5 (bh (h.Iq hi (g9 hj) (q▸a1) (q▸a2)).symm),
  λq=>(cw.mp q).elim (λq=>dm ((g.hj j hj).mpr q)) λq=>d5 (bh ((congrArg p.C q).trans q3.symm))⟩⟩
theorem I2.miss(h:p.Ok N)(hw:(p.r i).w≠4)(g:I2 p i c):I2 p (i+1) c:=
 ⟨g.hc,λj hj=>⟨λq=>(g.hj j hj).mp ((cw.mp q).elim id λq=>absurd (q▸(h.calls j hj).2.2) hw),λq=>dm ((g.hj j hj).mpr q)⟩⟩
theorem Xx(h:p.Ok N)(hm:p.P i+1<p.m)(ht:p.T i=p.B (p.P i+1)):jx ((ae (p.P i+1)).map λj=>(p.B j:Int)) (p.T i)=(ae (p.P i+1+1)).map λj=>(p.B j:Int):=by
 unfold jx;rw[if_neg,dK (n:=p.P i+1),bf,ht];rfl;rw[gS];exactλq=>bS (bO.mp q) λj hj e=>bx (h.mono (i:=j) (j:=p.P i+1) (aC.mp hj) (bV hm)) (pV (e.trans (congrArg Int.ofNat ht)))
theorem KI(h:p.Ok N)(hi:i<p.n)(hw:(p.r i).w=4)(h0:fr[0]?=some (.own (E5 p)))(h3:fr[3]?=some (.val (nI i))):ev (au N (k+11)) (.eg (.user 21) (.var 0) (.cons (.var 3) .nil)) fr wl=some (.fv (nI (p.T i)),wl):=
 fm (x:=.bor (E5 p)) (c:=490) (a:=461) (by exact eW fi<|eW h0 rfl) (ah (by exact eW fi<|eW h3 rfl) aE) rfl rfl (yT (y0:=.fv (fH p)) (y1:=.bor (.ob (.list ((ae p.n).map nI)))) rfl rfl (get_or h hi) rfl (nH (eD hi) (dk (az hi h.i4) (by decide))) ((h.ord i hi).dist (.inr (.inr hw))))
theorem Fw(hT:t<p.n):((DX p.n).lookup (t:Int))=some (nI t):=sC hT
theorem OM(h:p.Ok N)(hi:i<p.n)(g:I2 p i c):Turn (hX (au N (k+11)) N (bR (lZ 6 (bodyOf dA))) (XU p x c (.val (nI i)),wl)) (XU p x) (λ_=>wl) (I2 p (i+1)):=by
 have t1:eK (au N (k+11)) (.call (.bc (.obj 214)) (.cons (.idx (.attr (.var 0) 0) (.var 3)) .nil)) (XU p x c (.val (nI i))) wl=some ((p.r i).w==4,wl):=jI rfl (aG (ah (de (x:=.fv (fH p)) rfl rfl (get_or h hi)) aE) (ag (kB ((h.ord i hi).told (k+1) wl) 4)));by_cases hw:(p.r i).w=4
 . rw[hw]at t1
   have e:=g.at h hi hw;subst e;refine jP (h.call i hi hw) λq1 q2 q3=>?_
   have hT:p.T i<p.n:=q2▸h.Oj q1
   have m3:=h.m3.2;refine .next (p.P i+1) (.val (nI i)) (ao (cz (qJ t1 (fJ (r:=true) (KI h hi hw rfl rfl) (y:=.bor (.ob (.dict (DX p.n)))) rfl (congrArg (λo:Option FV=>some o.isSome) (Fw hT)))) (ao (EC (k:=(p.T i:Int)) (xs:=(ae (p.P i+1)).map λj=>(p.B j:Int)) rfl (de (x:=.bor (.ob (.dict (DX p.n)))) rfl (KI h hi hw rfl rfl) (congrArg (λo:Option FV=>o.map EV.fv) (Fw hT))) ⟨by refine eW (aj ..)<|eW aq ?_;exact az q1 (ak m3 (by decide)),bI _,dn.mpr (az hT (ak h.i4 (by decide)))⟩) aY)) ?_) (.va _) (g.hit h hi hw)
   exact eW (Xx h q1 q2) rfl
 . rw[show((p.r i).w==4)=false from beq_eq_false_iff_ne.mpr hw]at t1
   exact .next c (.val (nI i)) (ao (bl (jJ (d7 t1)) aY) aY) (.va _) (g.miss h hw)
theorem I2.done(h:p.Ok N)(g:I2 p p.n c):c+1=p.m:=
 (jz g.hc).elim (λq=>absurd ((g.hj c q).mp (az (h.calls c q).2.1 (ak (h.le g.hc (aT _)) (bh h.Bm)))) (b8 _)) id
theorem RS(h:p.Ok N):fU ((ae p.m).map λj=>(p.B j:Int))=(ae p.m).map λj=>(p.B j:Int):=E3 _ (by
 exact iW List.pairwise_map<|XM (R:=(·<·)) (λ_ hb WO=>uw.mpr (bV (h.mono WO (bV (aC.mp hb))))) List.pairwise_lt_range)
theorem OO(hx:x.arg.GQ=some x)(hl:Cf false [x]=some (.fv (fH p))):ex (au N k) N (.setAttr 0 0 (.bj .list false (.cons (.var 1) .nil))) ([.own (.inst 490 []),x.arg,.unset,.unset,.unset],wl)=some (.next,[.own (.inst 490 [(0,.fv (fH p))]),x.arg,.unset,.unset,.unset],wl):=by
 have v:ev (au N k) (.var 1) [.own (.inst 490 []),x.arg,.unset,.unset,.unset] wl=some (x,wl):=by
  show(x.arg.GQ).map (λy=>(y,wl))=_;exact eW hx rfl
 have e:ev (au N k) (.bj .list false (.cons (.var 1) .nil)) [.own (.inst 490 []),x.arg,.unset,.unset,.unset] wl=some (.fv (fH p),wl):=cI (ah v aE) hl;exact(Me (c:=490) rfl e (by decide)).trans rfl
theorem Ep(h:p.Ok N)(hx:x.arg.GQ=some x)(hl:Cf false [x]=some (.fv (fH p))):au N (k+12) (.obj 490) [x] wl=some (p.fv,wl):=by
 refine xT (C:=au N (k+11)) (N:=N) (wl:=wl) (fr:=Y3 p x 0 .unset) (Y3 p x) (λ_=>wl) (λi j=>j=i) 0 (j:=3) (b:=bR (bodyOf dA))
  (E8 h rfl rfl) (cL (ak h.i4 (by decide))) rfl .un rfl (λ_ _=>rfl) (λ_ _ _=>rfl) (λi j=>ON h) λi1 y1 ZI q1 e1=>?_
 subst q1;refine xT (C:=au N (k+11)) (N:=N) (wl:=wl) (fr:=[.own (E5 p),x.arg,.val (nI p.n),y1,.own (.ob (.set [0]))]) (XU p x) (λ_=>wl) (I2 p) 0 (j:=3) (y0:=y1) (b:=bR (lZ 6 (bodyOf dA)))
  (E8 h rfl rfl) (cL (b:=p.n) (ak h.i4 (by decide))) (by show _=[_,_,_,_,Slot.own (.ob (.set [((p.B 0:Nat):Int)]))];exact eW h.B0 rfl) ZI ⟨h.m3.1,λj _=>⟨λq=>absurd q (dz _),λq=>absurd q (dz _)⟩⟩ (λ_ _=>rfl) (λ_ _ _=>rfl) (λi c=>OM h) λc y2 hy2 g e2=>?_
 unfold XU at e2;rw[g.done h]at e2;refine(XY (c:=490) (r:=[x.arg,.val (nI p.n),y2,.own (.ob (.set ((ae p.m).map λj=>(p.B j:Int))))]) (fs:=[(0,.fv (fH p)),(1,.ob (.list ((ae p.n).map nI))),(2,.ob (.dict (DX p.n))),(3,.fv (nI p.n)),(4,.fv (nL ((ae p.m).map p.B)))]) rfl rfl rfl rfl (ao (OO hx hl) (ao rfl (ao rfl (ao (aZ rfl rfl) (ao e1 (ao rfl (ao rfl (ao e2 (ao ?_ aY)))))))))).trans rfl;refine(Me (c:=490) (d:=nL ((ae p.m).map p.B)) rfl (cI (ah rfl aE) ?_) (av rfl)).trans rfl
 show some (EV.fv (.list ((fU ((ae p.m).map λj=>(p.B j:Int))).map .int)))=_;rw[RS h,nL,bG,bG];rfl
theorem HN{σ:Type}{F:σ->FV->Option (Fl×σ)}(I:σ->Prop)(rest:List FV)(vs:List FV):(∀v∈vs,∀a,I a->∃a',F a v=some (.next,a')/\I a')->∀a,I a->∃a',I a'/\forL F (vs++rest) a=forL F rest a':=
 t_ (motive:=λvs=>(∀v∈vs,∀a,I a->∃a',F a v=some (.next,a')/\I a')->∀a,I a->∃a',I a'/\forL F (vs++rest) a=forL F rest a') (λ_ a h=>⟨a,h,rfl⟩)
  (λv vs ih st a h=>bS (st v a7 a h) λa1 e h1=>bS (ih (λv hv=>st v (aW _ hv)) a1 h1) λa2 h2 e2=>⟨a2,h2,bs e e2⟩) vs
theorem K6{σ:Type}{F:σ->FV->Option (Fl×σ)}{v:FV}{r:List FV}{a a':σ}(h:F a v=some (.ret d,a')):forL F (v::r) a=some (.ret d,a'):=bs h rfl
theorem SE(h:a+1<b):a<(a+b)/2:=by lia
theorem SH(h:a<b):(a+b)/2<b:=by lia
section
variable (h:p.Ok N)
include h
theorem AK(hj:j<p.m):((ae p.m).map p.B).map nI=((ae p.m).map p.B).map nI/\jt (.fv (nL ((ae p.m).map p.B))) (.fv (nI j)) wl=some (.fv (nI (p.B j))):=
 ⟨rfl,fx (by refine eW bG ?_;exact eD hj) (by have:=h.m3.2;lia)⟩
theorem nQ:au N (k+1) (.obj 454) [.fv p.fv] wl=some (nI p.n,wl):=by
 have lo:((ae p.n).map p.o).length=p.n:=by exact eW (aj ..)<|eW aq rfl
 have:=nC (xs:=(ae p.n).map p.o) (ak (bh lo) (ll h.i4 rfl));rw[lo]at this;exact cK rfl<|bt rfl rfl<|br<|bY<|cI (ah rfl aE) this
theorem tO(hi:i<p.n):jt (.fv (fH p)) (.fv (nI i)) wl=some (.fv (p.o i)):=fx (eD hi) (by have:=h.i4;lia)
theorem wQ(hi:i<p.n)(hw:(p.r i).w=1\/(p.r i).w=2\/(p.r i).w=4):au N (k+11) (.obj 461) [.fv p.fv,.fv (nI i)] wl=some (nI (p.T i),wl):=
 yT (y0:=.fv (fH p)) (y1:=.fv (nL (ae p.n))) rfl rfl (tO h hi) rfl (fx (by exact eW (eD hi) rfl) (by have:=h.i4;lia)) ((h.ord i hi).dist hw)
theorem i8(hi:i<p.n)(hw:(p.r i).w=1\/(p.r i).w=2\/(p.r i).w=4):au N (k+12) (.obj 468) [.fv p.fv,.fv (nI i)] wl=some (nI (p.T i),wl):=
 cK (k:=k+11) rfl<|bt rfl rfl<|br<|bY<|de (x:=.fv (.dict (DX p.n))) rfl (fm (c:=490) rfl (ah rfl aE) rfl rfl (wQ h hi hw)) (by
  show((DX p.n).lookup ((p.T i:Nat):Int)).map EV.fv=_;refine eW (sC (h.goal hi hw)) ?_;rfl)
structure BIn(p:Prog)(i:Nat)(a:Nat×Nat×Slot):Prop where
 h1:a.1<a.2.1
 h2:a.2.1<=p.m
 h3:p.B a.1<=i
 h4:i<p.B a.2.1
 y:Y a.2.2
def BF(p:Prog)(i:Nat)(a:Nat×Nat×Slot):List Slot:=[.val p.fv,.val (nI i),.val (nI a.1),.val (nI a.2.1),a.2.2]
theorem Jk{a:Nat×Nat×Slot}:BIn p i a->decide ((1:Int)<(a.2.1:Int)-a.1)=true->yZ (hX (au N k) N (cN (bodyOf gN)) (BF p i a,wl)) (BF p i) (λ_=>wl) λa'=>BIn p i a'/\a'.2.1-a'.1<a.2.1-a.1:=
 Sl a λlo pL s g hT=>by
  have g1:lo<pL:=g.h1
  have ht:lo+1<pL:=by have:=of_decide_eq_true hT;dsimp only at this;lia
  have m1:=SE ht
  have m2:=SH g1
  have mid:(lo+pL)/2<p.m:=az m2 g.h2
  have st:ex (au N k) N (o5 0 (cN (bodyOf gN))) (BF p i (lo,pL,s),wl)=some (.next,BF p i (lo,pL,.val (nI ((lo+pL)/2))),wl):=aZ (dh (x:=.fv (nI (lo+pL))) rfl rfl (Eb (m:=2) (by decide) (by decide))) (jD rfl g.y)
  have RK:eK (au N k) (.cmp .LtE (.idx (.attr (.var 0) 4) (.var 4)) (.var 1)) (BF p i (lo,pL,.val (nI ((lo+pL)/2)))) wl=some (decide (p.B ((lo+pL)/2)<=i),wl):=aaL (x:=p.B ((lo+pL)/2)) (y:=i) (decide_eq_decide.mpr uw) (de (x:=.fv (nL ((ae p.m).map p.B))) rfl rfl (AK h mid).2) rfl;by_cases q:p.B ((lo+pL)/2)<=i
  . rw[decide_eq_true q]at RK
    exact .mk .next ((lo+pL)/2,pL,.val (nI ((lo+pL)/2))) (ao st (ao (cz RK (ao (aZ rfl rfl) aY)) aY)) fw ⟨⟨m2,g.h2,q,g.h4,.va _⟩,iZ g1 m1⟩
  . rw[decide_eq_false q]at RK
    exact .mk .next (lo,(lo+pL)/2,.val (nI ((lo+pL)/2))) (ao st (ao (bl RK (ao (aZ rfl rfl) aY)) aY)) fw ⟨⟨m1,bV mid,g.h3,P' q,.va _⟩,Nat.sub_lt_sub_right (bV m1) m2⟩
theorem lE(hi:i<p.n)(hN:10<=N):au N (k+1) (.obj 475) [.fv p.fv,.fv (nI i)] wl=some (nI (p.B (p.P i)),wl):=by
 have m3:=h.m3
 have ln:jw .len false [.fv (nL ((ae p.m).map p.B))]=some (.fv (nI p.m)):=by
  have:=nC (xs:=((ae p.m).map p.B).map nI) (by refine eW (aj ..)<|eW (aj ..)<|eW aq ?_;exact ll m3.2 rfl)
  rwa[aj,aj,aq]at this
 exact se (C:=au N k) (N:=N) (wl:=wl) (fr:=BF p i (0,p.m,.unset)) (BF p i) (λ_=>wl) (BIn p i) (λa=>a.2.1-a.1) (0,p.m,.unset)
  (t:=.cmp .Gt (.bin .Sub (.var 3) (.var 2)) (.lit (.int 1))) (b:=cN (bodyOf gN)) rfl rfl ⟨m3.1,aT _,h.B0.symm▸aU i,h.Bm.symm▸hi,.un⟩ (aQ m3.2 (az (by decide) hN)) (λa=>decide ((1:Int)<(a.2.1:Int)-a.1)) (λa _=>fJ (dh rfl rfl rfl) rfl rfl) (λa=>Jk h) λa=>Sl a λlo pL s g hT e=>by
  have g1:lo<pL:=g.h1
  have e0:pL=lo+1:=by have:=of_decide_eq_false hT;dsimp only at this;lia
  subst e0
  have hP:=h.Iq hi g.h2 g.h3 g.h4;exact cK rfl<|bt rfl rfl<|ao (gk (xs:=[.fv (nI 0),.fv (nI p.m)]) (ah rfl (ah (cI (ah rfl aE) ln) aE)) rfl)<|ao e<|br<|bY<|de (x:=.fv (nL ((ae p.m).map p.B))) rfl rfl (by refine eW hP ?_;exact(AK h g.h2).2)
theorem Ca(hj:j<p.m):au N (k+1) (.obj 482) [.fv p.fv,.fv (nI (p.B j))] wl=some (nI (p.B (j+1)),wl):=by
 have m3:=h.m3
 have lo:((ae p.n).map p.o).length=p.n:=by exact eW (aj ..)<|eW aq rfl
 have ln:=nC (xs:=(ae p.n).map p.o) (ak (bh lo) (ll h.i4 rfl));rw[lo]at ln
 have it:items (.fv (nL ((ae p.m).map p.B)))=some (((ae (j+1)).map p.B).map nI++((ae (p.m-(j+1))).map λi=>p.B (j+1+i)).map nI):=by
  rw[d_ (by rw[aj,aq];exact ll m3.2 rfl),<-bf];refine congrArg (λl=>some (Rr nI l)) ?_
  (refine xE (CE (show j+1<=p.m from hj)) λd hd=>?_)
  refine eW hd<|eW (cW ..)<|eW y4<|eW bf<|eW bG ?_;rfl
 have RK:∀v y,Y y->hX (au N k) N (bR (bodyOf gj)) ([.val p.fv,.val (nI (p.B j)),.val (nI v)],wl)=if p.B j<v then some (.ret (nI v),[.val p.fv,.val (nI (p.B j)),.val (nI v)],wl)else some (.next,[.val p.fv,.val (nI (p.B j)),.val (nI v)],wl):=λv y hy=>by
  split
  . rename_i q;exact br (cz (Ih (x:=v) (y:=p.B j) (decide_eq_true (dn.mpr q)) rfl rfl) (br (bY rfl)))
  . rename_i q;exact ao (bl (Ih (x:=v) (y:=p.B j) (decide_eq_false λc=>q (dn.mp c)) rfl rfl) aY) aY
 (refine bS (HN (F:=λ(a:St) v=>(c7 a.1 [2] v).bind λfr=>hX (au N k) N (bR (bodyOf gj)) (fr,a.2)) (λa=>∃y,Y y/\a=([.val p.fv,.val (nI (p.B j)),y],wl)) (((ae (p.m-(j+1))).map λi=>p.B (j+1+i)).map nI) (((ae (j+1)).map p.B).map nI) (λv hv a ⟨y,hy,ha⟩=>by
   rw[bG]at hv;obtain⟨i,hi,rfl⟩:=bO.mp hv;rw[aC]at hi;subst ha
   have:=h.le (mX hi) (bV hj);refine⟨_,?_,.val (nI (p.B i)),.va _,rfl⟩
   show(c7 [.val p.fv,.val (nI (p.B j)),y] [2] (nI (p.B i))).bind _=_;rw[show c7 [.val p.fv,.val (nI (p.B j)),y] [2] (nI (p.B i))=some [.val p.fv,.val (nI (p.B j)),.val (nI (p.B i))]by cases hy<;>rfl,bJ,RK _ _ hy,if_neg (cV.mpr this)]) ([.val p.fv,.val (nI (p.B j)),.unset],wl) ⟨_,.un,rfl⟩) λa1 q2=>?_;obtain⟨y,hy,rfl⟩:=q2;intro e1)
 by_cases q:j+1<p.m
 . (refine xE (Nat.exists_eq_add_of_lt q) λd hd=>?_)
   have e2:=K6 (F:=λ(a:St) v=>(c7 a.1 [2] v).bind λfr=>hX (au N k) N (bR (bodyOf gj)) (fr,a.2)) (v:=nI (p.B (j+1))) (r:=((ae d).map λi=>p.B (j+1+(i+1))).map nI) (a:=([.val p.fv,.val (nI (p.B j)),y],wl)) (a':=([.val p.fv,.val (nI (p.B j)),.val (nI (p.B (j+1)))],wl)) (d:=nI (p.B (j+1))) (by
    show(c7 [.val p.fv,.val (nI (p.B j)),y] [2] (nI (p.B (j+1)))).bind _=_;rw[show c7 [.val p.fv,.val (nI (p.B j)),y] [2] (nI (p.B (j+1)))=some [.val p.fv,.val (nI (p.B j)),.val (nI (p.B (j+1)))]by cases hy<;>rfl,bJ,RK _ _ hy,if_pos (h.UX j hj)])
   refine cK rfl<|bt rfl rfl<|br (Gm (x:=.fv (nL ((ae p.m).map p.B))) rfl it (e1.trans (UW ?_ e2)));rw[show p.m-(j+1)=d+1 by exact eW hd<|eW (fc (j+1) ..)<|eW (cW ..) rfl,CG];simp only[bT,bG];rfl
 . have hm:p.m=j+1:=by lia
   rw[show p.m-(j+1)=0 by omega]at e1 it;refine eL hm<|eW h.Bm ?_;exact cK rfl<|bt rfl rfl<|ao (Gm (x:=.fv (nL ((ae p.m).map p.B))) rfl it e1)<|br<|bY<|cI (ah rfl aE) ln
end
theorem kU{t:IE}{a:IB}(h:eK C t fr wl=some (false,wl)):ex C N (.ite t a .nil) (fr,wl)=some (.next,fr,wl):=bl h aY
theorem PZ{a b c:IE}{x y z:Int}(h3:x<=y)(h5:y<z)(h1:ev C a fr wl=some (.fv (.int x),wl))(h2:ev C b fr wl=some (.fv (.int y),wl))(h4:ev C c fr wl=some (.fv (.int z),wl)):eK C (.chain .LtE .Lt a b c) fr wl=some (true,wl):=by
 refine eW yK<|eW h1<|eW (bJ ..)<|eW h2<|eW (bJ ..) ?_
 show((some (decide (x<=y)):Option Bool).bind _)=_;refine eW (decide_eq_true h3)<|eW (bJ ..)<|eW (if_pos rfl)<|eW h4<|eW (bJ ..) ?_
 show(some (decide (y<z)):Option Bool).map _=_;exact eW (decide_eq_true h5) rfl
noncomputable def Prog.succ(p:Prog)(i:Nat):List Nat:=if(p.r i).w=3 then[]else if(p.r i).w=2 then[p.T i]else if(p.r i).w=1/\p.T i≠i+1 then[i+1,p.T i]else[i+1]
section
variable (h:p.Ok N)
include h
theorem Prog.Ok.j6(hi:i<p.n)(hj:j∈p.succ i):j<p.n/\p.P j=p.P i:=by
 unfold Prog.succ at hj;split at hj
 . exact absurd hj a8
 . rename_i h3
   split at hj
   . rename_i h2;rw[aH]at hj;subst hj;exact h.f6 i hi (.inr h2)
   . split at hj
     . rename_i h1
       rcases a6.mp hj with q|q
       . exact eW q<|h.next hi h3
       . rw[aH]at q;subst q;exact h.f6 i hi (.inl h1.1)
     . rw[aH]at hj;subst hj;exact h.next hi h3
theorem wW(hi:i<p.n):au N (k+10) (.obj 221) [.fv (p.o i)] wl=some (.bool ((p.r i).w==3),wl)/\au N (k+10) (.obj 200) [.fv (p.o i)] wl=some (.bool ((p.r i).w==2),wl)/\au N (k+10) (.obj 228) [.fv (p.o i)] wl=some (.bool ((p.r i).w==1),wl)/\au N (k+10) (.obj 214) [.fv (p.o i)] wl=some (.bool ((p.r i).w==4),wl)/\
 au N (k+10) (.obj 501) [.fv (p.o i)] wl=some (.bool ((p.r i).w==1||(p.r i).w==2||(p.r i).w==4),wl):=by
 have t:=(h.ord i hi).told k wl;exact⟨ag (kB t 1),ag (kB t 2),ag (kB t 3),ag (kB t 4),ag (kB t 5)⟩
def Yt(p:Prog)(i:Nat):List Slot:=[.val p.fv,.val (nI i),.val (p.o i)]
theorem ED(hi:i<p.n)(hw:(p.r i).w=1\/(p.r i).w=2\/(p.r i).w=4):ev (au N (k+12)) (.eg (.user 22) (.var 0) (.cons (.var 1) .nil)) (Yt p i) wl=some (.fv (nI (p.T i)),wl):=fm (c:=490) rfl (ah rfl aE) rfl rfl (i8 h (k:=k) hi hw)
theorem pR(hi:i<p.n){b:Bool}(t:au N (k+12) (.obj a) [.fv (p.o i)] wl=some (.bool b,wl)){c:Bool}(e:b=c):eK (au N (k+12)) (.call (.bc (.obj a)) (.cons (.var 2) .nil)) (Yt p i) wl=some (c,wl):=e▸jI rfl (aG (ah rfl aE) t)
theorem sZ(hi:i<p.n):au N (k+13) (.obj 508) [.fv p.fv,.fv (nI i)] wl=some (nL (p.succ i),wl):=by
 refine fA (wW h (k:=k+2) (wl:=wl) hi) λa3 a2 a1 _=>?_;refine cK (k:=k+12) rfl<|bt (cH:=Yt p i) rfl rfl<|ao (aZ (de (x:=.fv (fH p)) rfl rfl (tO h hi)) rfl) ?_;by_cases h3:(p.r i).w=3
 . exact eW (show p.succ i=[]from if_pos h3)<|br (cz (pR h hi a3 (beq_iff_eq.mpr h3)) (br (bY rfl)))
 refine ao (bl (pR h hi a3 (beq_eq_false_iff_ne.mpr h3)) aY) ?_;by_cases h2:(p.r i).w=2
 . exact eW (show p.succ i=[p.T i]from(if_neg h3).trans (if_pos h2))<|br (cz (pR h hi a2 (beq_iff_eq.mpr h2)) (br (bY (y6 (own:=false) (ah (ED h hi (.inr (.inl h2))) aE) rfl))))
 refine ao (bl (pR h hi a2 (beq_eq_false_iff_ne.mpr h2)) aY) ?_;by_cases h1:(p.r i).w=1
 . have t2:∀r,decide (p.T i=i+1)=r->eK (au N (k+12)) (.cmp .NotEq (.eg (.user 22) (.var 0) (.cons (.var 1) .nil)) (.bin .Add (.var 1) (.lit (.int 1)))) (Yt p i) wl=some (!r,wl):=λr e=>L_ (x:=(p.T i:Int)) (y:=((i+1:Nat):Int)) (r:=r) (by rw[<-e,cR,beq_iff_eq,decide_eq_true_iff];exact jh) (ED h hi (.inl h1)) rfl
   have t1:=pR h hi a1 (beq_iff_eq.mpr h1);by_cases q:p.T i=i+1
   . exact eW (show p.succ i=[i+1]from(if_neg h3).trans ((if_neg h2).trans (if_neg λc=>c.2 q)))<|ao (bl (jJ (dS t1 (d7 (t2 true (decide_eq_true q))))) aY) (br (bY (y6 (own:=false) (ah (x:=.fv (nI (i+1))) rfl aE) rfl)))
   . exact eW (show p.succ i=[i+1,p.T i]from(if_neg h3).trans ((if_neg h2).trans (if_pos ⟨h1,q⟩)))<|br (cz (jJ (dS t1 (dS (t2 false (decide_eq_false q)) pA))) (br (bY (y6 (own:=false) (ah (x:=.fv (nI (i+1))) rfl (ah (ED h hi (.inl h1)) aE)) rfl))))
 . exact eW (show p.succ i=[i+1]from(if_neg h3).trans ((if_neg h2).trans (if_neg λc=>h1 c.1)))<|ao (bl (jJ (d7 (pR h hi a1 (beq_eq_false_iff_ne.mpr h1)))) aY) (br (bY (y6 (own:=false) (ah (x:=.fv (nI (i+1))) rfl aE) rfl)))
theorem oK(hv:ev (au N (k+1)) (.var s) fr wl=some (.fv p.fv,wl)):ev (au N (k+1)) (.bj .range false (.cons (.eg (.user 20) (.var s) .nil) .nil)) fr wl=some (.fv (.range 0 p.n 1),wl):=
 cI (ah (fm (c:=490) hv aE rfl rfl (nQ h)) aE) rfl
noncomputable def Prog.locals(p:Prog):List Nat:=(ae p.n).filter λi=>(p.r i).w==4
theorem tW:au N (k+11) (.obj 513) [.fv p.fv] wl=some (nL p.locals,wl):=by
 exact cK (k:=k+10) rfl<|bt rfl rfl<|br<|bY<|gz (own:=false) nI (ae p.n) (cs:=[.ro p.fv]) (oK h (k:=k+9) (s:=0) rfl) (cL (by have:=h.i4;lia)) rfl (λi=>(p.r i).w==4) nI (λi hi=>by
  have t:eK (au N (k+10)) (.call (.bc (.obj 214)) (.cons (.idx (.attr (.var 1) 0) (.var 0)) .nil)) [.val (nI i),.ro p.fv] wl=some ((p.r i).w==4,wl):=jI rfl (aG (ah (de (x:=.fv (fH p)) rfl rfl (tO h (aC.mp hi))) aE) (wW h (k:=k) (aC.mp hi)).2.2.2.1);induction q:((p.r i).w==4)using ax with
  |true=>exact dS (q▸t) pA
  |false=>exact d7 (q▸t)) (λ_ _ _=>rfl) (by refine eW aq ?_;have:=h.i4;lia)
theorem qA:i∈p.locals↔i<p.n/\(p.r i).w=4:=by
 unfold Prog.locals;rw[eO,aC,beq_iff_eq]
def KF(p:Prog)(a:Slot×Slot)(y:Slot):List Slot:=[.val p.fv,y,a.1,a.2]
omit h in
theorem w_any{w:Nat}(hw:w=1\/w=2\/w=4):(w==1||w==2||w==4)=true:=by rcases hw with q|q|q<;>refine eW q ?_<;>rfl
omit h in
theorem UZ{w:Nat}(hw:¬(w=1\/w=2\/w=4)):(w==1||w==2||w==4)=false:=by
 refine eW (beq_eq_false_iff_ne.mpr λe=>hw (.inl e))<|eW (beq_eq_false_iff_ne.mpr λe=>hw (.inr (.inl e)))<|eW (beq_eq_false_iff_ne.mpr λe=>hw (.inr (.inr e))) ?_;rfl
theorem Mt(hi:i<p.n){a:Slot×Slot}(h1:Y a.1):ex (au N k) N (.assign 2 (.idx (.attr (.var 0) 0) (.var 1))) (KF p a (.val (nI i)),wl)=some (.next,KF p (.val (p.o i),a.2) (.val (nI i)),wl):=
 aZ (de (x:=.fv (fH p)) rfl rfl (tO h hi)) (jD rfl h1)
theorem Ru(hi:i<p.n){a:Slot}:eK (au N (k+13)) (.call (.bc (.obj 501)) (.cons (.var 2) .nil)) (KF p (.val (p.o i),a) (.val (nI i))) wl=some ((p.r i).w==1||(p.r i).w==2||(p.r i).w==4,wl):=jI rfl (aG (ah rfl aE) (wW h (k:=k+3) (wl:=wl) hi).2.2.2.2)
theorem KZ{a:Slot×Slot}(hi:i<p.n)(h1:Y a.1/\Y a.2):Turn (hX (au N (k+13)) N (bR (bodyOf gW)) (KF p a (.val (nI i)),wl)) (KF p) (λ_=>wl) λa=>Y a.1/\Y a.2:=by
 by_cases hw:(p.r i).w=1\/(p.r i).w=2\/(p.r i).w=4
 . exact .next (.val (p.o i),.val (nI (p.T i))) (.val (nI i)) (ao (Mt h hi h1.1)<|ao (cz ((Ru h hi).trans (congrArg (λb=>some (b,wl)) (w_any hw))) (ao (aZ (fm (c:=490) rfl (ah rfl aE) rfl rfl (wQ h (k:=k+2) hi hw)) (jD rfl h1.2))
    (ao (kU (Gj (PZ (x:=0) (y:=p.T i) (z:=p.n) (bI _) (dn.mpr (h.goal hi hw)) rfl rfl rfl))) (ao (kU (fJ rfl (y:=.fv (.dict (DX p.n))) rfl (congrArg (λo:Option FV=>(some o.isSome).map (!·)) (sC (h.goal hi hw))))) aY)))) aY) (.va _) ⟨.va _,.va _⟩
 . exact .next (.val (p.o i),a.2) (.val (nI i)) (ao (Mt h hi h1.1)<|ao (bl ((Ru h hi).trans (congrArg (λb=>some (b,wl)) (UZ hw))) aY) aY) (.va _) ⟨.va _,h1.2⟩
theorem XN(hi:i<p.n){a:Slot}{b:Bool}(e:((p.r i).w==2||(p.r i).w==1)=b):eK (au N (k+13)) (.uG (.cons (.call (.bc (.obj 200)) (.cons (.var 2) .nil)) (.cons (.call (.bc (.obj 228)) (.cons (.var 2) .nil)) .nil))) (KF p (.val (p.o i),a) (.val (nI i))) wl=some (b,wl):=
 fA (wW h (k:=k+3) (wl:=wl) hi) λ_ a2 a1 _=>(Ae (fZ (jI rfl (aG (ah rfl aE) a2)) λ_=>fZ (jI rfl (aG (ah rfl aE) a1)) λ_=>r7)).trans (congrArg (λb=>some (b,wl)) ((congrArg (_||·) (fP _)).trans e))
theorem KY(hN:10<=N){a:Slot×Slot}(hi:i<p.n)(h1:Y a.1):Turn (hX (au N (k+13)) N (bR (lZ 1 (bodyOf gW))) (KF p a (.val (nI i)),wl)) (KF p) (λ_=>wl) λa=>Y a.1:=by
 refine .next (.val (p.o i),a.2) (.val (nI i)) (ao (Mt h hi h1)<|ao (kU ?_) aY) (.va _) (.va _)
 by_cases hw:(p.r i).w=1\/(p.r i).w=2
 . have hT:=h.f6 i hi hw
   exact jJ (dS (XN h hi (b:=true) (by rcases hw with q|q<;>refine eW q ?_<;>rfl)) (d7 (L_ (x:=p.B (p.P (p.T i))) (y:=p.B (p.P i)) (r:=true) (by rw[hT.2,beq_self_eq_true]) (fm (c:=490) rfl (ah (fm (c:=490) rfl (ah rfl aE) rfl rfl (i8 h (k:=k+1) hi (hw.elim .inl λq=>.inr (.inl q)))) aE) rfl rfl (lE h (k:=k+12) hT.1 hN)) (fm (c:=490) rfl (ah rfl aE) rfl rfl (lE h (k:=k+12) hi hN)))))
 . exact jJ (d7 (XN h hi (b:=false) (by refine eW (beq_eq_false_iff_ne.mpr λe=>hw (.inl e))<|eW (beq_eq_false_iff_ne.mpr λe=>hw (.inr e)) ?_;rfl)))
theorem wN(hN:10<=N):au N (k+14) (.obj 542) [.fv p.fv] wl=some (.none,wl):=by
 have i4:p.n<=100000:=ak h.i4 (by decide);refine xT (C:=au N (k+13)) (N:=N) (wl:=wl) (fr:=KF p (.unset,.unset) .unset) (KF p) (λ_=>wl) (λ_ a=>Y a.1/\Y a.2) (.unset,.unset) (j:=1) (y0:=.unset) (b:=bR (bodyOf gW))
  (oK h (k:=k+12) (s:=0) rfl) (cL i4) rfl .un ⟨.un,.un⟩ (λ_ _=>rfl) (λ_ _ _=>rfl) (λi a=>KZ h) λa1 y1 ZI h1 e1=>?_
 refine xT (C:=au N (k+13)) (N:=N) (wl:=wl) (fr:=KF p a1 y1) (KF p) (λ_=>wl) (λ_ a=>Y a.1) a1 (j:=1) (y0:=y1) (b:=bR (lZ 1 (bodyOf gW)))
  (oK h (k:=k+12) (s:=0) rfl) (cL (b:=p.n) i4) rfl ZI h1.1 (λ_ _=>rfl) (λ_ _ _=>rfl) (λi a=>KY h hN) λa2 y2 hy2 h2 e2=>?_
 exact cK (k:=k+13) rfl<|Af rfl rfl<|ao e1<|ao e2 aY
end
section
variable (h:p.Ok N)
include h
theorem nE:items (.fv (nL ((ae p.m).map p.B)))=some ((ae p.m).map λj=>nI (p.B j)):=by
 rw[d_ (by rw[aj,aq];have:=h.m3.2;lia),bG];rfl
theorem Ll(hj:j<p.m):p.B (j+1)-1<p.n/\(p.r (p.B (j+1)-1)).w=3:=by
 have h1:=h.UX j hj
 have h2:=h.le (show j+1<=p.m from hj) (aT _);rw[h.Bm]at h2
 have pos:=aQ (aU _) h1
 have hi:p.B (j+1)-1<p.n:=az (Mp pos It) h2
 have hP:=h.Iq hi hj (Iv h1) (Mp pos It);exact⟨hi,(h.last _ hi).mpr (by exact eW hP<|mz pos)⟩
theorem xU:au N (k+14) (.obj 549) [.fv p.fv] wl=some (.none,wl):=
 xT (C:=au N (k+13)) (N:=N) (wl:=wl) (fr:=[.val p.fv,.unset,.unset]) (λ(a:Slot) y=>[.val p.fv,y,a]) (λ_=>wl) (λ_ a=>Y a) .unset (j:=1) (y0:=.unset) (it:=.attr (.var 0) 4) (b:=bR (bodyOf qo))
  (x:=.fv (nL ((ae p.m).map p.B))) rfl (nE h) rfl .un .un (λ_ _=>rfl) (λ_ _ _=>rfl) (λj s hj hs=>xA (Ll h hj) λhi hw=>by
    have a3:=(wW h (k:=k+3) (wl:=wl) hi).1;rw[hw]at a3
    have:=h.UX j hj;exact .next (.val (nI (p.B (j+1)-1))) (.val (nI (p.B j))) (ao (aZ (d:=nI (p.B (j+1)-1)) (dh (fm (c:=490) rfl (ah rfl aE) rfl rfl (Ca h (k:=k+12) hj)) rfl (congrArg (λz=>some (EV.fv (.int z))) (show(p.B (j+1):Int)-1=((p.B (j+1)-1:Nat):Int)by lia))) (jD rfl hs))<|ao (kU (jJ (d7 (Gj (b:=true) (jI rfl (aG (ah (de (x:=.fv (fH p)) rfl rfl (tO h hi)) aE) a3)))))) aY) (.va _) (.va _))
  λ_ _ _ _ e=>cK (k:=k+13) rfl<|Af rfl rfl<|ao e aY
theorem Prog.Ok.pos:0<p.n:=aQ (aU _) (h.Oj (j:=0) h.m3.1)
end
def Prog.ic(p:Prog)(i:Nat):List Nat:=p.succ i++if(p.r i).w=4 then[p.T i]else[]
structure Seen(p:Prog)(S:Nat->Bool)(Wt:List Nat):Prop where
 zero:S 0=true
 wt:∀i∈Wt,i<p.n
 U6:∀i,i<p.n->S i=true->i∈Wt\/∀j∈p.ic i,S j=true
def jQ(p:Prog)(S:Nat->Bool):Nat:=sumTo (λi=>if S i then 0 else 1) p.n
noncomputable abbrev lr(p:Prog)(S:Nat->Bool):List FV:=(ae p.n).map λi=>FV.bool (S i)
section
variable (h:p.Ok N)
include h
theorem Hi(hi:i<p.n)(hj:j∈p.ic i):j<p.n:=by
 rcases cp.mp hj with q|q
 . exact(h.j6 hi q).1
 . split at q
   . rename_i hw;rw[aH]at q;subst q;exact h.goal hi (.inr (.inr hw))
   . exact absurd q a8
theorem qz(i:Nat):(p.ic i).length<=3:=by
 delta Prog.ic Prog.succ;by_cases h3:(p.r i).w=3
 . rw[if_pos h3,if_neg (by lia)];simp
 . refine eW (if_neg h3) ?_
   by_cases h2:(p.r i).w=2
   . rw[if_pos h2,if_neg (by lia)];simp
   . refine eW (if_neg h2) ?_;split<;>split<;>simp
theorem L6(z:S 0=true)(sh:∀i,i<p.n->S i=true->∀j∈p.ic i,S j=true):∀i,i<p.n->S i=true:=by
 intro i;induction i using Nat.strongRecOn with
 |ind i ih=>
  intro hi;cases i with
  |zero=>exact z
  |succ i=>
   by_cases h3:(p.r i).w=3
   . have hl:=(h.last i (g9 hi)).mp h3
     have hp:=(h.part i (g9 hi)).1
     have hm:p.P i+1<p.m:=by
      rcases jz (show p.P i+1<=p.m from hp)with q|q
      . exact q
      . rw[q,h.Bm]at hl;exact absurd hi (by exact eW hl<|b8 _)
     (refine jP (h.calls (p.P i) hm) λc1 c2 c3=>?_)
     have hc:p.C (p.P i)<p.n:=by lia
     refine sh _ hc (ih _ (by lia) hc) _ (dF _ ?_);refine eW (if_pos c3)<|iW aH ?_;obtain⟨-,q2,-⟩:=h.call _ hc c3;rw[q2,h.Iq hc (by lia) c1 c2,hl]
   . by_cases h2:(p.r i).w=2
     . (refine dU (h.reach i hi h2) λj hj j1 j2=>?_)
       refine sh j (by lia) (ih j (by lia) (by lia)) _ (du _ ?_);delta Prog.succ;rw[if_neg (by lia),if_neg (by lia)];split
       . refine eW j2 ?_;simp
       . rename_i q
         have:p.T j=j+1:=fg λc=>q ⟨j1,c⟩;refine eL j2<|eW this ?_;simp
     . refine sh i (by lia) (ih i (by lia) (by lia)) _ (du _ ?_)
       delta Prog.succ;refine eW (if_neg h3)<|eW (if_neg h2) ?_;split<;>simp
structure T'(p:Prog)(S:Nat->Bool)(pP:List Nat)(i n:Nat)(a:(Nat->Bool)×List Nat):Prop where
 g1:∀j,S j=true->a.1 j=true
 g2:∀j∈pP,j∈a.2
 g3:∀j∈a.2,j<p.n
 g4:jQ p a.1+a.2.length=jQ p S+pP.length
 g5:∀j,j<p.n->a.1 j=true->S j=true\/j∈a.2
 g6:∀m,m<n->∀j,(p.ic i)[m]?=some j->a.1 j=true
omit h in
theorem T'.skip{pP W1:List Nat}{n:Nat}(g:T' p S pP i n (S1,W1))(hj:(p.ic i)[n]?=some j)(q:S1 j=true):T' p S pP i (n+1) (S1,W1):=
 {g with g6:=λm hm j' HJ=>(cw.mp hm).elim (λr=>g.g6 m r j' HJ) λr=>ag ((r▸hj).symm.trans HJ)▸q}
omit h in
theorem u_(hj:j<p.n)(q:S1 j=false):jQ p (upd S1 j true)+1=jQ p S1:=by
 have lt:=oF (f:=λi=>if S1 i then 0 else 1) (g:=λi=>if upd S1 j true i then 0 else 1) (i:=j) (λi hi=>by exact eW (gh hi) rfl) p.n hj;rw[d9,q]at lt;exact lt
omit h in
theorem Qg{j':Nat}(h:S1 j'=true):upd S1 j true j'=true:=if q:j'=j then(if_pos q)else(if_neg q).trans h
omit h in
theorem T'.take{pP W1:List Nat}{n:Nat}(g:T' p S pP i n (S1,W1))(D1:j<p.n)(hj:(p.ic i)[n]?=some j)(q:S1 j=false):T' p S pP i (n+1) (upd S1 j true,W1++[j])where
 g1 j' h:=Qg (g.g1 j' h)
 g2 j' h:=du _ (g.g2 j' h)
 g3 j' h:=(cp.mp h).elim (g.g3 j') λr=>aH.mp r▸D1
 g4:=(congrArg (jQ p (upd S1 j true)+·) aI).trans ((fc _ _ _).symm.trans ((dc _ _ _).trans ((congrArg (·+W1.length) (u_ (p:=p) D1 q)).trans g.g4)))
 g5 j' hn h:=if r:j'=j then .inr (dF _ (r▸cS _))else(g.g5 j' hn ((gh r).symm.trans h)).imp id (du _)
 g6 m hm j' HJ:=(cw.mp hm).elim (λr=>Qg (g.g6 m r j' HJ)) λr=>ag ((r▸hj).symm.trans HJ)▸d9
def RI(p:Prog)(a:(Nat->Bool)×List Nat×Slot×Slot×Slot):Prop:=Seen p a.1 a.2.1/\jQ p a.1+a.2.1.length<=31/\Y a.2.2.1/\Y a.2.2.2.1/\Y a.2.2.2.2
def RF(p:Prog)(a:(Nat->Bool)×List Nat×Slot×Slot×Slot):List Slot:=[.val p.fv,.own (.ob (.list (lr p a.1))),.own (.ob (.list (a.2.1.map nI))),a.2.2.1,a.2.2.2.1,a.2.2.2.2]
theorem C8{a:(Nat->Bool)×List Nat×Slot×Slot×Slot}:RI p a->(!a.2.1.isEmpty)=true->yZ (hX (au N (k+13)) N (cN (bodyOf jo)) (RF p a,wl)) (RF p) (λ_=>wl) λa'=>RI p a'/\jQ p a'.1+a'.2.1.length<jQ p a.1+a.2.1.length:=
 Us a λS Wt s3 s4 s5 hI hT=>kI hI λhS hM h3 h4 h5=>by
  clear hI;rcases EO Wt with rfl|⟨pP,i,rfl⟩
  . exact ff hT
  rw[ER]at hS hM⊢;clear hT
  have i4:=h.i4
  have hi:=hS.wt i (dF _ (cS _))
  have hM1:jQ p S+(pP.length+1)<=31:=aI (bs:=[i])▸hM
  have ZS:ex (au N (k+13)) N (.pop [3] true 2) (RF p (S,pP++[i],s3,s4,s5),wl)=some (.next,RF p (S,pP,.val (nI i),s4,s5),wl):=
   Md (ys:=pP.map nI) (d:=nI i) (congrArg (λl=>some (Slot.own (.ob (.list l)))) bf) (by refine eW aI<|eW (aj ..) ?_;simp;lia) (jD rfl h3)
  have lw:=(wW h (k:=k+3) (wl:=wl) hi).2.2.2.1
  have onw:ex (au N (k+13)) N (o5 2 (cN (bodyOf jo))) (RF p (S,pP,.val (nI i),.own (.ob (.list ((p.succ i).map nI))),s5),wl)=some (.next,RF p (S,pP,.val (nI i),.own (.ob (.list ((p.ic i).map nI))),s5),wl):=by
   have t:eK (au N (k+13)) (.call (.bc (.obj 214)) (.cons (.idx (.attr (.var 0) 0) (.var 3)) .nil)) (RF p (S,pP,.val (nI i),.own (.ob (.list ((p.succ i).map nI))),s5)) wl=some ((p.r i).w==4,wl):=jI rfl (aG (ah (de (x:=.fv (fH p)) rfl rfl (tO h hi)) aE) lw);delta Prog.ic;by_cases hw:(p.r i).w=4
   . rw[hw]at t
     refine eW (if_pos hw)<|eW bf ?_
     have:=qz h i;unfold Prog.ic at this;rw[aI]at this;exact cz t (ao (i_ (d:=nI (p.T i)) rfl (fm (c:=490) rfl (ah rfl aE) rfl rfl (i8 h (k:=k+1) hi (.inr (.inr hw)))) (decide_eq_true (by refine eW (aj ..) ?_;lia))) aY)
   . rw[show((p.r i).w==4)=false from beq_eq_false_iff_ne.mpr hw]at t
     exact eW (if_neg hw)<|eW (cC ..)<|kU t
  have ol:=qz h i
  have sl:(p.succ i).length<=1000:=ak (ak (aP _ _) (aI (as:=p.succ i)▸ol)) (av rfl);refine tQ (C:=au N (k+13)) (N:=N) (wl:=wl) (fr:=[.val p.fv,.own (.ob (.list (lr p S))),.own (.ob (.list (pP.map nI))),.val (nI i),.val (nL (p.ic i)),s5]) (λ(a:(Nat->Bool)×List Nat) y=>[.val p.fv,.own (.ob (.list (lr p a.1))),.own (.ob (.list (a.2.map nI))),.val (nI i),.val (nL (p.ic i)),y]) (λ_=>wl)
   (T' p S pP i) (S,pP) (j:=5) (it:=.var 4) (y0:=s5) (b:=bR (cN (bodyOf jo))) (l:=p.ic i) (g:=nI)
   rfl (d_ (by lia)) rfl h5 ⟨λ_ h=>h,λ_ h=>h,λj hj=>hS.wt j (du _ hj),rfl,λ_ _ h=>.inl h,λm hm=>absurd hm (dz _)⟩ (λ_ _=>rfl) (λ_ _ _=>rfl) (λn j a hj=>JY a λS1 W1 g=>by
    have D1:=Hi h hi (aF hj)
    have t:eK (au N (k+13)) (.un .Not (.idx (.var 1) (.var 5))) [.val p.fv,.own (.ob (.list (lr p S1))),.own (.ob (.list (W1.map nI))),.val (nI i),.val (nL (p.ic i)),.val (nI j)] wl=some (!S1 j,wl):=Gj (jI rfl (de (x:=.bor (.ob (.list (lr p S1)))) rfl rfl (nH (eD D1) (by lia))));induction q:S1 j using ax with
    |true=>rw[q]at t;exact .next (S1,W1) (.val (nI j)) (ao (kU t) aY) (.va _) (g.skip hj q)
    |false=>
     rw[q]at t;refine .next (upd S1 j true,W1++[j]) (.val (nI j)) ?_ (.va _) (g.take D1 hj q)
     have hl:=g.g4;refine ao (cz t (ao (EA (k:=(j:Int)) (d:=.bool true) (xs:=lr p S1) rfl rfl rfl ⟨bI _,by refine eW (aj ..)<|eW aq ?_;exact D1,by lia⟩) (ao (i_ (xs:=W1.map nI) (d:=nI j) rfl rfl (decide_eq_true (by refine eW (aj ..) ?_;dsimp only at hl;lia))) aY))) ?_
     have e1:(lr p S1).set j (FV.bool true)=lr p (upd S1 j true):=zj (F:=FV.bool);dsimp only;exact eW bf<|eL e1 rfl)
   λa y hy=>JY a λS' Wt' g el=>.mk .next (S',Wt',.val (nI i),.val (nL (p.ic i)),y) (ao ZS<|ao (gC (t:=.ob (.list ((p.succ i).map nI))) (cI (ah (aG (ah rfl (ah rfl aE)) (sZ h (k:=k) hi)) aE) ?_) (jD rfl h4))<|ao onw<|ao rfl<|ao el aY) fw ⟨⟨⟨g.g1 0 hS.zero,g.g3,λx hx hs=>?_⟩,?_,.va _,.va _,hy⟩,?_⟩
  . show(listItems (.fv (nL (p.succ i)))).map _=_
    exact eW (show listItems (.fv (nL (p.succ i)))=items (.fv (nL (p.succ i)))from rfl)<|eW (d_ sl) rfl
  . exact(g.g5 x hx hs).elim (λq=>(hS.U6 x hx q).elim (λr=>(cp.mp r).elim (λr=>.inl (g.g2 x r)) λr=>.inr λj hj=>xE (cj.mp (aH.mp r▸hj)) λm e=>g.g6 m (fB e) j e) λr=>.inr λj hj=>g.g1 j (r j hj)) .inl
  · exact ak (bh g.g4) (ak (cq (iq _) _) hM1)
  . show jQ p S'+Wt'.length<jQ p S+(pP++[i]).length
    exact eW aI<|aQ (bh g.g4) (bg _)
theorem El(hN:100<=N):au N (k+14) (.obj 518) [.fv p.fv] wl=some (nL (ae p.n),wl):=by
 have i4:=h.i4
 have u1:jQ p (λ_=>false)<=30:=ak (rm (c:=1) (λ_=>aT 1) p.n) (by exact eW (Nat.mul_one ..)<|i4)
 have st:RI p (upd (λ_=>false) 0 true,[0],.unset,.unset,.unset):=by
  refine⟨⟨show upd (λ_=>false) 0 true 0=true from d9,λi hi=>aH.mp hi▸h.pos,λi hi hs=>.inl ?_⟩,?_,.un,.un,.un⟩
  . exact if q:i=0 then q▸cS _ else ff ((gh (f:=λ_=>false) q).symm.trans hs)
  . have:=u_ (p:=p) (S1:=λ_=>false) h.pos rfl
    exact ak (bh this) (j0 u1)
 have e1:ev (au N (k+13)) (.comp true 1 [] (.attr (.var 0) 0) [0] .nil (.emit (.lit (.bool false)))) [.val p.fv,.unset,.unset,.unset,.unset,.unset] wl=some (.own (.ob (.list (lr p λ_=>false))),wl):=
  comp_map (own:=true) p.o (ae p.n) (aX:=[]) (cs:=[]) (x:=.fv (fH p)) rfl (kl (by refine eW (aj ..)<|eW aq ?_;lia)) rfl (λ_=>FV.bool false) (λ_ _=>rfl) (by refine eW aq ?_;lia)
 refine se (C:=au N (k+13)) (N:=N) (wl:=wl) (RF p) (λ_=>wl) (RI p) (λa=>jQ p a.1+a.2.1.length) (upd (λ_=>false) 0 true,[0],.unset,.unset,.unset) (t:=.var 2) (b:=cN (bodyOf jo)) rfl rfl
  st (aQ st.2.1 (by lia)) (λa=> !a.2.1.isEmpty) (λa hI=>PY (x:=.bor (.ob (.list (a.2.1.map nI)))) rfl rfl (by
      have hM:=hI.2.1
      show(if cc (a.2.1.map nI).length=true then some (!(a.2.1.map nI).isEmpty)else ab)=_;rw[if_pos (show cc _=true from decide_eq_true (by rw[aj];lia)),MU])) (λa=>C8 h) λa=>Us a λS Wt s3 s4 s5 hI hT e=>?_
 have hS:=hI.1;obtain rfl:Wt=[]:=Wt.casesOn (motive:=λW=>(!W.isEmpty)=false->W=[]) (λ_=>rfl) (λ_ _ h=>ff h.symm) hT
 have all:∀i,i<p.n->S i=true:=L6 h hS.zero λi hi hs=>(hS.U6 i hi hs).resolve_left a8
 have e2:ev (au N (k+13)) (.comp false 1 [1] (.bj .range false (.cons (.eg (.user 20) (.var 0) .nil) .nil)) [0] (.cons (.idx (.var 1) (.var 0)) .nil) (.emit (.var 0))) (RF p (S,[],s3,s4,s5)) wl=some (.fv (nL (ae p.n)),wl):=by
  have:=gz (own:=false) (C:=au N (k+13)) (wl:=wl) (fr:=RF p (S,[],s3,s4,s5)) nI (ae p.n) (aX:=[1]) (cs:=[.bor (.ob (.list (lr p S)))]) (ifs:=.cons (.idx (.var 1) (.var 0)) .nil) (e:=.var 0) (oK h (k:=k+12) (s:=0) rfl) (cL (by lia)) rfl (λ_=>true) nI (λi hi=>by
   have hi:=aC.mp hi
   have t:eK (au N (k+13)) (.idx (.var 1) (.var 0)) [.val (nI i),.bor (.ob (.list (lr p S)))] wl=some (S i,wl):=jI rfl (de (x:=.bor (.ob (.list (lr p S)))) rfl rfl (nH (eD hi) (by lia)));exact dS (all i hi▸t) pA) (λ_ _ _=>rfl) (by refine eW aq ?_;lia)
  rwa[if_neg ay,Iz.mpr λ_ _=>rfl]at this
 refine cK (k:=k+13) rfl<|bt rfl rfl<|ao (gC e1 rfl)<|ao (EA (k:=0) (d:=.bool true) (xs:=lr p λ_=>false) rfl rfl rfl ⟨by decide,by refine eW (aj ..)<|eW aq ?_;exact h.pos,by decide⟩)<|ao (gC (t:=.ob (.list ([0].map nI))) rfl rfl)<|ao ?_<|br (bY e2)
 have e3:(lr p λ_=>false).set 0 (FV.bool true)=lr p (upd (λ_=>false) 0 true):=zj (F:=FV.bool);refine UW ?_ e;delta RF;exact eL e3 rfl
theorem sW(hN:100<=N):au N (k+15) (.obj 556) [.fv p.fv] wl=some (.none,wl):=by
 have i4:=h.i4
 have ln:jw .len false [.fv (nL (ae p.n))]=some (.fv (nI p.n)):=by
  have:=nC (xs:=(ae p.n).map nI) (by refine eW (aj ..)<|eW aq ?_;lia)
  rwa[aj,aq]at this
 refine xT (C:=au N (k+14)) (N:=N) (wl:=wl) (fr:=[.val p.fv,.val (nL (ae p.n)),.unset]) (λ(_:Unit) y=>[.val p.fv,.val (nL (ae p.n)),y]) (λ_=>wl) (λ_ _=>True) () (j:=2) (y0:=.unset) (it:=.bj .range false (.cons (.bj .len false (.cons (.var 1) .nil)) .nil)) (b:=bR (bodyOf mM))
  (x:=.fv (.range 0 p.n 1)) (cI (ah (cI (ah rfl aE) ln) aE) rfl) (cL (by lia)) rfl .un trivial (λ_ _=>rfl) (λ_ _ _=>rfl) (λi _ hi _=>
    .next () (.val (nI i)) (ao (kU (L_ (x:=i) (y:=i) (r:=true) (beq_self_eq_true _) (de (x:=.fv (nL (ae p.n))) rfl rfl (fx (eD (f:=nI) hi) (by lia))) rfl)) aY) (.va _) trivial) λ_ y _ _ e=>?_
 change ex _ _ _ _=some (.next,[.val p.fv,.val (nL (ae p.n)),_],wl)at e;exact cK (k:=k+14) rfl<|Af rfl rfl<|ao (aZ (aG (ah rfl aE) (El h (k:=k) hN)) rfl)<|ao e<|ao (kU (tj (x:=p.n) (y:=p.n) (decide_eq_false (UU _)) (cI (ah rfl aE) ln) (fm (c:=490) rfl aE rfl rfl (nQ h (k:=k+13))))) aY
end
theorem Bc{es:List (Int×FV)}{i:Int}(h:∀e∈es,e.1≠i):dE es i d=es++[(i,d)]:=by
 induction es with
 |nil=>rfl
 |cons e r ih=>
  show(if e.1=i then _ else _)=_;refine eW (if_neg (h e (a7)))<|eW (ih λe he=>h e (aW _ he)) ?_;rfl
noncomputable abbrev mq(f:Nat->Nat)(g:Nat->FV)(n:Nat):List (Int×FV):=(ae n).map λi=>((f i:Int),g i)
theorem B2{n:Nat}(inj:∀i,i<n->f i=f j->i=j)(hj:j<n):(mq f g n).lookup (f j:Int)=some (g j):=by
 have:∀l:List Nat,(∀a∈l,f a=f j->a=j)->j∈l->(l.map λi=>((f i:Int),g i)).lookup (f j:Int)=some (g j):=λl=>by
  induction l with
  |nil=>exactλ_ h=>absurd h a8
  |cons a r ih=>
   intro h1 h2;rw[bT,bK];by_cases q:f a=f j
   . rw[h1 a a7 q,beq_self_eq_true]
   . rw[show((f j:Int)==(f a:Int))=false by rw[beq_eq_false_iff_ne];exactλc=>q (jh.mp c).symm]
     refine ih (λb hb=>h1 b (aW _ hb)) ((a6.mp h2).resolve_left λc=>q (by exact eW c rfl))
 exact this _ (λa ha=>inj a (aC.mp ha)) (aC.mpr hj)
theorem B1{n:Nat}(inj:∀i,i<n->f i≠f n):dE (mq f g n) (f n:Int) (g n)=mq f g (n+1):=by
 rw[Bc λe he=>?_,mq,mq,dK,bf];rfl
 (refine bS (bO.mp he) λi hi q1=>?_;subst q1)
 have:=inj i (aC.mp hi)
 show(f i:Int)≠f n;lia
theorem Lq{α:Type}{G:α->FV}{c:Nat->α}{n:Nat}{v:α}(inj:∀i,i<n->f i=f j->i=j)(hj:j<n):dE (mq f (λi=>G (c i)) n) (f j:Int) (G v)=mq f (λi=>G (upd c j v i)) n:=by
 have:∀l:List Nat,l.Nodup->(∀a∈l,f a=f j->a=j)->j∈l->dE (l.map λi=>((f i:Int),G (c i))) (f j:Int) (G v)=l.map λi=>((f i:Int),G (upd c j v i)):=λl=>by
  induction l with
  |nil=>exactλ_ _ h=>absurd h a8
  |cons a r ih=>
   intro h0 h1 h2;rw[ck]at h0
   show(if(f a:Int)=f j then _ else _)=_;by_cases q:a=j
   . subst q
     refine eW (if_pos rfl)<|eW bT<|eW d9 ?_;refine congrArg _ (dB λb hb=>?_);exact eW (gh (show b≠a fromλc=>h0.1 (c▸hb))) rfl
   . have:f a≠f j:=λc=>q (h1 a a7 c)
     rw[if_neg (by lia),bT,gh q,ih h0.2 (λb hb=>h1 b (aW _ hb)) ((a6.mp h2).resolve_left λc=>q c.symm)]
 exact this _ List.nodup_range (λa ha=>inj a (aC.mp ha)) (aC.mpr hj)
theorem yR{n:Nat}{own:Bool}{aX:List Nat}(h1:ev C it fr wl=some (x,wl))(h2:items x=some ((ae n).map λi=>nI (f i)))(h3:fW fr aX=some cs)(inj:∀i j,i<j->j<n->f i≠f j)(hn:n<=1000)
 (h5:∀i,i<n->ev C e (.val (nI (f i))::cs) wl=some (.fv (g i),wl)):ev C (.rO own 1 aX it 0 e) fr wl=some (if own then .own (.ob (.dict (mq f g n)))else .fv (.dict (mq f g n)),wl):=
 have hl:((ae n).map λi=>nI (f i)).length=n:=(aj _).trans aq
 bS (yv (F:=λ(a:List Slot×List (Int×FV)×WL) k=>Pm 0 a (λf9=>ev C e f9 a.2.2) k) (λi a=>∃y,Y y/\a=(y::cs,mq f g i,wl)) ((ae n).map λi=>nI (f i)) 0 (bD 1 .unset++cs,[],wl) ⟨_,.un,rfl⟩ (λj v a hj q=>bS q λy hy ea=>xA (JE hj) λD1 ev=>by
  subst ea ev;exact eW (dZ ..)<|⟨(.val (nI (f j))::cs,mq f g (j+1),wl),(bs rfl (bs (jD (fr:=y::cs) (i:=0) rfl hy) (bs (h5 j D1) rfl))).trans (congrArg (λz=>some (Slot.val (nI (f j))::cs,z,wl)) (B1 λi hi=>inj i j hi D1)),_,.va _,rfl⟩)) λa ea q=>bS q λy _ q=>by
  rw[hl,dZ]at q;exact Lg.trans (bs h1 (bs h2 (bs h3 (bs (ea.trans (congrArg some q)) (if_pos (decide_eq_true (by exact eW (aj ..)<|eW aq<|ll hn rfl)))))))
def setOk(s:Slot):Prop:=∀(fr:List Slot)(i:Nat)(v:Slot),fr[i]?=some s->setSlot fr i v=some (fr.set i v)
theorem Qs:setOk .unset:=λfr i v h=>bs h rfl
theorem Sp:setOk (.val d):=λfr i v h=>bs h rfl
theorem Sq{t:OT}:setOk (.own t):=λfr i v h=>bs h rfl
noncomputable abbrev oJ(p:Prog)(j d:Nat):List Int:=(ae d).map λi=>(p.B (j+1+i):Int)
def Prog.wait(p:Prog)(t:Nat):List FV:=if t<p.m then[nI (p.B t)]else[]
section
variable (h:p.Ok N)
include h
theorem Prog.Ok.inj(D2:i<j)(hj:j<p.m):p.B i≠p.B j:=bx (h.mono D2 (bV hj))
theorem Prog.Ok.OL(hi:i<p.m)(hj:j<p.m)(e:p.B i=p.B j):i=j:=by
 rcases g8 i j with q|q|q
 . exact absurd e (h.inj q hj)
 . exact q
 . exact absurd e.symm (h.inj q hi)
noncomputable def Prog.jv(p:Prog)(j:Nat):List Nat:=if j+1<p.m then[p.B (j+1)]else[]
noncomputable def nN(p:Prog)(j n:Nat):List Nat:=if j+1<p.m/\p.C j<p.B j+n then[p.B (j+1)]else[]
def Ys(p:Prog)(j:Nat)(a:List Nat)(y:Slot):List Slot:=[.val p.fv,.val (nI (p.B j)),.own (.ob (.set (a.map λ(n:Nat)=>(n:Int)))),y]
theorem HW{n:Nat}(hj:j<p.m)(hn:n<p.B (j+1)-p.B j):Turn (hX (au N (k+12)) N (bR (bodyOf oY)) (Ys p j (nN p j n) (.val (nI (p.B j+n))),wl)) (Ys p j) (λ_=>wl) λa=>a=nN p j (n+1):=by
 have i4:=h.i4
 have hBn:p.B (j+1)<=p.n:=h.Bm▸h.le (show j+1<=p.m from hj) (aT _)
 have UA:=fu hn
 have hi:p.B j+n<p.n:=az UA hBn
 have hP:=h.Iq hi hj (aP _ _) UA
 have lw:=(wW h (k:=k+2) (wl:=wl) hi).2.2.2.1;by_cases hw:(p.r (p.B j+n)).w=4
 . rw[hw]at lw
   refine jP (h.call _ hi hw) λq1 q2 q3=>?_;rw[hP]at q1 q2 q3
   have e0:nN p j n=[]:=if_neg λc=>b8 _ (q3▸c.2);exact eW e0<|.next [p.B (j+1)] (.val (nI (p.B j+n))) (ao (cz (jI rfl (aG (ah (de (x:=.fv (fH p)) rfl rfl (tO h hi)) aE) lw)) (ao (EC (k:=(p.B (j+1):Int)) (xs:=[]) rfl (fm (c:=490) rfl (ah rfl aE) rfl rfl (q2▸i8 h (k:=k) hi (.inr (.inr hw)))) ⟨by decide,bI _,by lia⟩) aY)) rfl) (.va _)
    (if_pos ⟨q1,q3▸bg _⟩).symm
 . rw[show((p.r (p.B j+n)).w==4)=false from beq_eq_false_iff_ne.mpr hw]at lw
   refine .next (nN p j n) (.val (nI (p.B j+n))) (ao (kU (jI rfl (aG (ah (de (x:=.fv (fH p)) rfl rfl (tO h hi)) aE) lw))) aY) (.va _) ?_
   delta nN;by_cases q:j+1<p.m/\p.C j<p.B j+(n+1)
   . rw[if_pos q,if_pos ⟨q.1,gL (mX q.2) λc=>hw (c▸(h.calls j q.1).2.2)⟩]
   . rw[if_neg q,if_neg λc=>q ⟨c.1,dm c.2⟩]
theorem z_(hj:j<p.m):au N (k+13) (.obj 525) [.fv p.fv,.fv (nI (p.B j))] wl=some (nL (p.jv j),wl):=by
 have i4:=h.i4
 have oj:=h.UX j hj
 have hBn:p.B (j+1)<=p.n:=h.Bm▸h.le (show j+1<=p.m from hj) (aT _)
 have c0:[]=nN p j 0:=(if_neg λc=>b8 _ (az c.2 (h.calls j c.1).1)).symm
 have c1:nN p j (p.B (j+1)-p.B j)=p.jv j:=by
  delta nN Prog.jv;by_cases q:j+1<p.m
  . rw[if_pos q,if_pos ⟨q,jA (h.calls j q).2.1 (c6 (bV oj)).symm⟩]
  . rw[if_neg q,if_neg (λc=>q c.1)]
 exact xT (C:=au N (k+12)) (N:=N) (wl:=wl) (fr:=Ys p j [] .unset) (Ys p j) (λ_=>wl) (λn a=>a=nN p j n) [] (j:=3) (y0:=.unset) (it:=.bj .range false (.cons (.var 1) (.cons (.eg (.user 24) (.var 0) (.cons (.var 1) .nil)) .nil))) (b:=bR (bodyOf oY)) (f:=λn=>nI (p.B j+n))
  (x:=.fv (.range (p.B j) (p.B (j+1)) 1)) (cI (ah rfl (ah (fm (c:=490) rfl (ah rfl aE) rfl rfl (Ca h (k:=k+11) hj)) aE)) rfl) (rB (bV oj) (ll (ak hBn i4) rfl)) rfl .un c0 (λ_ _=>rfl) (λ_ _ _=>rfl) (λn a hn ha=>ha▸HW h hj hn)
  λa y _ hI e=>cK (k:=k+12) rfl<|bt rfl rfl<|ao (gC (t:=.ob (.set [])) rfl rfl)<|ao e<|br<|bY<|cI (ah rfl aE) (by
   show some (EV.fv (.list ((fU (a.map λ(n:Nat)=>(n:Int))).map .int)))=_;refine eW hI<|eW c1 ?_;delta Prog.jv;split<;>rfl)
noncomputable def Prog.vT(p:Prog)(j:Nat):FV:=.set ((ae (p.m-(j+1))).map λi=>(p.B (j+1+i):Int))
abbrev Xn(p:Prog):FV:=.dict (mq p.B (λj=>nL (p.jv j)) p.m)
def Rt(p:Prog)(j:Nat)(y x z w:Slot):List Slot:=[.val p.fv,.val (Xn p),.own (.ob (.dict (mq p.B p.vT j))),y,x,z,w]
theorem F_(t:Nat):(p.jv t).map nI=p.wait (t+1):=by delta Prog.jv Prog.wait;split<;>rfl
theorem Ga(ht:t<p.m):jt (.fv (Xn p)) (.fv (nI (p.B t))) wl=some (.fv (nL (p.jv t))):=ms (B2 (λi hi e=>h.OL hi ht e) ht)
theorem LM(t:Nat):(p.jv t).length<=1:=by delta Prog.jv;split;exact aT _;exact aU _
theorem AY{d:Nat}(hd:j+1+d<p.m):(p.B (j+1+d):Int)∉oJ p j d:=λc=>bS (bO.mp c) λi hi e=>bx (h.mono (eR (aC.mp hi) _) (bV hd)) (pV e)
theorem DC{s6:Slot}(hN:10<=N)(hj:j<p.m)(h6:Y s6)(kk:∀z,Y z->ex (au N (k+13)) N (.while (.var 5) (cN (bR (bodyOf kQ)))) (Rt p j (.val (nI (p.B j))) (.own (.ob (.set []))) (.own (.ob (.list (p.wait (j+1))))) s6,wl)=
 some (.next,Rt p j (.val (nI (p.B j))) (.own (.ob (.set (oJ p j (p.m-(j+1)))))) (.own (.ob (.list (p.wait p.m)))) z,wl)->P):P:=
 se (C:=au N (k+13)) (N:=N) (wl:=wl) (fr:=Rt p j (.val (nI (p.B j))) (.own (.ob (.set []))) (.own (.ob (.list (p.wait (j+1))))) s6) (λ(a:Nat×Slot)=>Rt p j (.val (nI (p.B j))) (.own (.ob (.set (oJ p j a.1)))) (.own (.ob (.list (p.wait (j+1+a.1))))) a.2) (λ_=>wl) (λa=>j+1+a.1<=p.m/\Y a.2) (λa=>p.m-a.1) (0,s6) (t:=.var 5) (b:=cN (bR (bodyOf kQ)))
  rfl rfl ⟨hj,h6⟩ (aQ (ak (pd _ _) h.m3.2) (az (by decide) hN)) (λa=>decide (j+1+a.1<p.m)) (λa _=>PY (x:=.bor (.ob (.list (p.wait (j+1+a.1))))) rfl rfl (by
   delta Prog.wait;split
   . rename_i q;exact eW (decide_eq_true q) rfl
   . rename_i q;exact eW (decide_eq_false q) rfl)) (λa=>JY a λd s6 g hT=>by
   have ht:j+1+d<p.m:=of_decide_eq_true hT
   have m3:=h.m3.2
   have hB:=h.Oj ht
   have i4:=h.i4
   have sl:(oJ p j d).length=d:=(aj _).trans aq
   have e1:jx (oJ p j d) (p.B (j+1+d))=oJ p j (d+1):=(if_neg λc=>AY h ht (gS.mp c)).trans (by rw[oJ,oJ,dK,bf];rfl);refine .mk .next (d+1,.val (nI (p.B (j+1+d)))) (ao (Md (ys:=[]) (d:=nI (p.B (j+1+d))) (by show some (Slot.own (.ob (.list (p.wait (j+1+d)))))=_;delta Prog.wait;exact eW (if_pos ht) rfl) (av rfl) (jD rfl g.2))<|ao (cz (fJ rfl (y:=.bor (.ob (.set (oJ p j d)))) rfl (by
    show((some ((oJ p j d).contains (p.B (j+1+d):Int)):Option Bool).map (!·))=_;exact congrArg (λb=>some (!b)) (dY.mpr λc=>AY h ht (gS.mp c)))) (ao (EC (k:=(p.B (j+1+d):Int)) (xs:=oJ p j d) rfl rfl ⟨by refine eW sl ?_;lia,bI _,by lia⟩)
    (ao (pQ (xs:=[]) (ds:=(p.jv (j+1+d)).map nI) rfl (de (x:=.fv (Xn p)) rfl rfl (Ga h ht)) (decide_eq_true (by exact eW (aj ..)<|ak (cq (LM h _) _) (av rfl)))) aY))) ?_) fw ⟨⟨ht,.va _⟩,iZ (aQ (ji d _) ht) (bg d)⟩
   exact eW (lp ..)<|eW (F_ h ..)<|eL e1 rfl)
  λa=>JY a λd z g hT e=>kk z g.2 (by
   have ht:¬j+1+d<p.m:=of_decide_eq_false hT
   have e0:j+1+d=p.m:=Ro g.1 (cV.mp ht);exact eW (show p.m-(j+1)=d from(congrArg (·-(j+1)) e0.symm).trans (cW ..))<|eL e0<|e)
theorem Eo(hN:10<=N):au N (k+14) (.obj 530) [.fv p.fv] wl=some (.dict (mq p.B p.vT p.m),wl):=by
 have m3:p.m<=1000:=ll h.m3.2 rfl
 have e1:ev (au N (k+13)) (.rO false 1 [0] (.attr (.var 0) 4) 0 (.call (.bc (.obj 525)) (.cons (.var 1) (.cons (.var 0) .nil)))) [.val p.fv,.unset,.unset,.unset,.unset,.unset,.unset] wl=some (.fv (Xn p),wl):=
  yR (own:=false) (cs:=[.ro p.fv]) (x:=.fv (nL ((ae p.m).map p.B))) rfl (nE h) rfl (λi j D2 hj=>h.inj D2 hj) m3 (λi hi=>aG (ah rfl (ah rfl aE)) (z_ h (k:=k) hi))
 refine xT (C:=au N (k+13)) (N:=N) (wl:=wl) (fr:=Rt p 0 .unset .unset .unset .unset) (λ(a:Nat×Slot×Slot×Slot) y=>Rt p a.1 y a.2.1 a.2.2.1 a.2.2.2) (λ_=>wl) (λn a=>a.1=n/\setOk a.2.1/\setOk a.2.2.1/\Y a.2.2.2) (0,.unset,.unset,.unset) (j:=3) (y0:=.unset) (it:=.attr (.var 0) 4) (b:=bR (bodyOf kQ))
  (x:=.fv (nL ((ae p.m).map p.B))) rfl (nE h) rfl .un ⟨rfl,Qs,Qs,.un⟩ (λ_ _=>rfl) (λ_ _ _=>rfl) (λj a hj=>NR a λj' s4 s5 s6 g=>fA g λ(e:j'=j) h4 h5 h6=>by
    clear g;subst e;refine DC h (k:=k) (wl:=wl) hN hj h6 λZf h6' ew=>?_
    have ZO:jR (Rt p j' (.val (nI (p.B j'))) s4 s5 s6) [4,5] [.own (.ob (.set [])),.own (.ob (.list (p.wait (j'+1))))]=some (Rt p j' (.val (nI (p.B j'))) (.own (.ob (.set []))) (.own (.ob (.list (p.wait (j'+1))))) s6):=
     show(setSlot _ 4 _).bind _=_ from bs (h4 _ 4 _ rfl) (show(setSlot _ 5 _).bind _=_ from bs (h5 _ 5 _ rfl) rfl)
    refine .next (j'+1,.val (p.vT j'),.own (.ob (.list (p.wait p.m))),Zf) (.val (nI (p.B j'))) (ao (gk (xs:=[.own (.ob (.set [])),.own (.ob (.list (p.wait (j'+1))))]) (ah rfl (ah (cI (ah (de (x:=.fv (Xn p)) rfl rfl (Ga h hj)) aE) ?_) aE)) ZO)<|ao ew<|ao rfl<|ao (Mc (k:=(p.B j':Int)) (es:=mq p.B p.vT j') (d:=p.vT j') rfl rfl rfl (decide_eq_true (by refine eW (aj ..)<|eW aq ?_;lia))) ?_) (.va _) ⟨rfl,Sp,Sq,h6'⟩
    . show(listItems (.fv (nL (p.jv j')))).map _=_
      exact eW (show listItems (.fv (nL (p.jv j')))=items (.fv (nL (p.jv j')))from rfl)<|eW (d_ (ll (LM h j') rfl))<|eW (F_ h ..) rfl
    . refine eW (B1 λi hi=>h.inj hi hj) ?_;rfl) λa y _=>NR a λn' s4 s5 s6 g e2=>?_
 have UA:n'=p.m:=g.1;subst UA;exact cK (k:=k+13) rfl<|bt rfl rfl<|ao (aZ e1 rfl)<|ao (gC (t:=.ob (.dict [])) rfl rfl)<|ao e2<|ao rfl<|br (bY rfl)
end
section
variable (h:p.Ok N)
include h
theorem vP:p.locals.length<=30:=ak (dG _ _) (by exact eW aq<|h.i4)
def rA(p:Prog)(c:Nat->Nat):Nat:=sumTo (λj=>j+1-c j) p.m
abbrev Q0(p:Prog)(c:Nat->Nat):List (Int×FV):=mq p.B (λj=>nI (c j)) p.m
def My(p:Prog)(c:Nat->Nat)(ch:Bool)(x y z:Slot):List Slot:=[.val p.fv,.own (.ob (.dict (Q0 p c))),.val (.bool ch),x,y,z]
omit h in
theorem U8{x y:Slot}{u v:FV}(hx:fr[i]?=some x)(h1:Y x)(hy:(fr.set i (.val u))[j]?=some y)(h2:Y y):jR fr [i,j] [.fv u,.fv v]=some ((fr.set i (.val u)).set j (.val v)):=
 show(setSlot fr i (.val u)).bind _=_ from bs (jD hx h1) (show(setSlot _ j (.val v)).bind _=_ from bs (jD hy h2) rfl)
theorem wB(ht:t<p.m):((mq p.B g p.m).lookup (p.B t:Int)).map EV.fv=some (.fv (g t)):=ms (B2 (λi hi e=>h.OL hi ht e) ht)
structure CIn(p:Prog)(c:Nat->Nat)(a:(Nat->Nat)×Bool×Slot×Slot):Prop where
 g1:∀j,j<p.m->a.1 j<=j+1
 g2:rA p a.1+a.2.1.toNat<=rA p c
 g3:Y a.2.2.1
 g4:Y a.2.2.2
omit h in
theorem Kz{c:Nat->Nat}(hj:j<p.m)(h1:c j<v)(h2:v<=j+1):rA p (upd c j v)<rA p c:=by
 have lt:=oF (f:=λj=>j+1-c j) (g:=λi=>i+1-upd c j v i) (i:=j) (λi hi=>by exact eW (gh hi) rfl) p.m hj;rw[d9]at lt;exact AH lt (iZ (az h1 h2) h1)
theorem Ed(hN:100<=N){c:Nat->Nat}{n:Nat}{a:(Nat->Nat)×Bool×Slot×Slot}(pL:p.locals[n]?=some i):CIn p c a->
 Turn (hX (au N (k+13)) N (bR (cN (bodyOf fp))) (My p a.1 a.2.1 (.val (nI i)) a.2.2.1 a.2.2.2,wl)) (λ(a:(Nat->Nat)×Bool×Slot×Slot) y=>My p a.1 a.2.1 y a.2.2.1 a.2.2.2) (λ_=>wl) (CIn p c):=
 NR a λc1 MH s4 s5 g=>xA ((qA h).mp (aF pL)) λhi hw=>jP (h.call i hi hw) λq1 q2 q3=>xA (h.part i hi) λhP _=>by
  have i4:=h.i4
  have stp:ex (au N (k+13)) N (o5 0 (bR (cN (bodyOf fp)))) (My p c1 MH (.val (nI i)) s4 s5,wl)=some (.next,My p c1 MH (.val (nI i)) (.val (nI (c1 (p.P i)+1))) (.val (nI (p.B (p.P i+1)))),wl):=
   gk (xs:=[.fv (nI (c1 (p.P i)+1)),.fv (nI (p.B (p.P i+1)))]) (ah (dh (x:=.fv (nI (c1 (p.P i)))) (de (x:=.bor (.ob (.dict (Q0 p c1)))) rfl (fm (c:=490) rfl (ah rfl aE) rfl rfl (lE h (k:=k+12) hi (ak (by decide) hN))) (wB h hP)) rfl rfl)
    (ah (q2▸fm (c:=490) rfl (ah rfl aE) rfl rfl (i8 h (k:=k+1) hi (.inr (.inr hw)))) aE)) (U8 rfl g.g3 rfl g.g4)
  have t:eK (au N (k+13)) (.cmp .Lt (.idx (.var 1) (.var 5)) (.var 4)) (My p c1 MH (.val (nI i)) (.val (nI (c1 (p.P i)+1))) (.val (nI (p.B (p.P i+1))))) wl=some (decide (c1 (p.P i+1)<c1 (p.P i)+1),wl):=Gk (de (x:=.bor (.ob (.dict (Q0 p c1)))) rfl rfl (wB h q1)) rfl
  have b1:=g.g1 _ hP;by_cases q:c1 (p.P i+1)<c1 (p.P i)+1
  . rw[decide_eq_true q]at t
    refine .next (upd c1 (p.P i+1) (c1 (p.P i)+1),true,.val (nI (c1 (p.P i)+1)),.val (nI (p.B (p.P i+1)))) (.val (nI i)) (ao stp<|ao (cz t (ao (Mc (k:=(p.B (p.P i+1):Int)) (d:=nI (c1 (p.P i)+1)) (es:=Q0 p c1) rfl rfl rfl (decide_eq_true (by refine eW (aj ..)<|eW aq ?_;have:=h.m3.2;lia))) (ao (aZ rfl rfl) aY))) ?_) (.va _)
     ⟨λj hj=>if r:j=p.P i+1 then ak (bh (if_pos r)) (r▸cB b1)else ak (bh (if_neg r)) (g.g1 j hj),ak (Kz q1 q (cB b1)) (ak (aP _ _) g.g2),.va _,.va _⟩
    have:=Lq (f:=p.B) (G:=nI) (c:=c1) (n:=p.m) (j:=p.P i+1) (v:=c1 (p.P i)+1) (λi hi e=>h.OL hi q1 e) q1;exact eW this rfl
  . rw[decide_eq_false q]at t
    exact .next (c1,MH,.val (nI (c1 (p.P i)+1)),.val (nI (p.B (p.P i+1)))) (.val (nI i)) (ao stp<|ao (kU t) aY) (.va _) ⟨g.g1,g.g2,.va _,.va _⟩
def CI(p:Prog)(a:(Nat->Nat)×Bool×Slot×Slot×Slot):Prop:=(∀j,j<p.m->a.1 j<=j+1)/\Y a.2.2.1/\Y a.2.2.2.1/\Y a.2.2.2.2
theorem B5(hN:100<=N){a:(Nat->Nat)×Bool×Slot×Slot×Slot}:CI p a->a.2.1=true->
 yZ (hX (au N (k+13)) N (cN (bodyOf fp)) (My p a.1 a.2.1 a.2.2.1 a.2.2.2.1 a.2.2.2.2,wl)) (λa=>My p a.1 a.2.1 a.2.2.1 a.2.2.2.1 a.2.2.2.2) (λ_=>wl) λa'=>CI p a'/\2*rA p a'.1+a'.2.1.toNat<2*rA p a.1+a.2.1.toNat:=
 Us a λc ch s3 s4 s5 hI hT=>fA hI λhc h3 h4 h5=>by
  clear hI;change ch=true at hT;subst hT;exact tQ (C:=au N (k+13)) (N:=N) (wl:=wl) (fr:=My p c false s3 s4 s5) (λ(a:(Nat->Nat)×Bool×Slot×Slot) y=>My p a.1 a.2.1 y a.2.2.1 a.2.2.2) (λ_=>wl) (λ_=>CIn p c) (c,false,s4,s5) (j:=3) (y0:=s3) (it:=.call (.bc (.obj 513)) (.cons (.var 0) .nil)) (b:=bR (cN (bodyOf fp))) (l:=p.locals) (g:=nI)
   (x:=.fv (nL p.locals)) (aG (ah rfl aE) (tW h (k:=k+2))) (d_ (ll (vP h) rfl)) rfl h3 ⟨hc,aT _,h4,h5⟩ (λ_ _=>rfl) (λ_ _ _=>rfl) (λn i a hi g=>Ed h hN hi g)
   λa y hy=>NR a λc2 ch2 s4' s5' g el=>.mk .next (c2,ch2,y,s4',s5') (ao (aZ rfl rfl)<|ao el aY) fw ⟨⟨g.g1,hy,g.g3,g.g4⟩,
    d5 (ak (cq (EM _ (uu 1)) _) (ak (bh (YW 2 _ _).symm) (i2 2 g.g2)))⟩
theorem Cb(hN:100<=N):∃c:Nat->Nat,(∀j,j<p.m->c j<=j+1)/\au N (k+14) (.obj 535) [.fv p.fv] wl=some (.dict (mq p.B (λj=>nI (c j)) p.m),wl):=by
 have e1:ev (au N (k+13)) (.rO true 1 [] (.attr (.var 0) 4) 0 (.lit (.int 1))) [.val p.fv,.unset,.unset,.unset,.unset,.unset] wl=some (.own (.ob (.dict (Q0 p λ_=>1))),wl):=
  yR (own:=true) (cs:=[]) (x:=.fv (nL ((ae p.m).map p.B))) rfl (nE h) rfl (λi j D2 hj=>h.inj D2 hj) (ll h.m3.2 rfl) (λi hi=>rfl)
 have abp:rA p (λ_=>1)<=6:=(by decide+kernel:∀m,m<4->sumTo (λj=>j+1-1) m<=6) p.m (d5 h.m3.2);refine se (C:=au N (k+13)) (N:=N) (wl:=wl) (fr:=My p (λ_=>1) true .unset .unset .unset) (λa=>My p a.1 a.2.1 a.2.2.1 a.2.2.2.1 a.2.2.2.2) (λ_=>wl) (CI p) (λa=>2*rA p a.1+a.2.1.toNat) (λ_=>1,true,.unset,.unset,.unset) (t:=.var 2) (b:=cN (bodyOf fp)) rfl rfl ⟨λj _=>cB (aU j),.un,.un,.un⟩
  (by show 2*rA p (λ_=>1)+1<N;lia) (λa=>a.2.1) (λa _=>jI rfl rfl) (λa=>B5 h hN) λa=>Us a λc ch s3 s4 s5 hI hT e=>?_
 change ch=false at hT;subst hT;exact⟨c,hI.1,cK (k:=k+13) rfl<|bt rfl rfl<|ao (gC e1 rfl)<|ao (aZ rfl rfl)<|ao e<|ao rfl<|br (bY rfl)⟩
def UT(p:Prog)(x y z w:Slot):List Slot:=[.val p.fv,.val (nL p.locals),.val (.dict (mq p.B p.vT p.m)),x,y,z,w]
theorem yP(ht:t<p.m):jt (.fv (.dict (mq p.B g p.m))) (.fv (nI (p.B t))) wl=some (.fv (g t)):=wB h ht
theorem JD(hN:100<=N){n:Nat}{a:Slot×Slot}(pL:p.locals[n]?=some i):Y a.1/\Y a.2->Turn (hX (au N (k+14)) N (bR (bodyOf jr)) (UT p (.val (nI i)) a.1 a.2 .unset,wl)) (λ(a:Slot×Slot) y=>UT p y a.1 a.2 .unset) (λ_=>wl) λa=>Y a.1/\Y a.2:=
 JY a λs4 s5 g=>xA g λh4 h5=>xA ((qA h).mp (aF pL)) λhi hw=>jP (h.call i hi hw) λq1 q2 q3=>xA (h.part i hi) λhP _=>by
  have i4:=h.i4
  have lt:=h.UX _ hP;refine .next (.val (nI (p.B (p.P i))),.val (nI (p.B (p.P i+1)))) (.val (nI i)) (ao (gk (xs:=[.fv (nI (p.B (p.P i))),.fv (nI (p.B (p.P i+1)))]) (ah (fm (c:=490) rfl (ah rfl aE) rfl rfl (lE h (k:=k+13) hi (ak (by decide) hN))) (ah (q2▸fm (c:=490) rfl (ah rfl aE) rfl rfl (i8 h (k:=k+2) hi (.inr (.inr hw)))) aE)) (U8 rfl h4 rfl h5))<|
   ao (kU (Ae (fZ (b:=false) (gI (x:=p.B (p.P i+1)) (y:=p.B (p.P i)) (by rw[beq_eq_false_iff_ne];lia) rfl rfl) λ_=>fZ (b:=false) (fJ rfl (de (x:=.fv (.dict (mq p.B p.vT p.m))) rfl rfl (yP h q1)) ?_) λ_=>r7))) aY) (.va _) ⟨.va _,.va _⟩
  show some (((ae (p.m-(p.P i+1+1))).map λx=>(p.B (p.P i+1+1+x):Int)).contains (p.B (p.P i):Int))=_;refine congrArg some (dY.mpr λc=>bS (bO.mp (gS.mp c)) λx hx e=>e_ (h.mono (i:=p.P i) (j:=p.P i+1+1+x) ?_ ?_) (pV e))
  . exact az (dm (bg _)) (aP _ _)
  . exact bV (fu (aC.mp hx))
theorem wO(hN:100<=N):au N (k+15) (.obj 563) [.fv p.fv] wl=some (.none,wl):=by
 have i4:=h.i4
 have lc:=vP h
 have t:∀(fr:List Slot),fr[1]?=some (.val (nL p.locals))->eK (au N (k+14)) (.un .Not (.var 1)) fr wl=some (p.locals.isEmpty,wl):=λfr hf=>by
  have:=Gj (C:=au N (k+14)) (fr:=fr) (wl:=wl) (a:=.var 1) (w1:=wl) (b:= !p.locals.isEmpty) (PY (x:=.fv (nL p.locals)) rfl (by exact eW fi<|eW hf rfl) (by
   show(if cc (p.locals.map nI).length=true then some (!(p.locals.map nI).isEmpty)else ab)=_;rw[if_pos (show cc _=true from decide_eq_true (by rw[aj];exact ll lc rfl)),MU]))
  rwa[Bool.not_not]at this
 have e0:ev (au N (k+14)) (.call (.bc (.obj 513)) (.cons (.var 0) .nil)) [.val p.fv,.unset,.unset,.unset,.unset,.unset,.unset] wl=some (.fv (nL p.locals),wl):=aG (ah rfl aE) (tW h (k:=k+3));induction hl:p.locals.isEmpty using ax with
 |true=>exact cK (k:=k+14) rfl<|bt rfl rfl<|ao (aZ e0 rfl)<|br (cz ((t _ rfl).trans (by exact eW hl rfl)) (br (bY rfl)))
 |false=>
  exact bS (Cb h (k:=k) (wl:=wl) hN) λc hc ec=>
   tQ (C:=au N (k+14)) (N:=N) (wl:=wl) (fr:=UT p .unset .unset .unset .unset) (λ(a:Slot×Slot) y=>UT p y a.1 a.2 .unset) (λ_=>wl) (λ_ a=>Y a.1/\Y a.2) (.unset,.unset) (j:=3) (y0:=.unset) (it:=.var 1) (b:=bR (bodyOf jr)) (x:=.fv (nL p.locals)) (l:=p.locals) (g:=nI) rfl (d_ (ll lc rfl)) rfl .un ⟨.un,.un⟩ (λ_ _=>rfl) (λ_ _ _=>rfl) (λn i a hi g=>JD h hN hi g) λa y hy=>JY a λs4 s5 g e1=>
   tQ (C:=au N (k+14)) (N:=N) (wl:=wl) (fr:=UT p y s4 s5 (.val (.dict (Q0 p c)))) (λ(_:Unit) y=>UT p y s4 s5 (.val (.dict (Q0 p c)))) (λ_=>wl) (λ_ _=>True) () (j:=3) (y0:=y) (it:=.var 1) (b:=bR (lZ 5 (bodyOf jr))) (x:=.fv (nL p.locals)) (l:=p.locals) (g:=nI) rfl (d_ (ll lc rfl)) rfl hy trivial (λ_ _=>rfl) (λ_ _ _=>rfl) (λn i _ hi _=>xA ((qA h).mp (aF hi)) λhi hw=>xA (h.part i hi) λhP _=>by
    have:=hc _ hP
    have m3:=h.m3;exact .next () (.val (nI i)) (ao (kU (T5 (x:=c (p.P i)) (y:=8) (decide_eq_false (by lia)) (de (x:=.fv (.dict (Q0 p c))) rfl (fm (c:=490) rfl (ah rfl aE) rfl rfl (lE h (k:=k+13) hi (ak (by decide) hN))) (yP h hP)) rfl)) aY) (.va _) trivial) λ_ y2 _ _ e2=>
   cK (k:=k+14) rfl<|Af rfl rfl<|ao (aZ e0 rfl)<|ao (kU ((t _ rfl).trans (by exact eW hl rfl)))<|ao (aZ (aG (ah rfl aE) (Eo h (k:=k) (ak (by decide) hN))) rfl)<|ao e1<|ao (aZ (aG (ah rfl aE) ec) rfl)<|ao e2 aY
theorem z7(hN:100<=N)(hx:x.arg.GQ=some x)(hl:Cf false [x]=some (.fv (fH p))):au N (k+16) (.obj 571) [x] wl=some (p.fv,wl):=by
 have i4:=h.i4
 have pos:=h.pos
 have v:ev (au N (k+15)) (.var 0) [x.arg,.val (.int 4096),.unset] wl=some (x,wl):=by
  show(x.arg.GQ).map (λy=>(y,wl))=_;exact eW hx rfl
 exact cK (k:=k+15) rfl<|bt rfl rfl<|ao (aZ (aG (ah v aE) (Ep (k:=k+3) h hx hl)) rfl)<|ao (kU (gI (x:=p.n) (y:=0) (by rw[beq_eq_false_iff_ne];lia) (fm (c:=490) rfl aE rfl rfl (nQ h (k:=k+14))) rfl))<|
  ao (kU (Ih (x:=p.n) (y:=4096) (decide_eq_false (by lia)) rfl rfl))<|ao (Gl (aG (ah rfl aE) (wN h (k:=k+1) (ak (by decide) hN))))<|ao (Gl (aG (ah rfl aE) (xU h (k:=k+1))))<|ao (Gl (aG (ah rfl aE) (sW h (k:=k) hN)))<|ao (Gl (aG (ah rfl aE) (wO h (k:=k) hN)))<|br (bY rfl)
end
noncomputable def rr(L:Nat->Nat):List Nat->Nat
 |[]=>0
 |j::r=>L j|||rr L r
theorem l9:∀l,(rr L l).testBit t=true↔∃j∈l,(L j).testBit t=true
 |[]=>by simp[rr]
 |j::r=>by simp[rr,ij,l9 r]
theorem Be:rr L (l++[j])=rr L l|||L j:=cx λt=>by
 refine iW cR<|iW (l9 ..)<|eW (ij ..)<|eW (gO ..)<|iW (l9 ..) ?_;simp only[cp,aH];constructor
 . rintro ⟨x,q|q,e⟩
   . exact .inl ⟨x,q,e⟩
   . rw[q]at e;exact .inr e
 . rintro (⟨x,q,e⟩|e)
   . exact⟨x,.inl q,e⟩
   . exact⟨j,.inr rfl,e⟩
theorem Dk{n:Nat}:∀l,(∀j∈l,L j<2^n)->rr L l<2^n
 |[],_=>xu (by decide)
 |j::r,h=>MS (h j a7) (Dk r λx hx=>h x (aW _ hx))
def fG(nx:Nat->List Nat)(G K L:Nat->Nat)(i:Nat):Nat:=n3 (rr L (nx i)) (K i)|||G i
abbrev bits(G:Nat->Nat):Nat->Nat->Prop:=λi t=>(G i).testBit t=true
theorem pE{G K:Nat->Nat}:(fG nx G K L i).testBit t=true↔((∃j∈nx i,(L j).testBit t=true)/\¬bits K i t)\/bits G i t:=by
 delta fG;refine eW (ij ..)<|eW (gO ..)<|eW (yx ..)<|eW (bX ..)<|iW (l9 ..)<|eW (Bool.not_eq_true' ..) ?_;simp[bits]
theorem Ow(h:∀t,a.testBit t=true->b.testBit t=true):a<=b:=by
 have:a|||b=b:=cx λt=>by
  refine eW (ij ..) ?_;induction q:a.testBit t using ax with
  |true=>exact eW (h t q) rfl
  |false=>rfl
 exact eL this<|Nat.left_le_or
structure Mb(p:Prog)(G K L:Nat->Nat):Prop where
 lt:∀i,i<p.n->L i<2^64
 sound:∀i t,i<p.n->(L i).testBit t=true->kX p.n p.succ (bits G) (bits K) i t
 grow:∀i t,i<p.n->(L i).testBit t=true->(fG p.succ G K L i).testBit t=true
def rz(p:Prog)(L:Nat->Nat):Nat:=sumTo (λi=>2^64-L i) p.n
section
variable (h:p.Ok N){G K:Nat->Nat}(hG:∀i,i<p.n->G i<2^64)
include h hG
theorem Mb.put(s:Mb p G K L)(hi:i<p.n):Mb p G K (upd L i (fG p.succ G K L i))/\(fG p.succ G K L i≠L i->rz p (upd L i (fG p.succ G K L i))<rz p L):=by
 have lt:fG p.succ G K L i<2^64:=by
  delta fG;refine MS (aQ (pd _ _) (Dk _ λj hj=>s.lt j (h.j6 hi hj).1)) (hG i hi)
 have up:∀j t,j<p.n->(L j).testBit t=true->(upd L i (fG p.succ G K L i) j).testBit t=true:=λj t hj q=>by
  by_cases e:j=i
  . subst e;exact eW d9<|s.grow j t hj q
  . rwa[gh e]
 have mono:∀j t,j<p.n->(fG p.succ G K L j).testBit t=true->(fG p.succ G K (upd L i (fG p.succ G K L i)) j).testBit t=true:=λj t hj q=>by
  rw[pE]at q⊢;rcases q with⟨⟨x,hx,e⟩,q⟩|q
  . exact .inl ⟨⟨x,hx,up x t (h.j6 hj hx).1 e⟩,q⟩
  . exact .inr q
 refine⟨⟨λj hj=>?_,λj t hj q=>?_,λj t hj q=>?_⟩,λne=>?_⟩
 . by_cases e:j=i
   . exact eW e<|eW d9<|lt
   . exact eW (gh e)<|s.lt j hj
 . by_cases e:j=i
   . subst e
     rw[d9,pE]at q;rcases q with⟨⟨x,hx,e⟩,q⟩|q
     . exact .back hj hx (s.sound x t (h.j6 hj hx).1 e) q
     . exact .ask hj q
   . rw[gh e]at q;exact s.sound j t hj q
 . by_cases e:j=i
   . subst e;rw[d9]at q;exact mono j t hj q
   . rw[gh e]at q;exact mono j t hj (s.grow j t hj q)
 . have e:=oF (f:=λi=>2^64-L i) (g:=λj=>2^64-upd L i (fG p.succ G K L i) j) (i:=i) (λj hj=>by exact eW (gh hj) rfl) p.n hi
   rw[d9]at e;exact AH e (iZ (s.lt i hi) (gL (Ow (s.grow i · hi)) (d6 ne)))
omit hG in
theorem AJ(i:Nat):(p.succ i).length<=1000:=ak (ak (aP _ _) (aI (as:=p.succ i)▸qz h i)) (av rfl)
abbrev Bp(p:Prog)(L:Nat->Nat):List FV:=(ae p.n).map λi=>nI (L i)
def SF(p:Prog)(f:FV)(L:Nat->Nat)(ch:Bool)(x y z:Slot):List Slot:=[.val p.fv,.own (.ob (.list (Bp p L))),.val (nI 0),.val f,.val (.bool ch),x,y,z]
omit hG in
theorem GN{f:FV}{L1:Nat->Nat}{ch:Bool}{s:Slot}(hi:i<p.n)(hs:Y s)
 (kk:∀z,Y z->ex (au N (k+13)) N (.for [7] (.call (.bc (.obj 508)) (.cons (.var 0) (.cons (.var 5) .nil))) (.cons (.assign 6 (.bin .BitOr (.var 6) (.idx (.var 1) (.var 7)))) .nil)) (SF p f L1 ch (.val (nI i)) (.val (nI 0)) s,wl)=some (.next,SF p f L1 ch (.val (nI i)) (.val (nI (rr L1 (p.succ i)))) z,wl)->P):P:=
 tQ (C:=au N (k+13)) (N:=N) (wl:=wl) (fr:=SF p f L1 ch (.val (nI i)) (.val (nI 0)) s) (λ(a:Nat) y=>SF p f L1 ch (.val (nI i)) (.val (nI a)) y) (λ_=>wl) (λn a=>a=rr L1 ((p.succ i).take n)) 0 (j:=7) (y0:=s) (it:=.call (.bc (.obj 508)) (.cons (.var 0) (.cons (.var 5) .nil))) (b:=.cons (.assign 6 (.bin .BitOr (.var 6) (.idx (.var 1) (.var 7)))) .nil) (l:=p.succ i) (g:=nI)
  (aG (ah rfl (ah rfl aE)) (sZ h (k:=k) hi)) (d_ (AJ h i)) rfl hs rfl (λ_ _=>rfl) (λ_ _ _=>rfl) (λn j a hj ha=>
    have D1:=(h.j6 hi (aF hj)).1
    .next (a|||L1 j) (.val (nI j)) (ao (aZ (dh rfl (de (x:=.bor (.ob (.list (Bp p L1)))) rfl rfl (nH (eD D1) (az D1 (ll h.i4 rfl)))) (Ab a (L1 j))) rfl) aY) (.va _) (by exact eW ha<|eW t8<|eW hj<|eW (ra ..)<|eW Be rfl))
  λa z hz ha e=>kk z hz ((congrArg (rr L1) n7).symm.trans ha.symm▸e)
structure SIn(p:Prog)(G K L:Nat->Nat)(n:Nat)(a:(Nat->Nat)×Bool×Slot×Slot):Prop where
 g1:Mb p G K a.1
 g2:rz p a.1+a.2.1.toNat<=rz p L
 g3:a.2.1=false->∀m i,m<n->(ae p.n).reverse[m]?=some i->fG p.succ G K a.1 i=a.1 i
 g4:Y a.2.2.1
 g5:Y a.2.2.2
theorem CZ{f:FV}{n:Nat}{a:(Nat->Nat)×Bool×Slot×Slot}(hf:∀i m,i<p.n->m<2^64->au N (k+13) f [.fv (nI i),.fv (nI m)] wl=some (nI (n3 m (K i)|||G i),wl))(pL:(ae p.n).reverse[n]?=some i):
 SIn p G K L n a->Turn (hX (au N (k+13)) N (bR (cN (bodyOf jU))) (SF p f a.1 a.2.1 (.val (nI i)) a.2.2.1 a.2.2.2,wl)) (λ(a:(Nat->Nat)×Bool×Slot×Slot) y=>SF p f a.1 a.2.1 y a.2.2.1 a.2.2.2) (λ_=>wl) (SIn p G K L (n+1)):=
 NR a λL1 MH s6 s7 g=>
  have hi:i<p.n:=aC.mp (n8.mp (aF pL))
  GN h (f:=f) (k:=k) (wl:=wl) (ch:=MH) hi g.g5 λz hz eo=>by
   have i6:i<1000000:=az hi (ll h.i4 rfl)
   have aaI:rr L1 (p.succ i)<2^64:=Dk _ λj hj=>g.g1.lt j (h.j6 hi hj).1
   have t:eK (au N (k+13)) (.cmp .NotEq (.var 6) (.idx (.var 1) (.var 5))) (SF p f L1 MH (.val (nI i)) (.val (nI (fG p.succ G K L1 i))) z) wl=some (!decide (fG p.succ G K L1 i=L1 i),wl):=
    L_ (x:=fG p.succ G K L1 i) (y:=L1 i) (by rw[cR,beq_iff_eq,decide_eq_true_iff];exact jh) rfl (de (x:=.bor (.ob (.list (Bp p L1)))) rfl rfl (nH (eD hi) i6))
   have pre:∀{z':Option (Fl×St)},hX (au N (k+13)) N (lZ 3 (bR (cN (bodyOf jU)))) (SF p f L1 MH (.val (nI i)) (.val (nI (fG p.succ G K L1 i))) z,wl)=z'->hX (au N (k+13)) N (bR (cN (bodyOf jU))) (SF p f L1 MH (.val (nI i)) s6 s7,wl)=z':=λe=>
    ao (aZ rfl (jD rfl g.g4))<|ao eo<|ao (aZ (ET (d:=f) rfl (ah rfl (ah rfl aE)) (hf i _ hi aaI)) rfl) e
   by_cases q:fG p.succ G K L1 i=L1 i
   . rw[decide_eq_true q]at t
     exact .next (L1,MH,.val (nI (fG p.succ G K L1 i)),z) (.val (nI i)) (pre (ao (kU t) aY)) (.va _) ⟨g.g1,g.g2,λhc m j hm hj=>(cw.mp hm).elim (λr=>g.g3 hc m j r hj) λr=>ag ((r▸pL).symm.trans hj)▸q,.va _,hz⟩
   . rw[decide_eq_false q]at t
     refine xA (g.g1.put h hG hi) λp1 p2=>.next (upd L1 i (fG p.succ G K L1 i),true,.val (nI (fG p.succ G K L1 i)),z) (.val (nI i)) (pre (ao (cz t (ao (EA (k:=(i:Int)) (d:=nI (fG p.succ G K L1 i)) (xs:=Bp p L1) rfl rfl rfl ⟨bI _,by refine eW (aj ..)<|eW aq ?_;exact hi,by lia⟩) (ao (aZ rfl rfl) aY))) ?_)) (.va _)
      ⟨p1,ak (p2 q) (ak (aP _ _) g.g2),λhc=>ff hc.symm,.va _,hz⟩
     have e1:(Bp p L1).set i (nI (fG p.succ G K L1 i))=Bp p (upd L1 i (fG p.succ G K L1 i)):=zj (F:=nI)
     show _=some (Fl.next,SF p f (upd L1 i (fG p.succ G K L1 i)) true _ _ _,wl);delta SF;exact eL e1 rfl
def SI(p:Prog)(G K:Nat->Nat)(a:(Nat->Nat)×Bool×Slot×Slot×Slot):Prop:=Mb p G K a.1/\(a.2.1=false->∀i,i<p.n->fG p.succ G K a.1 i=a.1 i)/\Y a.2.2.1/\Y a.2.2.2.1/\Y a.2.2.2.2
theorem AV{f:FV}{a:(Nat->Nat)×Bool×Slot×Slot×Slot}(hf:∀i m,i<p.n->m<2^64->au N (k+13) f [.fv (nI i),.fv (nI m)] wl=some (nI (n3 m (K i)|||G i),wl)):SI p G K a->a.2.1=true->
 yZ (hX (au N (k+13)) N (cN (bodyOf jU)) (SF p f a.1 a.2.1 a.2.2.1 a.2.2.2.1 a.2.2.2.2,wl)) (λa=>SF p f a.1 a.2.1 a.2.2.1 a.2.2.2.1 a.2.2.2.2) (λ_=>wl) λa'=>SI p G K a'/\2*rz p a'.1+a'.2.1.toNat<2*rz p a.1+a.2.1.toNat:=
 Us a λL ch s5 s6 s7 hI hT=>kI hI λhS _ h5 h6 h7=>by
  clear hI;change ch=true at hT;subst hT
  have rg:ev (au N (k+13)) (.bj .range false (.cons (.bin .Sub (.eg (.user 20) (.var 0) .nil) (.lit (.int 1))) (.cons (.un .USub (.lit (.int 1))) (.cons (.un .USub (.lit (.int 1))) .nil)))) (SF p f L false s5 s6 s7) wl=some (.fv (.range ((p.n:Int)-1) (-1) (-1)),wl):=
   cI (ah (dh (fm (c:=490) rfl aE rfl rfl (nQ h (k:=k+12))) rfl rfl) (ah rfl (ah rfl aE))) rfl
  exact tQ (C:=au N (k+13)) (N:=N) (wl:=wl) (fr:=SF p f L false s5 s6 s7) (λ(a:(Nat->Nat)×Bool×Slot×Slot) y=>SF p f a.1 a.2.1 y a.2.2.1 a.2.2.2) (λ_=>wl) (SIn p G K L) (L,false,s6,s7) (j:=5) (y0:=s5) (b:=bR (cN (bodyOf jU))) (l:=(ae p.n).reverse) (g:=nI)
   rg (DH p.n (aC.mpr (aQ h.i4 (by decide)))) rfl h5 ⟨hS,aT _,λ_ m i hm=>absurd hm (dz _),h6,h7⟩ (λ_ _=>rfl) (λ_ _ _=>rfl) (λn i a hi g=>CZ h hG hf hi g)
   λa y hy=>NR a λL2 ch2 Zf s7' g el=>.mk .next (L2,ch2,y,Zf,s7') (ao (aZ rfl rfl)<|ao el aY) fw ⟨⟨g.g1,λhc i hi=>g.g3 hc (p.n-1-i) i (by exact eW iP<|eW aq<|JG hi) (by
    rw[List.getElem?_reverse (by rw[aq];exact JG hi),aq,NC hi,Iy hi]),hy,g.g4,g.g5⟩,
    d5 (ak (cq (EM _ (uu 1)) _) (ak (bh (YW 2 _ _).symm) (i2 2 g.g2)))⟩
theorem tV{f:FV}(hN:2^80<=N)(hf:∀i m,i<p.n->m<2^64->au N (k+13) f [.fv (nI i),.fv (nI m)] wl=some (nI (n3 m (K i)|||G i),wl)):
 ∃L:Nat->Nat,(∀i,i<p.n->L i<2^64/\∀t,(L i).testBit t=true↔kX p.n p.succ (bits G) (bits K) i t)/\
  au N (k+14) (.obj 604) [.fv p.fv,.own (.ob (.list ((ae p.n).map λ_=>nI 0))),.fv (nI 0),.fv f] wl=some (.list ((ae p.n).map λi=>nI (L i)),wl):=by
 have l0:rz p (λ_=>0)<=30*2^64:=ak (rm (c:=2^64) (λ_=>pd _ _) p.n) (ip _ h.i4)
 have z:∀t,(0:Nat).testBit t=true->False:=λt q=>ff ((iE t).symm.trans q);refine se (C:=au N (k+13)) (N:=N) (wl:=wl) (fr:=SF p f (λ_=>0) true .unset .unset .unset) (λa=>SF p f a.1 a.2.1 a.2.2.1 a.2.2.2.1 a.2.2.2.2) (λ_=>wl) (SI p G K) (λa=>2*rz p a.1+a.2.1.toNat) (λ_=>0,true,.unset,.unset,.unset) (t:=.var 4) (b:=cN (bodyOf jU)) rfl rfl
  ⟨⟨λ_ _=>xu (by decide),λi t _ q=>(z t q).elim,λi t _ q=>(z t q).elim⟩,λq=>ff q.symm,.un,.un,.un⟩ (by show 2*rz p (λ_=>0)+1<N;lia) (λa=>a.2.1) (λa _=>jI rfl rfl) (λa=>AV h hG hf) λa=>Us a λL ch s5 s6 s7 hI hT e=>?_
 change ch=false at hT;subst hT;exact jP hI λhS(WD:_->∀i,i<p.n->fG p.succ G K L i=L i) _=>⟨L,λi hi=>⟨hS.lt i hi,λt=>⟨hS.sound i t hi,λq=>q.least (F:=λi t=>i<p.n->(L i).testBit t=true) (λi t hi ha hi=>by exact eL (WD rfl i hi)<|iW pE<|.inr ha) (λi j t hi hj q hl hi=>by exact eL (WD rfl i hi)<|iW pE<|.inl ⟨⟨j,hj,q (h.j6 hi hj).1⟩,hl⟩) hi⟩⟩,
  cK (k:=k+13) rfl<|bt rfl rfl<|ao (aZ rfl rfl)<|ao e<|ao rfl<|br (bY rfl)⟩
end
noncomputable def mO:IB->IB
 |.cons (.kS _ _ _ b) _=>b
 |.cons _ r=>mO r
 |.nil=>.nil
noncomputable abbrev PT(p:Prog):Nat->List Nat:=λi=>(p.r i).asks
noncomputable abbrev layR(p:Prog):Nat->List Nat:=λi=>(p.r i).gu
abbrev PQ(p:Prog):Nat->List Nat:=λi=>(p.r i).rs.map dH
abbrev Oz(p:Prog):Nat->List Nat:=λi=>whole ((p.r i).ws.map dH)
theorem Cd(f:Nat->List Nat):bits (λi=>bF (f i))=ins f:=funext λi=>funext λt=>propext (by show(bF (f i)).testBit t=true↔_;rw[gx,decide_eq_true_iff])
abbrev tJ(a b:Nat):FV:=.tup [nI a,nI b]
theorem Cj{m:Nat}{n:Nat}{f:Nat->FV}(hi:i<n)(hn:n<=100)(hs:fr[s]?=some (.ro (.list ((ae n).map f))))(hf:f i=tJ a b)(h0:fr[0]?=some (.val (nI i)))(h1:fr[1]?=some (.val (nI m))):
 ev C (.bin .BitOr (.bin .BitAnd (.var 1) (.un .Invert (.idx (.idx (.var s) (.var 0)) (.lit (.int 1))))) (.idx (.idx (.var s) (.var 0)) (.lit (.int 0)))) fr wl=some (.fv (nI (n3 m b|||a)),wl):=by
 have vs:ev C (.var s) fr wl=some (.fv (.list ((ae n).map f)),wl):=by exact eW fi<|eW hs rfl
 have v0:ev C (.var 0) fr wl=some (.fv (nI i),wl):=by exact eW fi<|eW h0 rfl
 have v1:ev C (.var 1) fr wl=some (.fv (nI m),wl):=by exact eW fi<|eW h1 rfl
 have x:ev C (.idx (.var s) (.var 0)) fr wl=some (.fv (tJ a b),wl):=de vs v0 (by exact eL hf<|fx (eD hi) (by lia));refine dh (x:=.fv (nI (n3 m b))) (y:=.fv (nI a)) (dh v1 (XW (r:=.fv (.int (xi (b:Int)))) (de x rfl rfl) rfl) ?_) (de x rfl rfl) (Ab _ _);exact congrArg (λz=>some (EV.fv (.int z))) (H_ m b)
theorem TZ(ha:a<2^64):n3 a 0|||(2^64-1)=2^64-1:=cx λt=>by
 refine eW (ij ..)<|eW (yx ..)<|eW (lV ..) ?_;by_cases q:t<64
 . exact eW (decide_eq_true q)<|eW (Bool.or_true ..) rfl
 . rw[jZ (az ha (kV (by decide) (by lia))),decide_eq_false q];rfl
section
variable (h:p.Ok N)
include h
theorem Aw:ev C (.comp true 1 [] (.attr (.var 0) 0) [0] .nil (.emit (.lit (.int 0)))) (.val p.fv::fr) wl=some (.own (.ob (.list ((ae p.n).map λ_=>nI 0))),wl):=
 comp_map (own:=true) p.o (ae p.n) (aX:=[]) (cs:=[]) (x:=.fv (fH p)) rfl (kl (by refine eW (aj ..)<|eW aq ?_;have:=h.i4;lia)) rfl (λ_=>nI 0) (λ_ _=>rfl) (by refine eW aq ?_;have:=h.i4;lia)
theorem Bd(hg:∀i,i<p.n->au N (k+14) (.obj a) [.fv (p.o i)] wl=some (g i,wl)):ev (au N (k+14)) (.comp false 1 [] (.attr (.var 0) 0) [0] .nil (.emit (.call (.bc (.obj a)) (.cons (.var 0) .nil)))) (.val p.fv::fr) wl=some (.fv (.list ((ae p.n).map g)),wl):=
 comp_map (own:=false) p.o (ae p.n) (aX:=[]) (cs:=[]) (x:=.fv (fH p)) rfl (kl (by refine eW (aj ..)<|eW aq ?_;have:=h.i4;lia)) rfl g (λi hi=>aG (ah rfl aE) (hg i (aC.mp hi))) (by refine eW aq ?_;have:=h.i4;lia)
theorem yS(hN:2^80<=N):∃L:Nat->Nat,(∀i,i<p.n->L i<2^64/\∀t,(L i).testBit t=true↔kX p.n p.succ (ins (PT p)) (ins (layR p)) i t)/\au N (k+15) (.obj 609) [.fv p.fv] wl=some (.list ((ae p.n).map λi=>nI (L i)),wl):=by
 have i4:=h.i4
 (refine bS (tV (k:=k) (wl:=wl) (N:=N) (f:=.mB 0 [.list ((ae p.n).map λi=>tJ (bF (p.r i).asks) (bF (p.r i).gu))]) h (G:=λi=>bF (p.r i).asks) (K:=λi=>bF (p.r i).gu) (λi hi=>Fv λx hx=>dk ((h.Qm i hi).asks.2 x hx) (by decide)) hN (λi m hi hm=>RA (k:=k+12) rfl<|bt rfl rfl<|br<|bY<|Cj hi (by lia) rfl rfl rfl rfl)) λL hL e=>?_)
 rw[Cd (PT p),Cd (layR p)]at hL;exact⟨L,hL,cK (k:=k+14) rfl<|bt rfl rfl<|ao (aZ (Bd h (g:=λi=>tJ (bF (p.r i).asks) (bF (p.r i).gu)) λi hi=>(h.ord i hi).Vx (k+4) wl) rfl)<|ao rfl<|ao rfl<|br<|bY<|aG (ah rfl (ah (Aw h) (ah rfl (ah rfl aE)))) e⟩
def DB(p:Prog)(n b:Nat):Prop:=∃i,i<n/\(p.r i).fM=true/\b=p.B (p.P i)
omit h in
theorem yw{n:Nat}:DB p (n+1) b↔DB p n b\/(p.r n).fM=true/\b=p.B (p.P n):=
 ⟨λq=>dU q λi h1 h2 h3=>(cw.mp h1).elim (λr=>.inl ⟨i,r,h2,h3⟩) λr=>.inr (r▸⟨h2,h3⟩),λq=>q.elim (λq=>dU q λi h1 h2 h3=>⟨i,dm h1,h2,h3⟩) λq=>⟨n,bg n,q⟩⟩
def LkI(p:Prog)(n:Nat)(a:List Nat×Slot):Prop:=a.1.length<=n/\(∀b,b∈a.1↔DB p n b)/\Y a.2
def Rq(p:Prog)(a:List Nat×Slot)(y z:Slot):List Slot:=[.val p.fv,.own (.ob (.list (a.1.map nI))),y,z,a.2]
theorem Ks(hN:10<=N)(hi:i<p.n){a:List Nat×Slot}:LkI p i a->L9 (hX (au N (k+13)) N (mO (bodyOf iK)) (Rq p a (.val (nI i)) (.val (p.o i)),wl)) (Rq p) (λ_=>wl) (LkI p (i+1)):=
 JY a λF s4 g=>jP g λf1 f2 h4=>by
  have i4:=h.i4;clear g;change F.length<=i at f1
  have st:ex (au N (k+13)) N (o5 0 (mO (bodyOf iK))) (Rq p (F,s4) (.val (nI i)) (.val (p.o i)),wl)=some (.next,Rq p (F,.val (nI (p.B (p.P i)))) (.val (nI i)) (.val (p.o i)),wl):=
   aZ (fm (c:=490) rfl (ah rfl aE) rfl rfl (lE h (k:=k+12) hi hN)) (jD rfl h4)
  have t:eK (au N (k+13)) (.ig (.cons (.call (.bc (.obj 637)) (.cons (.var 3) .nil)) (.cons (.cmp .NotIn (.var 4) (.var 1)) .nil))) (Rq p (F,.val (nI (p.B (p.P i)))) (.val (nI i)) (.val (p.o i))) wl=some ((p.r i).fM&& !decide (p.B (p.P i)∈F),wl):=qJ (jI rfl (aG (ah rfl aE) ((h.ord i hi).fM (k+3) wl))) (fJ rfl rfl (by
   show(j7 (p.B (p.P i):Int) (F.map nI)).map (!·)=_;exact eW (ny ..) rfl))
  induction q:((p.r i).fM&& !decide (p.B (p.P i)∈F))using ax with
  |true=>
   refine .mk .next (F++[p.B (p.P i)],.val (nI (p.B (p.P i)))) (.val (nI i)) (.val (p.o i)) (ao st<|ao (cz (q▸t) (ao (i_ (xs:=F.map nI) (d:=nI (p.B (p.P i))) rfl rfl (decide_eq_true (by refine eW (aj ..) ?_;lia))) aY)) (by delta Rq;exact eW bf rfl)) (.va _) (.va _) fw ⟨ak (bh aI) (cB f1),λb=>?_,.va _⟩
   exact iW yw<|iW cp<|iW aH<|iL (f2 ..)<|or_congr Iff.rfl ⟨λe=>⟨(qw.mp q).1,e⟩,λe=>e.2⟩
  |false=>
   refine .mk .next (F,.val (nI (p.B (p.P i)))) (.val (nI i)) (.val (p.o i)) (ao st<|ao (kU (q▸t)) aY) (.va _) (.va _) fw ⟨j0 f1,λb=>?_,.va _⟩
   refine iW yw<|iL (f2 ..) ?_;refine⟨.inl,λe=>e.elim id λe=>?_⟩;rw[e.1,gQ,Bool.not_eq_false',decide_eq_true_iff]at q;exact e.2▸q
theorem z9(hN:10<=N):∃F:List Nat,F.length<=30/\(∀b,b∈F↔∃i,i<p.n/\(p.r i).fM=true/\b=p.B (p.P i))/\au N (k+14) (.obj 644) [.fv p.fv] wl=some (nL F,wl):=
 QU (C:=au N (k+13)) (N:=N) (wl:=wl) (fr:=Rq p ([],.unset) .unset .unset) (Rq p) (λ_=>wl) (LkI p) ([],.unset) (i0:=2) (j:=3) (y0:=.unset) (z0:=.unset) (it:=.attr (.var 0) 0) (b:=mO (bodyOf iK)) (n:=p.n) (f:=p.o)
  rfl (ll h.i4 rfl) rfl .un .un ⟨aU _,λb=>⟨λq=>absurd q a8,λq=>bS q λi q _=>absurd q (dz _)⟩,.un⟩ (λ_ _ _=>rfl) (λ_ _ _ _=>rfl) (λ_ _ _=>rfl) (λ_ _ _ _=>rfl) (λi a hi g=>Ks h hN hi g)
  λa y z=>JY a λF s4 g e=>jP g λf1 f2 _=>⟨F,ak f1 h.i4,f2,cK (k:=k+13) rfl<|bt rfl rfl<|ao (gC (t:=.ob (.list [])) rfl rfl)<|ao e<|ao rfl<|br (bY rfl)⟩
def Prog.opened(p:Prog)(i:Nat):Prop:=∃j,j<p.n/\(p.r j).fM=true/\p.P j=p.P i
structure SAB(N:Nat)(p:Prog)(sa sb:Nat->Nat)(i:Nat):Prop where
 ev:∀k wl,au N (k+10) (.obj 630) [.fv (p.o i)] wl=some (tJ (sa i) (sb i),wl)
 lt:sa i<2^64
 a:(p.r i).fM=false->sa i=bF (PQ p i)
 b:(p.r i).fM=false->sb i=bF (Oz p i)
theorem Om:∃sa sb:Nat->Nat,∀i,i<p.n->SAB N p sa sb i:=
 xE (Classical.skolem.mp (show∀i,∃z:Nat×Nat,i<p.n->SAB N p (λ_=>z.1) (λ_=>z.2) i fromλi=>(Nat.lt_or_ge i p.n).elim (λhi=>cM (h.ord i hi).slots λa b q1 q2 q3=>⟨(a,b),λ_=>⟨q1,q2,λe=>(q3 e).1,λe=>(q3 e).2⟩⟩) λhi=>⟨(0,0),λc=>absurd c (cV.mpr hi)⟩)) λf hf=>
  ⟨λi=>(f i).1,λi=>(f i).2,λi hi=>(hf i hi).casesOn (motive:=λ_=>_) λa b c d=>⟨a,b,c,d⟩⟩
noncomputable def GL(p:Prog)(F:List Nat)(sa:Nat->Nat)(i:Nat):Nat:=if p.B (p.P i)∈F then 2^64-1 else sa i
noncomputable def KL(p:Prog)(F:List Nat)(sb:Nat->Nat)(i:Nat):Nat:=if p.B (p.P i)∈F then 0 else sb i
noncomputable def Ya(p:Prog)(F:List Nat):FV:=.list ((ae p.n).map λi=>FV.bool (decide (p.B (p.P i)∈F)))
def RU(p:Prog)(sa sb:Nat->Nat):FV:=.list ((ae p.n).map λi=>tJ (sa i) (sb i))
theorem Zx{F:List Nat}{sa sb:Nat->Nat}{m:Nat}(hi:i<p.n)(hm:m<2^64):au N (k+13) (.mB 1 [Ya p F,RU p sa sb]) [.fv (nI i),.fv (nI m)] wl=some (nI (n3 m (KL p F sb i)|||GL p F sa i),wl):=by
 have hn:p.n<=100:=ak h.i4 (by decide)
 have v2:ev (au N (k+12)) (.idx (.var 2) (.var 0)) [.val (nI i),.val (nI m),.ro (Ya p F),.ro (RU p sa sb)] wl=some (.fv (.bool (decide (p.B (p.P i)∈F))),wl):=de (x:=.fv (Ya p F)) rfl rfl (fx (eD hi) (az hi (ak hn (by decide))));delta KL GL;refine RA (k:=k+12) rfl<|bt rfl rfl<|br<|bY ?_;by_cases q:p.B (p.P i)∈F
 . rw[decide_eq_true q]at v2
   exact eW (if_pos q)<|eW (if_pos q)<|eW (TZ hm)<|qU (jI rfl v2) rfl
 . rw[decide_eq_false q]at v2
   exact eW (if_neg q)<|eW (if_neg q)<|pq (jI rfl v2) (Cj (n:=p.n) (f:=λi=>tJ (sa i) (sb i)) hi hn rfl rfl rfl rfl)
theorem N1(hi:i<p.n)(hj:j∈p.succ i)(q:¬p.opened i):¬p.opened j:=λc=>q (dU (c:∃x,x<p.n/\(p.r x).fM=true/\p.P x=p.P j) λx a b d=>⟨x,a,b,d.trans (h.j6 hi hj).2⟩)
theorem Bq{a b c d:Nat->Nat->Prop}(cl:∀j,j<p.n->¬p.opened j->∀t,(a j t->c j t)/\(d j t->b j t))(q:kX p.n p.succ a b i t):¬p.opened i->kX p.n p.succ c d i t:=
 q.least (F:=λi t=>¬p.opened i->kX p.n p.succ c d i t) (λi t hi ha q=>.ask hi ((cl i hi q t).1 ha)) λi j t hi hj ih hl q=>.back hi hj (ih (N1 h hi hj q)) λc=>hl ((cl i hi q t).2 c)
omit h in
theorem Bo:(bF l).testBit t=true↔t∈l:=by rw[gx,decide_eq_true_iff]
theorem B_(hN:2^80<=N):∃L:Nat->Nat,(∀i,i<p.n->(p.opened i->L i=2^64-1)/\(¬p.opened i->L i<2^64/\∀t,(L i).testBit t=true↔kX p.n p.succ (ins (PQ p)) (ins (Oz p)) i t))/\au N (k+15) (.obj 649) [.fv p.fv] wl=some (.list ((ae p.n).map λi=>nI (L i)),wl):=by
 have hn:p.n<=100000:=ak h.i4 (by decide)
 have hN':10<=N:=ak (by decide) hN;refine u7 (Om h) λsa sb hs=>dU (z9 h (k:=k) (wl:=wl) (ak (by decide) hN)) λF hFl hF eF=>?_
 have op:∀i,i<p.n->(p.B (p.P i)∈F↔p.opened i):=λi hi=>(hF _).trans ⟨λq=>dU q λj a b c=>⟨j,a,b,(h.OL (h.part i hi).1 (h.part j a).1 c).symm⟩,λq=>dU q λj a b c=>⟨j,a,b,congrArg p.B c.symm⟩⟩;refine bS (tV (k:=k) (wl:=wl) (N:=N) (f:=.mB 1 [Ya p F,RU p sa sb]) h (G:=GL p F sa) (K:=KL p F sb) (λi hi=>by
  delta GL;split
  . decide
  . exact(hs i hi).lt) hN λi m hi hm=>Zx h hi hm) λL hL e=>?_
 have cl:∀j,j<p.n->¬p.opened j->∀t,(bits (GL p F sa) j t↔ins (PQ p) j t)/\(bits (KL p F sb) j t↔ins (Oz p) j t):=λj hj q t=>by
  have c:p.B (p.P j)∉F:=λc=>q ((op j hj).mp c)
  have r:(p.r j).fM=false:=dY.mpr λr=>q ⟨j,hj,r,rfl⟩;delta bits GL KL;exact eW (if_neg c)<|eW (if_neg c)<|eW ((hs j hj).a r)<|eW ((hs j hj).b r)<|⟨Bo,Bo⟩
 refine⟨L,λi hi=>⟨λho=>?_,λho=>⟨(hL i hi).1,λt=>((hL i hi).2 t).trans ⟨λq=>Bq h (λj hj q t=>⟨(cl j hj q t).1.mp,(cl j hj q t).2.mpr⟩) q ho,λq=>Bq h (λj hj q t=>⟨(cl j hj q t).1.mpr,(cl j hj q t).2.mp⟩) q ho⟩⟩⟩,
  cK (k:=k+14) rfl<|bt rfl rfl<|ao (aZ (Bd h (g:=λi=>tJ (sa i) (sb i)) λi hi=>(hs i hi).ev (k+4) wl) rfl)<|ao (aZ (aG (ah rfl aE) eF) rfl)<|ao (aZ (comp_map (own:=false) nI (ae p.n) (aX:=[2,0]) (cs:=[.ro (nL F),.ro p.fv]) (oK h (k:=k+13) (s:=0) rfl) (cL hn) rfl (λi=>FV.bool (decide (p.B (p.P i)∈F))) (λi hi=>y7 (fm (c:=490) rfl (ah rfl aE) rfl rfl (lE h (k:=k+13) (aC.mp hi) hN')) rfl (ny _ F)) (ak (bh aq) (ak hn (by decide)))) rfl)<|ao rfl<|ao rfl<|br<|bY<|aG (ah rfl (ah (Aw h) (ah rfl (ah rfl aE)))) e⟩
 refine cx λt=>?_;refine eW (lV ..) ?_;by_cases q:t<64
 . refine eW (decide_eq_true q) ?_
   refine((hL i hi).2 t).mpr (.ask hi ?_);delta bits GL;exact eW (if_pos ((op i hi).mpr ho))<|eW (lV ..)<|eW (decide_eq_true q) rfl
 . rw[jZ (az (hL i hi).1 (kV (by decide) (bu q))),decide_eq_false q]
def sT(p:Prog)(L:Nat->Nat)(i:Nat):Bool:=(p.r i).xW&&bF (p.r i).gu&&&rr L (p.succ i)==0
def n4(p:Prog)(L:Nat->Nat)(i:Nat):List Nat:=(ae i).filter (sT p L)
omit h in
theorem HT:n4 p L (i+1)=n4 p L i++if sT p L i=true then[i]else[]:=by
 delta n4;exact eW dK<|eW (r_ ..)<|eW List.filter_cons<|eW List.filter_nil rfl
omit h in
theorem Lv:(n4 p L i).length<=i:=ak (dG _ _) (bh aq)
def IV(p:Prog)(L:Nat->Nat)(F:List Nat)(y z u v:Slot):List Slot:=[.val p.fv,.val (.list (Bp p L)),.own (.ob (.list (F.map nI))),y,z,u,v]
theorem Pp{F:List Nat}{s:Slot}(hi:i<p.n)(hs:Y s)
 (kk:∀z,Y z->ex (au N (k+15)) N (.for [6] (.call (.bc (.obj 508)) (.cons (.var 0) (.cons (.var 3) .nil))) (.cons (.assign 5 (.bin .BitOr (.var 5) (.idx (.var 1) (.var 6)))) .nil)) (IV p L F (.val (nI i)) (.val (p.o i)) (.val (nI 0)) s,wl)=some (.next,IV p L F (.val (nI i)) (.val (p.o i)) (.val (nI (rr L (p.succ i)))) z,wl)->P):P:=
 tQ (C:=au N (k+15)) (N:=N) (wl:=wl) (fr:=IV p L F (.val (nI i)) (.val (p.o i)) (.val (nI 0)) s) (λ(a:Nat) y=>IV p L F (.val (nI i)) (.val (p.o i)) (.val (nI a)) y) (λ_=>wl) (λn a=>a=rr L ((p.succ i).take n)) 0 (j:=6) (y0:=s) (it:=.call (.bc (.obj 508)) (.cons (.var 0) (.cons (.var 3) .nil))) (b:=.cons (.assign 5 (.bin .BitOr (.var 5) (.idx (.var 1) (.var 6)))) .nil) (l:=p.succ i) (g:=nI)
  (aG (ah rfl (ah rfl aE)) (sZ h (k:=k+2) hi)) (d_ (AJ h i)) rfl hs rfl (λ_ _=>rfl) (λ_ _ _=>rfl) (λn j a hj ha=>
    have D1:=(h.j6 hi (aF hj)).1
    .next (a|||L j) (.val (nI j)) (ao (aZ (dh rfl (de (x:=.fv (.list (Bp p L))) rfl rfl (fx (eD D1) (RO D1 h.i4 rfl))) (Ab a (L j))) rfl) aY) (.va _) (by exact eW ha<|eW t8<|eW hj<|eW (ra ..)<|eW Be rfl))
  λa z hz ha e=>kk z hz ((congrArg (rr L) n7).symm.trans ha.symm▸e)
def DI(n:Nat)(a:Nat×Slot×Slot):Prop:=a.1=n/\Y a.2.1/\Y a.2.2
theorem Lu(hi:i<p.n){a:Nat×Slot×Slot}:DI i a->L9 (hX (au N (k+15)) N (mO (bodyOf lB)) (IV p L (n4 p L a.1) (.val (nI i)) (.val (p.o i)) a.2.1 a.2.2,wl)) (λ(a:Nat×Slot×Slot) y z=>IV p L (n4 p L a.1) y z a.2.1 a.2.2) (λ_=>wl) (DI (i+1)):=
 Sl a λi' s5 s6 g=>jP g λ(f1:i'=i) h5 h6=>by
  clear g;subst f1
  have fl:=Lv (p:=p) (L:=L) (i:=i')
  have ds:=HT (p:=p) (L:=L) (i:=i');refine bS (h.ord i' hi).cls λs hs ms=>?_
  have t:eK (au N (k+15)) (.cmp .NotIn (.call (.bc (.obj 151)) (.cons (.var 4) .nil)) (.tup (.cons (.lit (.str (aa "alu"))) (.cons (.lit (.str (aa "alu64"))) .nil)))) (IV p L (n4 p L i') (.val (nI i')) (.val (p.o i')) s5 s6) wl=some (!(p.r i').xW,wl):=fJ (aG (ah rfl aE) (hs (k+5) wl)) rfl (by
   show(ry s [.str (aa "alu"),.str (aa "alu64")]).map (!·)=_;exact eW ms rfl)
  induction al:(p.r i').xW using ax with
  |false=>
   rw[al]at t
   have d0:sT p L i'=false:=(congrArg (·&&_) al).trans (h_ _);rw[d0,if_neg ay,cC]at ds;exact .mk .cont (i'+1,s5,s6) (.val (nI i')) (.val (p.o i')) (Un (cz t (ds▸rfl))) (.va _) (.va _) Od ⟨rfl,h5,h6⟩
  |true=>
   rw[al]at t;refine Pp h (k:=k) (wl:=wl) (L:=L) (F:=n4 p L i') hi h6 λz hz eo=>?_
   have d1:sT p L i'=(bF (p.r i').gu&&&rr L (p.succ i')==0):=(congrArg (·&&_) al).trans (gQ _)
   have t2:eK (au N (k+15)) (.cmp .Eq (.bin .BitAnd (.idx (.call (.bc (.obj 597)) (.cons (.var 4) .nil)) (.lit (.int 1))) (.var 5)) (.lit (.int 0))) (IV p L (n4 p L i') (.val (nI i')) (.val (p.o i')) (.val (nI (rr L (p.succ i')))) z) wl=some (sT p L i',wl):=
    d1▸gI (x:=(bF (p.r i').gu&&&rr L (p.succ i'):Nat)) (y:=0) (by rw[cR,beq_iff_eq,beq_iff_eq];lia) (dh (x:=.fv (nI (bF (p.r i').gu))) (de (aG (ah rfl aE) ((h.ord i' hi).Vx (k+5) wl)) rfl rfl) rfl (congrArg (λz=>some (EV.fv (.int z))) (wU _ _))) rfl
   have i4:=h.i4;induction q:sT p L i' using ax with
   |true=>
    rw[q,if_pos rfl]at ds;refine .mk .next (i'+1,.val (nI (rr L (p.succ i'))),z) (.val (nI i')) (.val (p.o i')) (ao (kU t)<|ao (aZ rfl (jD rfl h5))<|ao eo<|ao (cz (q▸t2) (ao (i_ (xs:=(n4 p L i').map nI) (d:=nI i') rfl rfl (decide_eq_true (by refine eW (aj ..) ?_;lia))) aY)) ?_) (.va _) (.va _) fw ⟨rfl,.va _,hz⟩
    show _=some (Fl.next,IV p L (n4 p L (i'+1)) _ _ _ _,wl);refine eW ds ?_;delta IV;exact eW bf rfl
   |false=>
    rw[q,if_neg ay,cC]at ds;exact .mk .next (i'+1,.val (nI (rr L (p.succ i'))),z) (.val (nI i')) (.val (p.o i')) (ao (kU t)<|ao (aZ rfl (jD rfl h5))<|ao eo<|ao (kU (q▸t2)) (ds▸rfl)) (.va _) (.va _) fw ⟨rfl,.va _,hz⟩
theorem H7(hN:2^80<=N):∃L:Nat->Nat,(∀i,i<p.n->L i<2^64/\∀t,(L i).testBit t=true↔kX p.n p.succ (ins (PT p)) (ins (layR p)) i t)/\au N (k+16) (.obj 656) [.fv p.fv] wl=some (nL ((ae p.n).filter λi=>(p.r i).xW&&bF (p.r i).gu&&&rr L (p.succ i)==0),wl):=
 bS (yS h (k:=k) (wl:=wl) hN) λL hL eL=>
 QU (C:=au N (k+15)) (N:=N) (wl:=wl) (fr:=IV p L [] .unset .unset .unset .unset) (λ(a:Nat×Slot×Slot) y z=>IV p L (n4 p L a.1) y z a.2.1 a.2.2) (λ_=>wl) DI (0,.unset,.unset) (i0:=3) (j:=4) (y0:=.unset) (z0:=.unset) (it:=.attr (.var 0) 0) (b:=mO (bodyOf lB)) (n:=p.n) (f:=p.o)
  rfl (ll h.i4 rfl) rfl .un .un ⟨rfl,.un,.un⟩ (λ_ _ _=>rfl) (λ_ _ _ _=>rfl) (λ_ _ _=>rfl) (λ_ _ _ _=>rfl) (λi a hi g=>Lu h hi g) λa y z=>Sl a λi' s5 s6 g e=>by
  have f1:i'=p.n:=g.1;subst f1;exact⟨L,hL,cK (k:=k+15) rfl<|bt rfl rfl<|ao (gk (xs:=[.fv (.list ((ae p.n).map λi=>nI (L i))),.own (.ob (.list []))]) (ah (aG (ah rfl aE) eL) (ah rfl aE)) rfl)<|ao e<|ao rfl<|br (bY rfl)⟩
end
def aD(R:Nat->List Row):Nat->Nat:=sumTo λj=>(R j).length
noncomputable def gG(B:Nat->Nat):Nat->Nat->Nat
 |0,_=>0
 |m+1,i=>if B m<=i then m else gG B m i
theorem pI{B:Nat->Nat}(h0:B 0=0):∀m i,i<B m->gG B m i<m/\B (gG B m i)<=i/\i<B (gG B m i+1)
 |0,i,h=>by rw[h0]at h;exact absurd h (dz _)
 |m+1,i,h=>by
  show(if B m<=i then m else gG B m i)<_/\B (if B m<=i then m else gG B m i)<=i/\i<B ((if B m<=i then m else gG B m i)+1);by_cases q:B m<=i
  . exact eW (if_pos q)<|⟨bg _,q,h⟩
  . refine eW (if_neg q) ?_
    (refine jP (pI h0 m i (by lia)) λa b c=>?_)
    exact⟨dm a,b,c⟩
noncomputable def nR(R:List Row):Nat:=R.findIdx λr=>r.w==4
theorem tX:∀(R:List Row),R.countP (λr=>r.w==4)<=1->∀a r,R[a]?=some r->r.w=4->a=nR R
 |[],_,a,r,h,_=>by simp at h
 |x::R,hc,a,r,h,hw=>by
  delta nR;refine eW List.findIdx_cons ?_;rw[MX]at hc;induction q:(x.w==4)using ax with
  |true=>
   rw[q,if_pos rfl]at hc;induction a using Iw with
   |zero=>rfl
   |succ a=>
    have:0<R.countP (λr=>r.w==4):=rf.mpr ⟨r,aF h,by exact eW hw rfl⟩;lia
  |false=>
   rw[q]at hc;induction a using Iw with
   |zero=>rw[ag h,hw]at q;exact absurd q (by decide)
   |succ a=>
    have:=tX R (by simpa using hc) a r h hw
    show a+1=nR R+1;exact eL this rfl
def hU(R:List Row)(a:Nat):Nat:=if(rowAt R a).w=4 then R.length else(rowAt R a).jX%R.length
def progOf(m:Nat)(R:Nat->List Row):Prog where
 n:=aD R m
 m:=m
 B:=aD R
 P:=gG (aD R) m
 r:=λi=>rowAt (R (gG (aD R) m i)) (i-aD R (gG (aD R) m i))
 T:=λi=>aD R (gG (aD R) m i)+hU (R (gG (aD R) m i)) (i-aD R (gG (aD R) m i))
 o:=λi=>(rowAt (R (gG (aD R) m i)) (i-aD R (gG (aD R) m i))).md ((hU (R (gG (aD R) m i)) (i-aD R (gG (aD R) m i)):Int)-((i-aD R (gG (aD R) m i):Nat):Int)-1)
 C:=λj=>aD R j+nR (R j)
section
variable {m:Nat}{R:Nat->List Row}{lo:Nat->Bool}(hm:1<=m/\m<=3)(hR:∀j,j<m->mv N (R j) (lo j) (decide (j+1<m)))
include hm hR
theorem len_pos(hj:j<m):0<(R j).length:=by
 obtain⟨L,e,-⟩:=(hR j hj).last;refine eW e<|eW aI ?_;simp
theorem tY:∀{i j:Nat},i<j->j<=m->aD R i<aD R j:=λ{i j} D2 hj=>by
 induction j with
 |zero=>exact absurd D2 (dz _)
 |succ j ih=>
  have h1:=len_pos hm hR (j:=j) hj
  have h2:aD R (j+1)=aD R j+(R j).length:=rfl;rcases cw.mp D2 with q|q
  . exact az (ih q (bV hj)) (aP _ _)
  . exact eW q<|eN h1
theorem mT(D2:i<=j)(hj:j<=m):aD R i<=aD R j:=by
 rcases jz D2 with q|q
 . exact bV (tY hm hR q hj)
 . exact eW q<|aT _
theorem Fh(hj:j<m)(h1:aD R j<=i)(h2:i<aD R j+(R j).length):gG (aD R) m i=j:=by
 have e2:aD R (j+1)=aD R j+(R j).length:=rfl
 have:=mT hm hR (show j+1<=m from hj) (aT _)
 (refine jP (pI (B:=aD R) rfl m i (az h2 this)) λa b c=>?_)
 rcases g8 (gG (aD R) m i) j with q|q|q
 . exact absurd (az c (ak (mT hm hR (show gG (aD R) m i+1<=j from q) (bV hj)) h1)) (b8 _)
 . exact q
 . exact absurd (az h2 (ak (mT hm hR (show j+1<=gG (aD R) m i from q) (bV a)) b)) (b8 _)
theorem dw(hj:j<m)(ha:a<(R j).length):(progOf m R).P (aD R j+a)=j/\(progOf m R).r (aD R j+a)=rowAt (R j) a/\(progOf m R).T (aD R j+a)=aD R j+hU (R j) a/\(progOf m R).o (aD R j+a)=(rowAt (R j) a).md ((hU (R j) a:Int)-a-1)/\aD R j+a<(progOf m R).n:=by
 have e:=Fh hm hR hj (i:=aD R j+a) (aP _ _) (eR ha _)
 have e2:aD R (j+1)=aD R j+(R j).length:=rfl
 have:=mT hm hR (show j+1<=m from hj) (aT _);refine⟨e,?_,?_,?_,az (eR ha _) this⟩
 . show rowAt (R (gG (aD R) m _)) _=_
   exact eW e<|eW (cW ..) rfl
 . show aD R (gG (aD R) m _)+_=_
   exact eW e<|eW (cW ..) rfl
 . show(rowAt (R (gG (aD R) m _)) _).md _=_
   exact eW e<|eW (cW ..) rfl
theorem eU(hi:i<(progOf m R).n):∃j a,j<m/\a<(R j).length/\i=aD R j+a:=by
 (refine jP (pI (B:=aD R) rfl m i hi) λa b c=>?_)
 have e2:aD R (gG (aD R) m i+1)=aD R (gG (aD R) m i)+(R (gG (aD R) m i)).length:=rfl;exact⟨gG (aD R) m i,i-aD R (gG (aD R) m i),a,Ar b c,(c6 b).symm⟩
theorem nq(hj:j<m)(ha:a<(R j).length):(rowAt (R j) a).Ok N:=(hR j hj).ok _ (pG ha)
theorem AZ(hj:j<m)(ha:a<(R j).length):(rowAt (R j) a).w=3↔a+1=(R j).length:=by
 (refine bS ((hR j hj).last) λL e hL=>?_)
 have h1:=iA ha;rw[e]at h1 ha⊢;rw[aI]at ha⊢;rw[Gv]at h1;simp only[uY,List.length_nil]at ha⊢;split at h1
 . rename_i q
   have:=hL _ (aF h1);constructor
   . exactλc=>absurd c this
   . exactλc=>absurd q (cV.mpr (bh (kM c).symm))
 . rename_i q
   have h2:rowAt (L++[oQ]) a∈[oQ]:=aF h1;rw[aH]at h2;refine eW h2 ?_;constructor
   . exactλ_=>Ro ha (cB (bu q))
   . exactλ_=>rfl
theorem A6(hj:j<m)(ha:a<(R j).length)(hw:(rowAt (R j) a).w=4):j+1<m/\a=nR (R j):=by
 have hc:=(hR j hj).calls
 have pos:0<(R j).countP (λr=>r.w==4):=rf.mpr ⟨_,pG ha,by exact eW hw rfl⟩;by_cases q:j+1<m
 . rw[decide_eq_true q,if_pos rfl]at hc
   exact⟨q,tX _ (by lia) a _ (iA ha) hw⟩
 . rw[decide_eq_false q,if_neg ay]at hc;lia
theorem rp:(progOf m R).Ok N:=by
 have hB:∀j,aD R (j+1)=aD R j+(R j).length:=λ_=>rfl;refine⟨?_,hm,rfl,rfl,λj hj=>tY hm hR (bg j) hj,λi hi=>pI rfl m i hi,?_,?_,?_,?_,?_,?_,?_⟩
 . have:∀j,j<=m->aD R j<=10*j:=λj=>by
    induction j with
    |zero=>exactλ_=>aT _
    |succ j ih=>
     intro hj
     have:=ih (by lia)
     have:=(hR j (by lia)).len;refine eW (hB ..) ?_;lia
   have:=this m (aT _)
   show aD R m<=30;lia
 . intro i hi
   (refine cM (eU hm hR hi) λj a hj ha q1=>?_;subst q1)
   obtain⟨-,q2,q3,q4,-⟩:=dw hm hR hj ha;rw[q2,q3,q4,show((aD R j+hU (R j) a:Nat):Int)-((aD R j+a:Nat):Int)-1=(hU (R j) a:Int)-a-1 by lia];exact(nq hm hR hj ha).ord _
 . intro i hi
   (refine cM (eU hm hR hi) λj a hj ha q2=>?_;subst q2)
   exact eW ((dw hm hR hj ha).2.1)<|nq hm hR hj ha
 . intro i hi hw
   (refine cM (eU hm hR hi) λj a hj ha q3=>?_;subst q3)
   obtain⟨q1,q2,q3,-,-⟩:=dw hm hR hj ha;rw[q2]at hw
   have hg:hU (R j) a<(R j).length:=by
    delta hU;rw[if_neg (by lia)];exact tC _ (by lia)
   obtain⟨r1,-,-,-,r5⟩:=dw hm hR hj hg;exact eW q3<|eW q1<|⟨r5,r1⟩
 . intro i hi hw
   (refine cM (eU hm hR hi) λj a hj ha q4=>?_;subst q4)
   obtain⟨q1,q2,q3,-,-⟩:=dw hm hR hj ha;rw[q2]at hw
   (refine xA (A6 hm hR hj ha hw) λc1 c2=>?_)
   refine eW q1<|eW q3 ?_;refine⟨c1,?_,?_⟩
   . show _=aD R (j+1)
     rw[hB,hU,if_pos hw]
   . show _=aD R j+nR (R j)
     exact eL c2 rfl
 . intro j hj
   have HJ:j<m:=g9 hj
   have hc:=(hR j HJ).calls;rw[decide_eq_true (show j+1<m from hj),if_pos rfl]at hc
   have pos:0<(R j).countP (λr=>r.w==4):=by lia
   (refine bS (rf.mp pos) λr hr hw=>?_)
   obtain⟨a,ha,e⟩:=Gs.mp hr
   have hw:(rowAt (R j) a).w=4:=by
    have:rowAt (R j) a=r:=ag ((iA ha).symm.trans (by exact eW (aV ha)<|eW e rfl));exact eW this<|beq_iff_eq.mp hw
   have c2:=(A6 hm hR HJ ha hw).2;obtain⟨-,q2,-,-,-⟩:=dw hm hR HJ ha
   show aD R j<=aD R j+nR (R j)/\aD R j+nR (R j)<aD R (j+1)/\((progOf m R).r (aD R j+nR (R j))).w=4;exact eL c2<|eW q2<|eW (hB ..)<|⟨aP _ _,by lia,hw⟩
 . intro i hi
   (refine cM (eU hm hR hi) λj a hj ha q5=>?_;subst q5)
   obtain⟨q1,q2,-,-,-⟩:=dw hm hR hj ha;refine eW q1<|eW q2 ?_
   show _↔_=aD R (j+1);refine eW (hB ..)<|iW (AZ hm hR hj ha) ?_;lia
 . intro i hi hw
   (refine cM (eU hm hR (g9 hi)) λj a hj ha q6=>?_;subst q6)
   rw[(dw hm hR hj ha).2.1]at hw
   (refine iR ((hR j hj).reach a _ (iA ha) hw) λb r' e w1 am hb=>?_)
   have BN:b<(R j).length:=by lia
   have er:rowAt (R j) b=r':=ag ((iA BN).symm.trans e);obtain⟨-,q2,q3,-,-⟩:=dw hm hR hj BN;refine⟨aD R j+b,by lia,by refine eW q2<|eW er ?_;exact w1,?_⟩;rw[q3,hU,er,if_neg (by lia),am];rfl
theorem nj{x:Nat}(hj:j<m)(ha:a<(R j).length):x∈(progOf m R).succ (aD R j+a)↔∃b∈l7 (rowAt (R j) a).w a ((rowAt (R j) a).jX%(R j).length),x=aD R j+b:=by
 obtain⟨-,q2,q3,-,-⟩:=dw hm hR hj ha
 have w4:=(nq hm hR hj ha).w;delta Prog.succ l7;refine eW q2<|eW q3 ?_
 have hg:(rowAt (R j) a).w≠4->hU (R j) a=(rowAt (R j) a).jX%(R j).length:=λc=>by delta hU;exact eW (if_neg c) rfl
 by_cases h3:(rowAt (R j) a).w=3
 . refine eW (if_pos h3)<|eW (if_pos h3) ?_;simp
 . refine eW (if_neg h3)<|eW (if_neg h3) ?_
   by_cases h2:(rowAt (R j) a).w=2
   . rw[if_pos h2,if_pos h2,hg (by lia)];simp
   . refine eW (if_neg h2)<|eW (if_neg h2) ?_
     by_cases h1:(rowAt (R j) a).w=1
     . rw[if_pos h1,hg (by lia)]
       split
       . simp[fc]
       . rename_i q
         have:aD R j+(rowAt (R j) a).jX%(R j).length=aD R j+a+1:=fg λc=>q ⟨h1,c⟩;simp only[aH,a6,a8,or_false,exists_eq_or_imp,exists_eq_left];lia
     . rw[if_neg h1,if_neg (λc=>h1 c.1)];simp[fc]
theorem vQ{f g:Row->List Nat}(hj:j<m)(ha:a<(R j).length):
 kX (progOf m R).n (progOf m R).succ (ins λi=>f ((progOf m R).r i)) (ins λi=>g ((progOf m R).r i)) (aD R j+a) t↔kX (R j).length (λa=>l7 (rowAt (R j) a).w a ((rowAt (R j) a).jX%(R j).length)) (ins λa=>f (rowAt (R j) a)) (ins λa=>g (rowAt (R j) a)) a t:=by
 constructor
 . intro q
   refine q.least (F:=λi t=>∀b,b<(R j).length->i=aD R j+b->kX (R j).length _ _ _ b t) (λi t hi hq b hb e=>.ask hb ?_) (λi x t hi hx ih hl b hb e=>?_) a ha rfl
   . subst e
     show t∈f (rowAt (R j) b);exact eL ((dw hm hR hj hb).2.1)<|hq
   . subst e
     (refine bS ((nj hm hR hj hb).mp hx) λc hc q7=>?_;subst q7)
     have qW:c<(R j).length:=by
      have:=(rp hm hR).j6 hi hx
      have e1:=(dw hm hR hj hb).1;rw[e1]at this
      (refine cM (eU hm hR this.1) λj' c' HJ QL e2=>?_)
      have e3:=(dw hm hR HJ QL).1;rw[<-e2,this.2]at e3;subst e3;lia
     refine .back hb hc (ih c qW rfl) λc=>hl ?_
     show t∈g ((progOf m R).r (aD R j+b));exact eW ((dw hm hR hj hb).2.1)<|c
 . intro q
   refine(q.least (F:=λa t=>a<(R j).length/\kX _ _ _ _ (aD R j+a) t) (λa t ha hq=>⟨ha,.ask (dw hm hR hj ha).2.2.2.2 ?_⟩) (λa b t ha hb ih hl=>⟨ha,.back (dw hm hR hj ha).2.2.2.2 ((nj hm hR hj ha).mpr ⟨b,hb,rfl⟩) ih.2 λc=>hl ?_⟩)).2
   . show t∈f ((progOf m R).r (aD R j+a))
     exact eW ((dw hm hR hj ha).2.1)<|hq
   . show t∈g (rowAt (R j) a)
     exact eL ((dw hm hR hj ha).2.1)<|c
end
theorem Pb{D:Type}(G:D->List Slot)(W:D->WL)(I:Nat->D->Prop)(a0:D){b:IB}(h:ev C it fr wl=some (x,W a0))(hi:items x=some vs)(h0:fr=G a0)(i0:I 0 a0)
 (step:∀i v a,vs[i]?=some v->I i a->∃f9,c7 (G a) is v=some f9/\∃fl a',hX C N b (f9,W a)=some (fl,G a',W a')/\(∀d,fl≠.ret d)/\I (i+1) a'):
 ∃a,I vs.length a/\ex C N (.for is it b) (fr,wl)=some (.next,G a,W a):=by
 (refine IZ (FN (F:=λ(a:St) v=>(c7 a.1 is v).bind λfr=>hX C N b (fr,a.2)) (λi s=>∃a,I i a/\s=(G a,W a)) vs 0 (fr,W a0) ⟨a0,i0,by exact eW h0 rfl⟩ (λi v s hv ⟨a,hI,hs⟩=>by
   rw[dZ]at hI⊢;refine cps λGz kz=>?_;obtain⟨f9,hb,fl,a',e,hf,QP⟩:=step i v a hv hI;refine kz ?_;refine⟨fl,_,?_,hf,a',QP,rfl⟩;refine eW hs ?_
   show(c7 (G a) is v).bind _=_;exact eW hb<|e)) λs e a hI hs=>?_)
 rw[dZ]at hI;exact⟨a,hI,Gm h hi (by exact eW e<|eW hs rfl)⟩
def su(R:List Row)(a:Nat):List Nat:=l7 (rowAt R a).w a ((rowAt R a).jX%R.length)
abbrev xm(f g:Row->List Nat)(R:List Row):Nat->Nat->Prop:=kX R.length (su R) (ins λa=>f (rowAt R a)) (ins λa=>g (rowAt R a))
open Classical in
def jH(f g:Row->List Nat)(R:List Row)(a:Nat):Nat:=bF ((ae 64).filter λt=>decide (xm f g R a t))
open Classical in
theorem mL{f g:Row->List Nat}{R:List Row}:(jH f g R a).testBit t=true↔t<64/\xm f g R a t:=by
 delta jH;rw[gx,decide_eq_true_iff,eO,aC,decide_eq_true_iff]
theorem Br{f g:Row->List Nat}{R:List Row}{F:List Nat}(h1:∀t∈F,t<64)(h2:∀t,t∈F↔xm f g R a t):bF F=jH f g R a:=(vK λt=>by exact iW mL<|iL (h2 ..)<|⟨λc=>c.2,λc=>⟨h1 t c,c⟩⟩).symm
noncomputable abbrev aR:Row->List Nat:=λr=>r.asks
noncomputable abbrev lR:Row->List Nat:=λr=>r.gu
abbrev aS:Row->List Nat:=λr=>r.rs.map dH
abbrev lS:Row->List Nat:=λr=>whole (r.ws.map dH)
def B4(R:List Row)(a:Nat):Bool:=(rowAt R a).xW&&bF (rowAt R a).gu&&&rr (jH aR lR R) (su R a)==0
section
variable (m:Nat)(R:Nat->List Row)(lo:Nat->Bool)
def RG(i:Nat):Nat:=jH aR lR (R (gG (aD R) m i)) (i-aD R (gG (aD R) m i))
def SG(i:Nat):Nat:=if lo (gG (aD R) m i)then 2^64-1 else jH aS lS (R (gG (aD R) m i)) (i-aD R (gG (aD R) m i))
def DG(i:Nat):Bool:=B4 (R (gG (aD R) m i)) (i-aD R (gG (aD R) m i))
end
section
variable {m:Nat}{R:Nat->List Row}{lo:Nat->Bool}(hm:1<=m/\m<=3)(hR:∀j,j<m->mv N (R j) (lo j) (decide (j+1<m)))
include hm hR
theorem tZ(hj:j<m)(ha:a<(R j).length):RG m R (aD R j+a)=jH aR lR (R j) a/\SG m R lo (aD R j+a)=(if lo j then 2^64-1 else jH aS lS (R j) a)/\DG m R (aD R j+a)=B4 (R j) a:=by
 have e:=Fh hm hR hj (i:=aD R j+a) (aP _ _) (eR ha _);delta RG SG DG;exact eW e<|eW (cW ..)<|⟨rfl,rfl,rfl⟩
theorem zu(hj:j<m)(ha:a<(R j).length)(hb:b∈su (R j) a):b<(R j).length:=by
 have hl:(rowAt (R j) a).jX%(R j).length<(R j).length:=tC _ (aQ (aU _) ha);delta su l7 at hb;split at hb
 . exact absurd hb a8
 . rename_i h3
   have:a+1≠(R j).length:=λc=>h3 ((AZ hm hR hj ha).mpr c);split at hb
   . rw[aH]at hb;exact hb▸hl
   . split at hb
     . rcases a6.mp hb with q|q
       . exact q▸gL ha this
       . rw[aH]at q;exact q▸hl
     . rw[aH]at hb;exact hb▸gL ha this
theorem N':(su (R j) a).length<=2:=by
 delta su l7;split
 . simp
 . split
   . simp
   . split<;>simp
theorem PO(hj:j<m)(ha:a<(R j).length)(ht:xm aR lR (R j) a t):t<64:=
 ht.least (F:=λa t=>t<64) (λi t hi q=>dk ((nq hm hR hj hi).asks.2 t q) (by decide)) (λ_ _ _ _ _ q _=>q)
theorem zk(h:∀i,i<(progOf m R).n->L i<2^64/\∀t,(L i).testBit t=true↔kX (progOf m R).n (progOf m R).succ (ins (PT (progOf m R))) (ins (layR (progOf m R))) i t)(hi:i<(progOf m R).n):L i=RG m R i:=by
 (refine cM (eU hm hR hi) λj a hj ha q3=>?_;subst q3)
 refine eW ((tZ hm hR hj ha).1) ?_;refine cx λt=>?_;exact iW cR<|iW ((h _ hi).2 ..)<|iW mL<|(vQ hm hR (f:=aR) (g:=lR) hj ha).trans ⟨λc=>⟨PO hm hR hj ha c,c⟩,λc=>c.2⟩
theorem AR(h:∀i,i<(progOf m R).n->((progOf m R).opened i->L i=2^64-1)/\(¬(progOf m R).opened i->L i<2^64/\∀t,(L i).testBit t=true↔kX (progOf m R).n (progOf m R).succ (ins (PQ (progOf m R))) (ins (Oz (progOf m R))) i t))(hi:i<(progOf m R).n):L i=SG m R lo i:=by
 (refine cM (eU hm hR hi) λj a hj ha q4=>?_;subst q4)
 refine eW ((tZ hm hR hj ha).2.1) ?_
 have ho:(progOf m R).opened (aD R j+a)↔lo j=true:=by
  refine eL ((hR j hj).fM)<|iW iz ?_;constructor
  . rintro ⟨x,hx,lk,hp⟩
    (refine cM (eU hm hR hx) λj' b HJ hb q5=>?_;subst q5)
    obtain⟨q1,q2,-⟩:=dw hm hR HJ hb;rw[q1,(dw hm hR hj ha).1]at hp;subst hp;exact⟨_,pG hb,by exact eL q2<|lk⟩
  . rintro ⟨r,hr,lk⟩
    refine cps λGz kz=>?_;obtain⟨b,hb,e⟩:=Gs.mp hr
    have er:rowAt (R j) b=r:=ag ((iA hb).symm.trans (by exact eW (aV hb)<|eW e rfl));obtain⟨q1,q2,-,-,q5⟩:=dw hm hR hj hb;exact kz<|⟨_,q5,by exact eW q2<|eW er<|lk,by exact eW q1<|eW ((dw hm hR hj ha).1) rfl⟩
 by_cases q:lo j=true
 . exact eW (if_pos q)<|(h _ hi).1 (ho.mpr q)
 . refine eW (if_neg q) ?_
   (refine xA ((h _ hi).2 λc=>q (ho.mp c)) λh1 h2=>?_)
   refine cx λt=>?_;refine iW cR<|iW (h2 ..)<|iW mL ?_;refine(vQ hm hR (f:=aS) (g:=lS) hj ha).trans ⟨λc=>⟨?_,c⟩,λc=>c.2⟩;exact c.least (F:=λa t=>t<64) (λi t hi q=>by
    (refine bS (bO.mp q) λo ho q6=>?_;subst q6)
    exact zf ((nq hm hR hj hi).rs.2 o ho)) (λ_ _ _ _ _ q _=>q)
theorem Pr(h:∀i,i<(progOf m R).n->L i=RG m R i)(hi:i<(progOf m R).n):(((progOf m R).r i).xW&&bF ((progOf m R).r i).gu&&&rr L ((progOf m R).succ i)==0)=DG m R i:=by
 (refine cM (eU hm hR hi) λj a hj ha q7=>?_;subst q7)
 refine eW ((tZ hm hR hj ha).2.2)<|eW ((dw hm hR hj ha).2.1) ?_;delta B4
 have:rr L ((progOf m R).succ (aD R j+a))=rr (jH aR lR (R j)) (su (R j) a):=cx λt=>by
  refine iW cR<|iW (l9 ..)<|iW (l9 ..) ?_;constructor
  . rintro ⟨x,hx,e⟩
    (refine bS ((nj hm hR hj ha).mp hx) λb hb q8=>?_;subst q8)
    have BN:=zu hm hR hj ha hb;rw[h _ (dw hm hR hj BN).2.2.2.2,(tZ hm hR hj BN).1]at e;exact⟨b,hb,e⟩
  . rintro ⟨b,hb,e⟩
    have BN:=zu hm hR hj ha hb;refine⟨aD R j+b,(nj hm hR hj ha).mpr ⟨b,hb,rfl⟩,?_⟩;exact eW (h _ (dw hm hR hj BN).2.2.2.2)<|eW ((tZ hm hR hj BN).1)<|e
 exact eW this rfl
end
abbrev rq(R:List Row)(lo:Bool):FV:=.tup [.list (dQ R),.bool lo]
structure PtI(N m c:Nat)(i:Nat)(R:Nat->List Row)(lo:Nat->Bool)(a:List Slot×List FV×WL):Prop where
 e1:∃y0,Y y0/\a.1=[y0,.ro (nI m),.ro .well]
 e2:a.2.1=(ae i).map λj=>rq (R j) (lo j)
 ok:∀j,j<i->mv N (R j) (lo j) (decide (j+1<m))
 w:W (c+100*i) a.2.2
theorem Hc{m:Nat}(hj:j<m)(hm:m<=3)(hc:c<=600000){R:Nat->List Row}{lo:Nat->Bool}{a:List Slot×List FV×WL}:PtI N m c j R lo a->∃a',((c7 a.1 [0] (nI j)).bind λf9=>(fI (au N (k+5)) .nil f9 a.2.2).bind λt=>if t.1 then HQ (au N (k+5)) (.emit (.call (.bc (.obj 720)) (.cons (.var 2) (.cons (.cmp .Lt (.var 0) (.bin .Sub (.var 1) (.lit (.int 1)))) .nil)))) f9 a.2.1 t.2 else some (f9,a.2.1,t.2))=some a'/\∃R lo,PtI N m c (j+1) R lo a':=
 Sl a λfr0 aaJ w0 g=>bS g.e1 λy0 h0 e1=>by
  have hW:=g.w
  have e2:=g.e2
  have hR:=g.ok;change fr0=_ at e1;change W _ w0 at hW;change aaJ=_ at e2;subst e1 e2;clear g;refine jO (HZ (N:=N) (k:=k) (hJ:=decide (j+1<m)) hW (by lia)) λRj V0 w' ok Ux ec=>?_
  have e5:ev (au N (k+5)) (.call (.bc (.obj 720)) (.cons (.var 2) (.cons (.cmp .Lt (.var 0) (.bin .Sub (.var 1) (.lit (.int 1)))) .nil))) [.val (nI j),.ro (nI m),.ro .well] w0=some (.fv (rq Rj V0),w'):=
   aG (ah rfl (ah (y7 (x:=.fv (nI j)) (y:=.fv (.int ((m:Int)-1))) rfl rfl (congrArg some (decide_eq_decide.mpr (show(j:Int)<(m:Int)-1↔j+1<m from⟨λh=>dn.mp (Int.add_lt_of_lt_sub_right h),λh=>Int.lt_sub_right_of_add_lt (dn.mpr h)⟩)))) aE)) ec
  have e6:((ae j).map λj=>rq (R j) (lo j))=(ae j).map λi=>rq (upd R j Rj i) (upd lo j V0 i):=dB λi hi=>by
   have n:=bx (aC.mp hi);exact eW (gh n)<|eW (gh n) rfl
  refine⟨([.val (nI j),.ro (nI m),.ro .well],((ae j).map λj=>rq (R j) (lo j))++[rq Rj V0],w'),bs (jD (fr:=[y0,.ro (nI m),.ro .well]) (i:=0) rfl h0) (bs yL ((if_pos rfl).trans (wz.trans (bs e5 rfl)))),upd R j Rj,upd lo j V0,⟨_,.va _,rfl⟩,?_,λi hi=>?_,Ux.le (by lia)⟩
  . refine eW dK<|eW bf<|eL e6 ?_
    show _=_++[rq (upd R j Rj j) (upd lo j V0 j)];exact eW d9<|eW d9 rfl
  . exact(cw.mp hi).elim (λq=>by exact eW (gh (bx q))<|eW (gh (bx q))<|hR i q) λq=>by exact eW q<|eW d9<|eW d9<|ok
theorem Ee{m:Nat}(hm:m<=3)(hW:W c wl)(hc:c<=600000)(h1:ev (au N (k+5)) (.bj .range false (.cons (.var 2) .nil)) fr wl=some (.fv (.range 0 m 1),wl))(h3:fW fr [2,1]=some [.ro (nI m),.ro .well]):
 ∃(R:Nat->List Row)(lo:Nat->Bool)(w':WL),(∀j,j<m->mv N (R j) (lo j) (decide (j+1<m)))/\W (c+100*m) w'/\
  ev (au N (k+5)) (.comp false 1 [2,1] (.bj .range false (.cons (.var 2) .nil)) [0] .nil (.emit (.call (.bc (.obj 720)) (.cons (.var 2) (.cons (.cmp .Lt (.var 0) (.bin .Sub (.var 1) (.lit (.int 1)))) .nil))))) fr wl=some (.fv (.list ((ae m).map λj=>rq (R j) (lo j))),w'):=
 bS (yv (F:=λ(a:List Slot×List FV×WL) v=>(c7 a.1 [0] v).bind λf9=>(fI (au N (k+5)) .nil f9 a.2.2).bind λt=>if t.1 then HQ (au N (k+5)) (.emit (.call (.bc (.obj 720)) (.cons (.var 2) (.cons (.cmp .Lt (.var 0) (.bin .Sub (.var 1) (.lit (.int 1)))) .nil)))) f9 a.2.1 t.2 else some (f9,a.2.1,t.2))
  (λi a=>∃R lo,PtI N m c i R lo a) ((ae m).map nI) 0 (bD 1 .unset++[.ro (nI m),.ro .well],[],wl) ⟨λ_=>[],λ_=>false,⟨_,.un,rfl⟩,rfl,λj hj=>absurd hj (dz _),hW⟩ (λj v a hj g=>xA (JE hj) λhjm e=>by
    rw[dZ]at g⊢;exact e▸u7 g λR lo g=>Hc (k:=k) hjm hm hc g)) λa ea g=>by
  rw[aj,aq,dZ]at g;exact u7 g λR lo g=>⟨R,lo,a.2.2,g.ok,g.w,zZ.trans (bs h1 (bs (cL (ll hm rfl)) (bs h3 (bs ea ((if_pos (decide_eq_true (by exact eW g.e2<|eW (aj ..)<|eW aq<|ll hm rfl))).trans (by exact eW g.e2 rfl))))))⟩
section
variable {m:Nat}{R:Nat->List Row}{lo:Nat->Bool}(hm:1<=m/\m<=3)(hR:∀j,j<m->mv N (R j) (lo j) (decide (j+1<m)))
abbrev eY(m:Nat)(R:Nat->List Row)(n:Nat):List FV:=(ae n).map (progOf m R).o
abbrev TB(cy parts:FV)(m:Nat)(R:Nat->List Row)(lo:Nat->Bool)(n b:Nat)(s8 s9 Sb Vs Ur JA E7:Slot):List Slot:=
 [.val cy,.val .well,.val (nI m),.val parts,.own (.ob (.list (eY m R n))),.own (.ob (.list ((ae b).map λi=>nI (RG m R i)))),.own (.ob (.list ((ae b).map λi=>nI (SG m R lo i)))),.own (.ob (.list (((ae n).filter (DG m R)).map nI))),s8,s9,Sb,Vs,Ur,JA,E7,.unset,.unset,.unset]
include hm hR
theorem te(hj:j<m):aD R j+(R j).length<=30:=by
 have h1:=(rp hm hR).i4
 have h2:=mT hm hR (show j+1<=m from hj) (aT _)
 have h3:aD R (j+1)=aD R j+(R j).length:=rfl;exact ak h2 h1
end
theorem Bs{α:Type}(f g:Nat->α)(b n:Nat)(h:∀a,a<n->f (b+a)=g a):(ae b).map f++(ae n).map g=(ae (b+n)).map f:=by
 exact eW y4<|eW bf<|eW bG<|congrArg _ (dB λa ha=>(h a (aC.mp ha)).symm)
theorem HS{R:List Row}{x:Nat}(hx:x<64)(hF:∀b∈su R a,(x∈F b↔xm aR lR R b x)):(bF [x]&&&rr (jH aR lR R) (su R a)==0)=decide ((su R a).filter (λb=>decide (x∈F b))=[]):=by
 rw[cR,beq_iff_eq,decide_eq_true_iff,jM];constructor
 . intro e b hb q
   have h1:(bF [x]&&&rr (jH aR lR R) (su R a)).testBit x=true:=by
    exact eW (gP ..)<|eW (gx ..)<|eW (decide_eq_true (cS x))<|eW (gQ ..)<|iW (l9 ..)<|⟨b,hb,mL.mpr ⟨hx,(hF b hb).mp (of_decide_eq_true q)⟩⟩
   rw[e,iE]at h1;exact ay h1
 . intro e
   refine cx λt=>?_;refine eW (gP ..)<|eW (gx ..)<|eW (iE ..) ?_;by_cases q:t=x
   . subst q
     refine eW (decide_eq_true (cS t))<|eW (gQ ..) ?_;refine dY.mpr λc=>?_
     (refine bS ((l9 _).mp c) λb hb c=>?_)
     exact e b hb (decide_eq_true ((hF b hb).mpr (mL.mp c).2))
   . rw[decide_eq_false (by rw[aH];exact q),h_]
theorem KN:jt (.bor (.ob (.list (xs++[d])))) (.fv (.int (-1))) wl=some (.fv d):=by
 refine KJ.trans ((if_pos (by decide)).trans (ms ?_));unfold Fn;rw[if_neg (by decide),if_pos (by rw[aI];simp;lia),show(-1+((xs++[d]).length:Int)).toNat=xs.length by refine eW aI ?_;simp;lia,hZ (aT _),XI];rfl
theorem BS(f:Nat->Bool)(n:Nat):(ae (n+1)).filter f=(ae n).filter f++if f n then[n]else[]:=by
 refine eW dK<|eW (r_ ..) ?_;induction q:f n using ax<;>simp[q]
section
variable {m:Nat}{R:Nat->List Row}{lo:Nat->Bool}(hm:1<=m/\m<=3)(hR:∀j,j<m->mv N (R j) (lo j) (decide (j+1<m)))
include hm hR
def Qd(cy parts:FV)(m:Nat)(R:Nat->List Row)(lo:Nat->Bool)(j:Nat)(F:Nat->List Nat)(CC:List FV)(dd:List Nat)(x y:Slot):List Slot:=
 [.val cy,.val .well,.val (nI m),.val parts,.own (.ob (.list CC)),.own (.ob (.list ((ae (aD R j)).map λi=>nI (RG m R i)))),.own (.ob (.list ((ae (aD R j)).map λi=>nI (SG m R lo i)))),.own (.ob (.list (dd.map nI))),
   .val (.list (dQ (R j))),.val (.bool (lo j)),.val (nI (aD R j)),.val (fT (R j).length (su (R j))),.val (fT (R j).length F),x,y,.unset,.unset,.unset]
def o6(m:Nat)(R:Nat->List Row)(n:Nat):List Nat:=(ae n).filter (DG m R)
theorem Se(hj:j<m)(ha:a<(R j).length)(h8:ev C (.var s) fr wl=some (.fv (.list (dQ (R j))),wl))(WZ:ev C (.var t) fr wl=some (.fv (nI a),wl)):ev C (.idx (.var s) (.var t)) fr wl=some (.fv (rowAt (R j) a).fv,wl):=
 de h8 WZ (fx (by refine eW fK<|eW (iA ha) ?_;rfl) (RO ha (hR j hj).len rfl))
theorem Pq{x:Nat}{CC:List FV}{dd:List Nat}{y:Slot}(hj:j<m)(ha:a<(R j).length)(hx:(rowAt (R j) a).gu=[x]):
 eK (au N (k+30)) (.cmp .Eq (.comp false 1 [13,12,8] (.idx (.var 11) (.var 13)) [0] (.cons (.cmp .In (.idx (.idx (.idx (.var 3) (.var 1)) (.lit (.int 3))) (.lit (.int 0))) (.idx (.var 2) (.var 0))) .nil) (.emit (.var 0))) (.lst false .nil)) (Qd cy parts m R lo j F CC dd (.val (nI a)) y) wl=some (decide ((su (R j) a).filter (λb=>decide (x∈F b))=[]),wl):=
 have Tq:=(hR j hj).len
 have nl:=N' hm hR (j:=j) (a:=a)
 fJ (gz (own:=false) nI (su (R j) a) (x:=.fv (nL (su (R j) a))) (cs:=[.ro (nI a),.ro (fT (R j).length F),.ro (.list (dQ (R j)))]) (de (x:=.fv (fT (R j).length (su (R j)))) rfl rfl (fx (eD ha) (RO ha Tq rfl))) (d_ (ll nl rfl)) rfl (λb=>decide (x∈F b)) nI (λb hb=>
  have BN:=zu hm hR hj ha hb
  MA (fJ (x:=.fv (nI x)) (de (x:=.fv (nL [x])) (de (x:=.fv (rowAt (R j) a).fv) (Se hm hR (s:=3) (t:=1) hj ha rfl rfl) rfl (by exact eL hx rfl)) rfl rfl) (de (x:=.fv (fT (R j).length F)) rfl rfl (fx (eD BN) (RO BN Tq rfl))) (ny x (F b)))) (λ_ _ _=>rfl) (ll nl rfl)) rfl (by
  exact eW (if_neg ay)<|(Xh (js:=[]) rfl rfl rfl rfl (jW _) rfl).trans (congrArg some (decide_eq_decide.mpr List.map_eq_nil_iff)))
theorem Ls{y:Slot}(hj:j<m)(ha:a<(R j).length)(hF:∀a,a<(R j).length->∀t,t∈F a↔xm aR lR (R j) a t):
 ex (au N (k+30)) N (o5 2 (bR (bR (bodyOf jq)))) (Qd cy parts m R lo j F (eY m R (aD R j+a+1)) (o6 m R (aD R j+a)) (.val (nI a)) y,wl)=some (.next,Qd cy parts m R lo j F (eY m R (aD R j+(a+1))) (o6 m R (aD R j+(a+1))) (.val (nI a)) y,wl):=by
 have UE:=te hm hR hj
 have Qm:=nq hm hR hj ha
 have hD:=(tZ (lo:=lo) hm hR hj ha).2.2
 have fl:(o6 m R (aD R j+a)).length<=30:=ak (dG _ _) (by refine eW aq ?_;lia)
 have fs:eY m R (aD R j+a+1)=eY m R (aD R j+a)++[(rowAt (R j) a).md ((hU (R j) a:Int)-a-1)]:=by
  rw[eY,dK,bf,<-(dw hm hR hj ha).2.2.2.1];rfl
 have UG:o6 m R (aD R j+a+1)=_:=BS (DG m R) (aD R j+a);refine bS (Qm.ord ((hU (R j) a:Int)-a-1)).code λc hc kR=>?_
 have t1:eK (au N (k+30)) (.cmp .In (.bin .BitAnd (.attr (.idx (.var 4) (.un .USub (.lit (.int 1)))) 5) (.lit (.int 7))) (.tup (.cons (.lit (.int 4)) (.cons (.lit (.int 7)) .nil)))) (Qd cy parts m R lo j F (eY m R (aD R j+a+1)) (o6 m R (aD R j+a)) (.val (nI a)) y) wl=some ((rowAt (R j) a).xW,wl):=
  fJ (x:=.fv (.int (dr c 7))) (y:=.fv (.tup [.int 4,.int 7])) (dh (Aj (de (x:=.bor (.ob (.list (eY m R (aD R j+a+1))))) rfl rfl (by exact eW fs<|KN)) hc) rfl rfl) rfl kR
 induction al:(rowAt (R j) a).xW using ax with
 |false=>
  rw[al]at t1;rw[show DG m R (aD R j+a)=false by rw[hD,B4,al];rfl,if_neg ay,cC]at UG;exact(kU (jJ (d7 t1))).trans (by exact eL (fc ..)<|eW UG rfl)
 |true=>
  rw[al]at t1;refine xE (Qm.xW al) λx hx=>?_
  have Tc:x<64:=dk (Qm.gu x (by exact eW hx<|cS x)) (by decide)
  have hD2:DG m R (aD R j+a)=decide ((su (R j) a).filter (λb=>decide (x∈F b))=[]):=by rw[hD,B4,al,gQ,hx,HS (R:=R j) (a:=a) (x:=x) (F:=F) Tc λb hb=>hF b (zu hm hR hj ha hb) x]
  have t2:=Pq (k:=k) (wl:=wl) (lo:=lo) hm hR (cy:=cy) (parts:=parts) (F:=F) (CC:=eY m R (aD R j+a+1)) (dd:=o6 m R (aD R j+a)) (y:=y) hj ha hx;rw[<-hD2]at t2;induction q:DG m R (aD R j+a)using ax with
  |true=>
   rw[q]at t2;rw[q,if_pos rfl]at UG;refine(cz (jJ (dS t1 (dS t2 pA))) (ao (i_ (xs:=(o6 m R (aD R j+a)).map nI) (d:=nI (aD R j+a)) rfl (dh rfl rfl rfl) (decide_eq_true (by refine eW (aj ..) ?_;exact ll fl rfl))) aY)).trans ?_;refine eL (fc ..)<|eW UG ?_;unfold Qd;exact eW bf rfl
  |false=>
   rw[q]at t2;rw[q,if_neg ay,cC]at UG;exact(kU (jJ (dS t1 (d7 t2)))).trans (by exact eL (fc ..)<|eW UG rfl)
theorem HG{JA E7:Slot}(hj:j<m)(WZ:Y JA)(WY:Y E7)(hF:∀a,a<(R j).length->∀t,t∈F a↔xm aR lR (R j) a t):
 ∃M3 M1,Y M3/\Y M1/\ex (au N (k+30)) N (o5 2 (bR (bodyOf jq))) (TB cy parts m R lo (aD R j) (aD R j) (.val (.list (dQ (R j)))) (.val (.bool (lo j))) (.val (nI (aD R j))) (.val (fT (R j).length (su (R j)))) (.val (fT (R j).length F)) JA E7,wl)=
  some (.next,TB cy parts m R lo (aD R j+(R j).length) (aD R j) (.val (.list (dQ (R j)))) (.val (.bool (lo j))) (.val (nI (aD R j))) (.val (fT (R j).length (su (R j)))) (.val (fT (R j).length F)) M3 M1,wl):=by
 have UE:=te hm hR hj
 have Tq:=(hR j hj).len
 have ln:jw .len false [.fv (.list (dQ (R j)))]=some (.fv (nI (R j).length)):=by
  have:=nC (xs:=dQ (R j)) (by exact eW (aj ..)<|ll Tq rfl)
  rwa[aj]at this
 exact xT (C:=au N (k+30)) (N:=N) (wl:=wl) (fr:=Qd cy parts m R lo j F (eY m R (aD R j)) (o6 m R (aD R j)) JA E7) (λ(a:Nat×Slot) y=>Qd cy parts m R lo j F (eY m R (aD R j+a.1)) (o6 m R (aD R j+a.1)) y a.2) (λ_=>wl) (λn a=>a.1=n/\Y a.2) (0,E7) (j:=13) (y0:=JA) (it:=.bj .range false (.cons (.bj .len false (.cons (.var 8) .nil)) .nil)) (b:=bR (bR (bodyOf jq)))
  (x:=.fv (.range 0 (R j).length 1)) (cI (ah (cI (ah rfl aE) ln) aE) rfl) (cL (ll Tq rfl)) rfl WZ ⟨rfl,WY⟩ (λ_ _=>rfl) (λ_ _ _=>rfl) (λa d ha=>JY d λa' E7 g=>xA g λ(e:a'=a) WY=>by
    subst e
    have Qm:=nq hm hR hj ha
    have lnv:∀{fr:List Slot},ev (au N (k+30)) (.var 8) fr wl=some (.fv (.list (dQ (R j))),wl)->ev (au N (k+30)) (.bj .len false (.cons (.var 8) .nil)) fr wl=some (.fv (nI (R j).length),wl):=λh8=>cI (ah h8 aE) ln
    have g14:ev (au N (k+30)) (.ite (.cmp .Eq (.idx (.idx (.var 8) (.var 13)) (.lit (.int 0))) (.lit (.str (aa "call")))) (.bj .len false (.cons (.var 8) .nil)) (.bin .Mod (.idx (.idx (.var 8) (.var 13)) (.lit (.int 6))) (.bj .len false (.cons (.var 8) .nil)))) (Qd cy parts m R lo j F (eY m R (aD R j+a')) (o6 m R (aD R j+a')) (.val (nI a')) E7) wl=some (.fv (nI (hU (R j) a')),wl):=by
     have rv:=Se hm hR (C:=au N (k+30)) (wl:=wl) (fr:=Qd cy parts m R lo j F (eY m R (aD R j+a')) (o6 m R (aD R j+a')) (.val (nI a')) E7) (s:=8) (t:=13) hj ha rfl rfl;refine Cv (mU (EU Qm.w).2.2.2 (de rv rfl rfl) rfl) (λq=>?_) (λq=>?_)
     . rw[hU,if_pos (of_decide_eq_true q)];exact lnv rfl
     . rw[hU,if_neg (of_decide_eq_false q)];exact dh (de rv rfl rfl) (lnv rfl) (Dt (aQ (aU _) ha))
    refine .next (a'+1,.val (nI (hU (R j) a'))) (.val (nI a')) (ao (aZ g14 (jD rfl WY))<|ao (i_ (xs:=eY m R (aD R j+a')) (d:=(rowAt (R j) a').md ((hU (R j) a':Int)-a'-1)) rfl (ET (d:=(rowAt (R j) a').f) (de (Se hm hR (s:=8) (t:=13) hj ha rfl rfl) rfl rfl) (ah (x:=.fv (.int ((hU (R j) a':Int)-a'-1))) (dh (dh rfl rfl rfl) rfl rfl) aE) (Qm.call (k+20) wl _)) (decide_eq_true (by refine eW (aj ..)<|eW aq ?_;lia)))<|ao (UW ?_ (Ls hm hR (lo:=lo) (k:=k) (wl:=wl) (cy:=cy) (parts:=parts) (y:=.val (nI (hU (R j) a'))) hj ha hF)) aY) (.va _) ⟨rfl,.va _⟩
    have fs:eY m R (aD R j+a'+1)=eY m R (aD R j+a')++[(rowAt (R j) a').md ((hU (R j) a':Int)-a'-1)]:=by
     rw[eY,dK,bf,<-(dw hm hR hj ha).2.2.2.1];rfl
    exact eW fs rfl) λd y hy=>JY d λn Zg g e=>by
  have hn:n=(R j).length:=g.1;subst hn;exact⟨y,Zg,hy,g.2,e⟩
end
section
variable {m:Nat}{R:Nat->List Row}{lo:Nat->Bool}(hm:1<=m/\m<=3)(hR:∀j,j<m->mv N (R j) (lo j) (decide (j+1<m)))
include hm hR
theorem He{Sb Vs Ur JA E7:Slot}(hN:20000<=N)(hj:j<m)(Tq:Y Sb)(h11:Y Vs)(h12:Y Ur)(WZ:Y JA)(WY:Y E7):
 ∃X7 X0 XZ M3 M1,Y X7/\Y X0/\Y XZ/\Y M3/\Y M1/\hX (au N (k+30)) N (bR (bodyOf jq)) (TB cy parts m R lo (aD R j) (aD R j) (.val (.list (dQ (R j)))) (.val (.bool (lo j))) Sb Vs Ur JA E7,wl)=
  some (.next,TB cy parts m R lo (aD R (j+1)) (aD R (j+1)) (.val (.list (dQ (R j)))) (.val (.bool (lo j))) X7 X0 XZ M3 M1,wl):=by
 have UE:=te hm hR hj
 have Wg:(R j).length<=30:=ak (ji _ _) UE
 have hl:=(hR j hj).len
 have tl:∀f:Nat->List Nat,((ae (R j).length).map λi=>nL (f i)).length=(R j).length:=λf=>by exact eW (aj ..)<|eW aq rfl
 refine cps λGz kz=>?_
 (refine bS (tU (N:=N) (k:=k+29) (wl:=wl) (n:=(R j).length) (nx:=su (R j)) (A:=λa=>(rowAt (R j) a).asks) (Ly:=λa=>(rowAt (R j) a).gu) hl hN (λa ha=>by
   have:=(nq hm hR hj ha).asks;exact⟨this.1,λt ht=>dk (this.2 t ht) (by decide)⟩)) λF hF eF=>?_)
 (refine bS (Ek (N:=N) (k:=k+28) (wl:=wl) (R:=R j) (nx:=su (R j)) (hR j hj).ok hl hN) λS hS eS=>?_)
 (refine cM (HG hm hR (k:=k) (wl:=wl) (cy:=cy) (parts:=parts) (F:=F) hj WZ WY (λa ha t=>(hF a ha).2.2 t)) λM3 M1 ZH ZG e13=>?_)
 have a1:∀(fr:List Slot),fr[8]?=some (.val (.list (dQ (R j))))->fW fr [8]=some [.ro (.list (dQ (R j)))]->ev (au N (k+30)) (.comp false 1 [8] (.bj .range false (.cons (.bj .len false (.cons (.var 8) .nil)) .nil)) [0] .nil (.emit (.call (.bc (.obj 727)) (.cons (.var 1) (.cons (.var 0) .nil))))) fr wl=some (.fv (fT (R j).length (su (R j))),wl):=λfr h8 hs=>by
  have ln:jw .len false [.fv (.list (dQ (R j)))]=some (.fv (nI (R j).length)):=by
   have:=nC (xs:=dQ (R j)) (by exact eW (aj ..)<|ll Wg rfl)
   rwa[aj]at this
  exact comp_map (own:=false) nI (ae (R j).length) (cI (ah (cI (ah (by exact eW fi<|eW h8 rfl) aE) ln) aE) rfl) (cL (ll Wg rfl)) hs (λa=>nL (su (R j) a)) (λa ha=>aG (ah rfl (ah rfl aE)) (Em (k:=k+29) (iA (aC.mp ha)) (nq hm hR hj (aC.mp ha)).w hl)) (by refine eW aq ?_;lia)
 have a2:∀(fr:List Slot)(n:Nat)(g:Row->List Nat),fr[8]?=some (.val (.list (dQ (R j))))->(∀r C,ev C (.idx (.var 0) (.lit (nI n))) [.val (Row.fv r)] wl=some (.fv (nL (g r)),wl))->ev (au N (k+30)) (.comp false 1 [] (.var 8) [0] .nil (.emit (.idx (.var 0) (.lit (nI n))))) fr wl=some (.fv (fT (R j).length λa=>g (rowAt (R j) a)),wl):=λfr n g h8 hg=>by
  have:=comp_map (own:=false) (C:=au N (k+30)) (wl:=wl) (fr:=fr) Row.fv (R j) (aX:=[]) (cs:=[]) (it:=.var 8) (e:=.idx (.var 0) (.lit (nI n))) (by exact eW fi<|eW h8 rfl) (qB (ll Wg rfl)) rfl (λr=>nL (g r)) (λr _=>hg r _) (by lia)
  rwa[if_neg ay,vL]at this
 have a4:∀(fr:List Slot),fr[12]?=some (.val (fT (R j).length F))->ev (au N (k+30)) (.comp false 1 [] (.var 12) [0] .nil (.emit (.call (.bc (.obj 742)) (.cons (.var 0) .nil)))) fr wl=some (.fv (.list ((ae (R j).length).map λa=>nI (jH aR lR (R j) a))),wl):=λfr h12=>by
  have:=comp_map (own:=false) (C:=au N (k+30)) (wl:=wl) (fr:=fr) (λa=>nL (F a)) (ae (R j).length) (aX:=[]) (cs:=[]) (it:=.var 12) (e:=.call (.bc (.obj 742)) (.cons (.var 0) .nil)) (by exact eW fi<|eW h12 rfl) (kl (by refine eW (tl ..) ?_;lia)) rfl (λa=>nI (jH aR lR (R j) a)) (λa ha=>by
   (refine jP (hF a (aC.mp ha)) λf1 f2 f3=>?_)
   exact eL (Br f2 f3)<|aG (ah rfl aE) (B8 (k:=k+29) f1 f2)) (by exact eW aq<|ll Wg rfl)
  rwa[if_neg ay]at this
 have p64:∀(C:my)(fr:List Slot),ev C (.bin .Sub (.bin .Pow (.lit (.int 2)) (.lit (.int 64))) (.lit (.int 1))) fr wl=some (.fv (nI (2^64-1)),wl):=λC fr=>by kernel_rfl
 have a5:∀(fr:List Slot),fr[8]?=some (.val (.list (dQ (R j))))->fr[11]?=some (.val (fT (R j).length (su (R j))))->fW fr [9]=some [.ro (.bool (lo j))]->ev (au N (k+30)) (.comp false 1 [9] (.call (.bc (.obj 737)) (.cons (.var 8) (.cons (.var 11) .nil))) [0] .nil (.emit (.ite (.var 1) (.bin .Sub (.bin .Pow (.lit (.int 2)) (.lit (.int 64))) (.lit (.int 1))) (.call (.bc (.obj 742)) (.cons (.var 0) .nil))))) fr wl=some (.fv (.list ((ae (R j).length).map λa=>nI (if lo j then 2^64-1 else jH aS lS (R j) a))),wl):=λfr h8 h11 hs=>by
  have:=comp_map (own:=false) (C:=au N (k+30)) (wl:=wl) (fr:=fr) (λa=>nL (S a)) (ae (R j).length) (aX:=[9]) (cs:=[.ro (.bool (lo j))]) (it:=.call (.bc (.obj 737)) (.cons (.var 8) (.cons (.var 11) .nil))) (e:=.ite (.var 1) (.bin .Sub (.bin .Pow (.lit (.int 2)) (.lit (.int 64))) (.lit (.int 1))) (.call (.bc (.obj 742)) (.cons (.var 0) .nil))) (aG (ah (by exact eW fi<|eW h8 rfl) (ah (by exact eW fi<|eW h11 rfl) aE)) eS) (kl (by refine eW (tl ..) ?_;lia)) hs (λa=>nI (if lo j then 2^64-1 else jH aS lS (R j) a)) (λa ha=>by
   (refine jP (hS a (aC.mp ha)) λf1 f2 f3=>?_)
   refine Cv (c:=lo j) (jI rfl rfl) (λq=>?_) (λq=>?_)
   . exact eW q<|eW (if_pos rfl)<|p64 _ _
   . rw[q,if_neg ay,<-Br f2 f3]
     exact aG (ah rfl aE) (B8 (k:=k+29) f1 f2)) (by exact eW aq<|ll Wg rfl)
  rwa[if_neg ay]at this
 have r5:=Bs (λi=>nI (RG m R i)) (λa=>nI (jH aR lR (R j) a)) (aD R j) (R j).length λa ha=>by exact eW ((tZ hm hR hj ha).1) rfl
 have r6:=Bs (λi=>nI (SG m R lo i)) (λa=>nI (if lo j then 2^64-1 else jH aS lS (R j) a)) (aD R j) (R j).length λa ha=>by exact eW ((tZ hm hR hj ha).2.1) rfl
 have s1:∀(fr:List Slot),fr=TB cy parts m R lo (aD R j) (aD R j) (.val (.list (dQ (R j)))) (.val (.bool (lo j))) Sb Vs Ur JA E7->ex (au N (k+30)) N (o5 0 (bR (bodyOf jq))) (fr,wl)=some (.next,TB cy parts m R lo (aD R j) (aD R j) (.val (.list (dQ (R j)))) (.val (.bool (lo j))) (.val (nI (aD R j))) (.val (fT (R j).length (su (R j)))) Ur JA E7,wl):=λfr lC=>by
  subst lC;refine gk (xs:=[.fv (nI (aD R j)),.fv (fT (R j).length (su (R j)))]) (ah (cI (ah rfl aE) ?_) (ah (a1 _ rfl rfl) aE)) ?_
  . show(if cc (eY m R (aD R j)).length=true then some (EV.fv (.int ((eY m R (aD R j)).length:Nat)))else ab)=_
    exact eW (aj ..)<|eW aq<|eW (if_pos (show cc _=true from decide_eq_true (ll (ak (aP _ _) UE) rfl))) rfl
  . show(setSlot _ 10 _).bind _=_
    rw[jD rfl Tq,bJ]
    show(setSlot _ 11 _).bind _=_;rw[jD rfl h11];rfl
 refine kz ?_;refine⟨.val (nI (aD R j)),.val (fT (R j).length (su (R j))),.val (fT (R j).length F),M3,M1,.va _,.va _,.va _,ZH,ZG,ao (s1 _ rfl)<|ao (aZ (aG (ah rfl (ah (a2 _ 2 aR rfl λ_ _=>rfl) (ah (a2 _ 3 lR rfl λ_ _=>rfl) aE))) eF) (jD rfl h12))<|ao e13<|
  ao (pQ (xs:=(ae (aD R j)).map λi=>nI (RG m R i)) rfl (a4 _ rfl) (decide_eq_true (by exact eW (aj ..)<|eW (aj ..)<|eW aq<|eW aq<|ll UE rfl)))<|ao (pQ (w1:=wl) (ds:=(ae (R j).length).map λa=>nI (if lo j then 2^64-1 else jH aS lS (R j) a)) (xs:=(ae (aD R j)).map λi=>nI (SG m R lo i)) rfl (a5 _ rfl rfl rfl) (decide_eq_true (by exact eW (aj ..)<|eW (aj ..)<|eW aq<|eW aq<|ll UE rfl))) ?_⟩
 exact eW r5<|eW r6 rfl
end
theorem Kg(l:List Nat)(hx:x.ei=some (l.map nI))(hy:y.ei=some (l.map nI))(hi:pN x=none)(hs:LU x=none):mR .NotEq x y=some false:=by
 show(UH x y).elim _ _=_;rw[Xh hi hs hx hy (jW l) (jW l),decide_eq_true rfl];rfl
theorem rU{a b:IE}(l:List Nat)(h1:ev C a fr wl=some (x,wl))(h2:ev C b fr wl=some (y,wl))(hx:x.ei=some (l.map nI))(hy:y.ei=some (l.map nI))(hs:pN x=none)(ht:LU x=none):eK C (.cmp .NotEq a b) fr wl=some (false,wl):=fJ h1 h2 (Kg l hx hy hs ht)
theorem Ka(M:Nat):((ae 64).filter M.testBit).length<=64:=ak (dG _ _) (bh aq)
theorem Hn{M:Nat}(hM:M<2^64)(hN:70<=N){s17:Slot}(h16:fr[16]?=some (.val (nI M)))(h17:fr[17]?=some s17)(hy:Y s17)(hs:fW fr [16]=some [.ro (nI M)]):hX (au N (k+30)) N (bR (lZ 7 (bodyOf jq))) (fr,wl)=some (.next,fr.set 17 (.val (nL ((ae 64).filter M.testBit))),wl):=by
 have hl:=Ka M;obtain⟨ns,Uy⟩:∃ns,ns=(ae 64).filter M.testBit:=⟨_,rfl⟩
 have mem:∀t,t∈ns↔t<64/\M.testBit t=true:=λt=>by rw[Uy,eO,aC]
 have a1:ev (au N (k+30)) (.comp false 1 [16] (.bj .range false (.cons (.lit (.int 64)) .nil)) [0] (.cons (.cmp .Eq (.bin .BitAnd (.bin .RShift (.var 1) (.var 0)) (.lit (.int 1))) (.lit (.int 1))) .nil) (.emit (.var 0))) fr wl=some (.fv (nL ns),wl):=by
  rw[Uy];exact gz (own:=false) nI (ae 64) (x:=.fv (.range 0 64 1)) rfl (cL (b:=64) (by decide)) hs M.testBit nI (λn _=>by
   have h:=Ce (C:=au N (k+30)) (fr:=[.val (nI n),.ro (nI M)]) (wl:=wl) rfl rfl;induction q:M.testBit n using ax with
   |true=>exact dS (q▸h) pA
   |false=>exact d7 (q▸h)) (λ_ _ _=>rfl) (by decide)
 rw[<-Uy]at hl⊢
 have g16:(fr.set 17 (.val (nL ns)))[16]?=some (.val (nI M)):=by rw[b9 (by decide)];exact h16
 have g17:(fr.set 17 (.val (nL ns)))[17]?=some (.val (nL ns)):=ct (c9.mp h17).1
 have v16:ev (au N (k+30)) (.var 16) (fr.set 17 (.val (nL ns))) wl=some (.fv (nI M),wl):=by exact eW fi<|eW g16 rfl
 have Y8:ev (au N (k+30)) (.var 17) (fr.set 17 (.val (nL ns))) wl=some (.fv (nL ns),wl):=by exact eW fi<|eW g17 rfl
 have rv:ev (au N (k+30)) (.rev (.var 17)) (fr.set 17 (.val (nL ns))) wl=some (.fv (nL ns.reverse),wl):=by
  refine eW Ld<|eW Y8<|eW (bJ ..) ?_
  show(if cc (ns.map nI).length=true then some (EV.fv (.list (ns.map nI).reverse))else ab).map _=_;rw[if_pos (show cc _=true from decide_eq_true (by rw[aj];lia)),nL,<-MT];rfl
 have sl:ev (au N (k+30)) (.xw (.var 17) (.lit .none) (.lit (.int 1))) (fr.set 17 (.val (nL ns))) wl=some (.fv (nL (ns.take 1)),wl):=by
  refine Mx Y8 rfl rfl ?_
  show(if cc (ns.map nI).length=true then some (EV.fv (.list ((ns.map nI).take 1)))else ab)=_;rw[if_pos (show cc _=true from decide_eq_true (by rw[aj];lia)),nL,Au]
 have jn:ev (au N (k+30)) (.bin .Add (.rev (.var 17)) (.xw (.var 17) (.lit .none) (.lit (.int 1)))) (fr.set 17 (.val (nL ns))) wl=some (.fv (nL (ns.reverse++ns.take 1)),wl):=by
  refine dh rv sl ?_
  show(if cc ((ns.reverse.map nI).length+((ns.take 1).map nI).length)=true then some (EV.fv (.list (ns.reverse.map nI++(ns.take 1).map nI)))else ab)=_;rw[if_pos (show cc _=true from decide_eq_true (by rw[aj,aj,iP,gd];lia)),nL,bf]
 have QI:bF (ns.reverse++ns.take 1)=M:=(vK λt=>by
  refine iW cp<|iW n8<|iW (mem ..) ?_;constructor
  . intro q
    refine .inl ⟨fg λc=>?_,q⟩;rw[jZ (az hM (kV (by decide) (by lia)))]at q;exact ay q
  . rintro (q|q)
    . exact q.2
    . exact((mem t).mp (kN q)).2).symm
 have e2:=td (N:=N) (k:=k+29) (wl:=wl) (d_ (l:=ns.reverse++ns.take 1) (by refine eW aI<|eW iP<|eW gd ?_;lia)) λn hn=>by
  rcases cp.mp hn with q|q
  . have:=((mem n).mp (n8.mp q)).1;lia
  . have:=((mem n).mp (kN q)).1;lia
 rw[QI]at e2
 have e1:=z8 (N:=N) (k:=k+28) (wl:=wl) hM hN;rw[<-Uy]at e1;exact ao (aZ a1 (jD h17 hy))<|ao (kU (Ae (fZ (b:=false) (rU ns (aG (ah v16 aE) e1) Y8 rfl rfl rfl rfl) λ_=>fZ (b:=false) (L_ (x:=M) (y:=M) (r:=true) (beq_self_eq_true _) (aG (ah jn aE) e2) v16) λ_=>r7))) aY
structure S7 where
 a:Slot
 b:Slot
 c:Slot
 d:Slot
 e:Slot
 f:Slot
 g:Slot
structure S7.Ok(s:S7):Prop where
 a:Y s.a
 b:Y s.b
 c:Y s.c
 d:Y s.d
 e:Y s.e
 f:Y s.f
 g:Y s.g
def zm(m:Nat)(R:Nat->List Row)(lo:Nat->Bool):FV:=.list ((ae m).map λj=>rq (R j) (lo j))
def JF(cy:FV)(m:Nat)(R:Nat->List Row)(lo:Nat->Bool)(a:Nat×S7):List Slot:=TB cy (zm m R lo) m R lo (aD R a.1) (aD R a.1) a.2.a a.2.b a.2.c a.2.d a.2.e a.2.f a.2.g
def TF(cy:FV)(m:Nat)(R:Nat->List Row)(lo:Nat->Bool)(s:S7)(y x:Slot):List Slot:=[.val cy,.val .well,.val (nI m),.val (zm m R lo),.own (.ob (.list (eY m R (aD R m)))),.own (.ob (.list ((ae (aD R m)).map λi=>nI (RG m R i)))),.own (.ob (.list ((ae (aD R m)).map λi=>nI (SG m R lo i)))),.own (.ob (.list (((ae (aD R m)).filter (DG m R)).map nI))),s.a,s.b,s.c,s.d,s.e,s.f,s.g,.val (progOf m R).fv,y,x]
section
variable {m:Nat}{R:Nat->List Row}{lo:Nat->Bool}(hm:1<=m/\m<=3)(hR:∀j,j<m->mv N (R j) (lo j) (decide (j+1<m)))(hN:2^80<=N)
include hm hR hN
theorem Ht:∃s,ex (au N (k+30)) N (.for [8,9] (.var 3) (bR (bodyOf jq))) (JF cy m R lo (0,⟨.unset,.unset,.unset,.unset,.unset,.unset,.unset⟩),wl)=some (.next,JF cy m R lo (m,s),wl):=
 bS (Pb (C:=au N (k+30)) (N:=N) (wl:=wl) (fr:=JF cy m R lo (0,⟨.unset,.unset,.unset,.unset,.unset,.unset,.unset⟩)) (JF cy m R lo) (λ_=>wl) (λn a=>a.1=n/\a.2.Ok) (0,⟨.unset,.unset,.unset,.unset,.unset,.unset,.unset⟩) (is:=[8,9]) (it:=.var 3) (b:=bR (bodyOf jq))
  (x:=.fv (zm m R lo)) rfl (kl (by exact eW (aj ..)<|eW aq<|ll hm.2 rfl)) rfl ⟨rfl,.un,.un,.un,.un,.un,.un,.un⟩ λj v a hv=>JY a λj' s g=>xA g λ(ej:j'=j) o=>xA (JE hv) λhj e=>by
    subst ej e;refine u7 (He hm hR (k:=k) (wl:=wl) (cy:=cy) (parts:=zm m R lo) (ak (by decide) hN) hj o.c o.d o.e o.f o.g) λX7 X0 q=>fR q λXZ M3 M1 k10 k11 k12 k13 k14 e=>?_;exact⟨_,bs (jD rfl o.a) (bs (jD rfl o.b) rfl),.next,(j'+1,⟨.val (.list (dQ (R j'))),.val (.bool (lo j')),X7,X0,XZ,M3,M1⟩),e,fw,rfl,.va _,.va _,k10,k11,k12,k13,k14⟩) λa g e=>by
  rw[aj,aq]at g;exact⟨a.2,(show a=(m,a.2)from Prod.ext g.1 rfl)▸e⟩
theorem DD{s:S7}{y:Slot}:eK (au N (k+30)) (.uG (.cons (.cmp .NotEq (.call (.bc (.obj 609)) (.cons (.var 15) .nil)) (.var 5)) (.cons (.cmp .NotEq (.call (.bc (.obj 649)) (.cons (.var 15) .nil)) (.var 6)) (.cons (.cmp .NotEq (.call (.bc (.obj 656)) (.cons (.var 15) .nil)) (.var 7)) .nil)))) (TF cy m R lo s .unset y) wl=some (false,wl)/\RG m R 0<2^64/\SG m R lo 0<2^64:=by
 have h:=rp hm hR
 have pos:=h.pos;refine bS (yS h (k:=k+15) (wl:=wl) hN) λL1 hL1 c1=>bS (B_ h (k:=k+15) (wl:=wl) hN) λL2 Ym c2=>bS (H7 h (k:=k+14) (wl:=wl) hN) λL3 hL3 c3=>?_
 have r1:((ae (progOf m R).n).map λi=>nI (L1 i))=(ae (aD R m)).map λi=>nI (RG m R i):=dB λi hi=>congrArg nI (zk hm hR hL1 (aC.mp hi))
 have r2:((ae (progOf m R).n).map λi=>nI (L2 i))=(ae (aD R m)).map λi=>nI (SG m R lo i):=dB λi hi=>congrArg nI (AR hm hR Ym (aC.mp hi))
 have r3:((ae (progOf m R).n).filter λi=>((progOf m R).r i).xW&&bF ((progOf m R).r i).gu&&&rr L3 ((progOf m R).succ i)==0)=(ae (aD R m)).filter (DG m R):=List.filter_congr λi hi=>Pr hm hR (λi hi=>zk hm hR hL3 hi) (aC.mp hi);rw[r1]at c1;rw[r2]at c2;rw[r3]at c3;refine⟨Ae (fZ (b:=false) (rU ((ae (aD R m)).map (RG m R)) (aG (ah rfl aE) c1) rfl (by refine eW bG ?_;rfl) (by exact eW bG rfl) rfl rfl) λ_=>fZ (b:=false) (rU ((ae (aD R m)).map (SG m R lo)) (aG (ah rfl aE) c2) rfl (by exact eW bG rfl) (by exact eW bG rfl) rfl rfl) λ_=>
  fZ (b:=false) (rU ((ae (aD R m)).filter (DG m R)) (aG (ah rfl aE) c3) rfl rfl rfl rfl rfl) λ_=>r7),zk hm hR hL1 pos▸(hL1 0 pos).1,?_⟩
 refine eL (AR hm hR Ym pos) ?_;by_cases q:(progOf m R).opened 0
 . refine eW ((Ym 0 pos).1 q) ?_;decide
 . exact((Ym 0 pos).2 q).1
theorem Hu{s:S7}{M:Nat}(hM:M<2^64)(h1:RG m R 0<2^64)(h2:SG m R lo 0<2^64)(eM:∀k,au N (k+1) (.obj 678) [.fv .well,.fv (nI (2^64))] wl=some (nI M,w2)):∃y x,ex (au N (k+30)) N (o5 3 (lZ 4 (bodyOf jq))) (TF cy m R lo s .unset .unset,wl)=some (.next,TF cy m R lo s y x,w2):=
 have pos:0<aD R m:=(rp hm hR).pos
 tQ (C:=au N (k+30)) (N:=N) (wl:=wl) (fr:=TF cy m R lo s .unset .unset) (λ(a:Slot) y=>TF cy m R lo s y a) (λ_=>w2) (λ_ a=>Y a) .unset (j:=16) (y0:=.unset)
  (it:=.lst false (.cons (.call (.bc (.obj 678)) (.cons (.var 1) (.cons (.bin .Pow (.lit (.int 2)) (.lit (.int 64))) .nil))) (.cons (.idx (.var 5) (.lit (.int 0))) (.cons (.idx (.var 6) (.lit (.int 0))) .nil)))) (b:=bR (lZ 7 (bodyOf jq))) (x:=.fv (nL [M,RG m R 0,SG m R lo 0])) (l:=[M,RG m R 0,SG m R lo 0]) (g:=nI)
  (y6 (own:=false) (ah (aG (ah rfl (ah (by kernel_rfl) aE)) (eM (k+29))) (ah (de (x:=.bor (.ob (.list ((ae (aD R m)).map λi=>nI (RG m R i))))) rfl rfl (nH (n:=0) (eD pos) (by decide))) (ah (de (x:=.bor (.ob (.list ((ae (aD R m)).map λi=>nI (SG m R lo i))))) rfl rfl (nH (n:=0) (eD pos) (by decide))) aE))) rfl) (d_ (av rfl)) rfl .un .un (λ_ _=>rfl) (λ_ _ _=>rfl) (λi x a hv hY=>
    have Tc:x<2^64:=(a6.mp (aF hv)).elim (λe=>e▸hM) λq=>(a6.mp q).elim (λe=>e▸h1) λq=>aH.mp q▸h2
    .next (.val (nL ((ae 64).filter x.testBit))) (.val (nI x)) (Hn (k:=k) Tc (ak (by decide) hN) rfl rfl hY rfl) (.va _) (.va _)) λa y _ _ e=>⟨y,a,e⟩
theorem Kv(hW:W c wl)(hc:c<=600000):∃cH w',hX (au N (k+30)) N (lZ 4 (bodyOf jq)) (JF cy m R lo (0,⟨.unset,.unset,.unset,.unset,.unset,.unset,.unset⟩),wl)=some (.ret (.bool true),cH,w'):=by
 have h:=rp hm hR;refine xE (Ht hm hR hN (k:=k) (wl:=wl) (cy:=cy)) λs e1=>jP (DD hm hR hN (k:=k) (wl:=wl) (cy:=cy) (s:=s) (y:=.unset)) λt m0 m1=>cM (dj (N:=N) (m:=2^64) hW (by lia) (by decide) (by decide)) λM w2 hM _ eM=>u7 (Hu hm hR hN (k:=k) (cy:=cy) (s:=s) hM m0 m1 eM) λy x e2=>?_
 have mk:Cf false [.bor (.ob (.list (eY m R (aD R m))))]=some (.fv (fH (progOf m R))):=by
  show(if cc (eY m R (aD R m)).length=true then some (eY m R (aD R m))else ab).map _=_;rw[if_pos (show cc _=true from decide_eq_true (by rw[aj,aq];exact ll (show aD R m<=30 from h.i4) rfl))];rfl
 exact⟨_,w2,ao e1<|ao (aZ (aG (ah rfl aE) (z7 h (k:=k+14) (ak (by decide) hN) rfl mk)) rfl)<|ao (kU t)<|ao e2<|br (bY rfl)⟩
end
theorem Ng(hN:2^80<=N){ns:List Int}(hn:ns.length<=63):∃wl,au N (k+31) (.obj 747) [.fv (.list (ns.map FV.int))] none=some (.bool true,wl):=by
 (refine bS (HX (N:=N) (k:=k+29) hn) λw0 HI e0=>?_)
 (refine cM (dj (N:=N) (m:=3) HI (by decide) (by decide) (by decide)) λf w1 hf hw1 e1=>?_)
 (refine jO (Ee (N:=N) (k:=k+25) (m:=1+f) (fr:=[.val (.list (ns.map FV.int)),.val .well,.val (nI (1+f)),.unset,.unset,.unset,.unset,.unset,.unset,.unset,.unset,.unset,.unset,.unset,.unset,.unset,.unset,.unset]) (by lia) hw1 (by decide) rfl rfl) λR lo w2 hR hw2 e2=>?_)
 (refine u7 (Kv (k:=k) (cy:=.list (ns.map FV.int)) ⟨by lia,by lia⟩ hR hN hw2 (by lia)) λcH w3 e3=>?_)
 exact⟨w3,cK (k:=k+30) rfl<|bt rfl rfl<|ao (aZ (aG (ah rfl aE) e0) rfl)<|ao (aZ (d:=nI (1+f)) (dh rfl (aG (ah rfl (ah rfl aE)) (e1 _)) rfl) rfl)<|ao (aZ e2 rfl)<|ao (gk (xs:=[.own (.ob (.list [])),.own (.ob (.list [])),.own (.ob (.list [])),.own (.ob (.list []))]) rfl rfl) e3⟩
theorem Ut:xj:=⟨2^80,31,by decide,λns hn=>Ng (k:=0) (aT _) hn⟩
end
end Mine
theorem PySem.Challenge.cw_pq0981_01_holds : PySem.Challenge.rw_pq0981_01.Holds :=
 Mine.KU Mine.Ut
