import PyProof.Rows.All
import PyProof.Rules
import PyProof.TableCode
import PyProof.WalkLemmas
import PyProof.Raises
import PyProof.Rules2
import PyProof.Methods
import PyProof.FactsAll.list
import PyProof.AutoIntOps
import PyProof.Rules3
import PyProof.ListIndex
import PyProof.CallRoads
import PyProof.Cells
import PyProof.CompMap
import PyProof.CompUse
import PyProof.ConsumeWalk
import PyProof.MinMaxWalk
import PyProof.StrLoop
import PyProof.CompFree
import PyProof.PureInt
import PyProof.Conv_int
import PyProof.Dict
import PyProof.MeetsSeq
import PyProof.ListOps
import PyProof.MeetsDict
import PyProof.MeetsDictList
import PyProof.DictTruth
import PyProof.DictCompW
import PyProof.DictWalks
import PyProof.Draws
import PyProof.EnumMake
import PyProof.EqAt
import PyProof.NeKinds
import PyProof.RangeIter
import PyProof.WalksMore
import PyProof.WalksU
import PyProof.ListNew
import PyProof.ListCopy
import PyProof.ListIndexNeg
import PyProof.WalkInts
import PyProof.ReprLoop
import PyProof.Rows.Globals
import PyProof.Rows.Tup
import PyProof.Rows.TupAssign
import PyProof.Rows.TupSub
import PyProof.Rows.CellsFrame
import PyProof.Rows.Own
import PyProof.Rows.Exc
import PyProof.Rows.CellsNews
import PyProof.Rows.Nodes
import PyProof.WalksEnum
import PyProof.Rows.Method
import PyProof.Rows.StrTemp
import PyProof.Rows.NameDeclared
import PyProof.Rows.RuleN_abs
import PyProof.Rows.TupMore
import PyProof.SliceMore
import PyProof.RulesAssignMore
import PyProof.Rows.TupTab
import PyProof.Rows.TupDisplay
import PyProof.SumWalkG
import PyProof.TupleOfSeq
import PyProof.Rows.SortRuns
import PyProof.Rows.SortShell
import Open.Line
import KE.KDictOf
import Wide.All
import Lean
import PySem.Challenge.RW_xm0106_01
set_option Elab.async false
set_option linter.all false
open Array renaming getElem?_eq_getElem->tT0,getElem?_eq_some_iff->tT1,length_toList->tT2
open Bool renaming and_eq_true->jb,and_eq_true_iff->tT4,and_self->Yo,false_and->tT6,false_eq_true->LI,false_ne_true->Td,false_or->tT9,not_eq_true'->rR,not_false->Ux,or_eq_false_iff->Jv,or_eq_true->qr,or_false->Jw
open PySem renaming wpAny->b_,model->c_,sysModules->i_,compEnvC->j_,Str->o_,Heap.SameBut->r_,letOwnedTupleGo->t_,Builtin.Tuple.tupleCompareSizes->u_,Obj.mapSeq->x_,Program->z_,mainGlobals->A_,Value.none->C_,NameKind.free->E_,Value.ref->F_,Stmt->G_,eval->H_,Scope->I_,rawInt->J_,pyNext->K_,isTrue->L_,builtinsNs->M_,Builtin.Dict.takeOut->N_,Str.ofString->O_,Builtin.SmallTypes.nextOf->P_,Builtin.Tuple.tupleExact->Q_,codeAny->R_,DictEntry->S_,pyIter->U_,firstArgMember->V_,Calls.docDef->X_,Builtin.List.listItems->Y_,Challenge.pw_xm0106_01->Z_,standAt->u0,starEach->mc,cLine->zk,atKey->b?,sizeLine->d?,compTurn->e?,Builtin.Slice.slicePlaces->k?,Builtin.Slice.sliceAdjust->l?,intKind->m?,foldedSetIterable->n?,Env->r?,NameKind->s?,holding->t?,entryOfKey->u?,assignEach->v?,Value.type->w?,Builtin.Dict.showsAll->y?,valueOrNone->z?,Operator->A?,compareOp->D?,argBest->E?,bindL->J?,bindC->K?,IsTupleKey->N?,notedBy->O?,cStatics->P?,swapsWith->R?,preSum->S?,backTo->T?,Str->U?,Heap.ExtBut->V?,theTreesLotGoes->W?,W.Hook.none->X?,Builtin.Dict_items.ownsTuple->Y?,Builtin.Dict.entriesForEmpty->Z?,F.args_dict_keyiterator_next_1->Yp,F.args_tuple_iterator_next_1->Yq,F.entry_dict_keyiterator_next->Yr,F.entry_tuple_iterator_next->Yt,F.plainAttrs_list->Uy,F.slot_dict_iter->Uz,F.slot_dict_keyiterator_next->LV,F.slot_dict_pop->Qh,F.slot_list_append->UA,F.slot_list_reversed->UB,F.slot_tuple_eq->UC,F.slot_tuple_iterator_next->Qi,Heap.SameBut.update->qU,Heap.get?_push_ne->Jx,Heap.get?_push_of_some->kC,Heap.get?_push_size->j4,Heap.get?_update_self->AJ,Heap.lt_size->mF,Heap.size_push->yB,Heap.size_update->Qj,Obj.cls_mapFields->L6,Obj.data_mapDictKeys->HD,Obj.data_mapFields->zC,Obj.isFreed_of_fields->L7,mem_of_lookup->HF,Value.type.inj->HG,builtinLookup_eq_fast->Ma,call_meets->CP,isSubtype_tuple_tuple->HN,isSubtype_type->HO,richCompare_meets_room->HS,sizeLine_eq->wy,size_of_entries->zF,slot_list_getitem->HT,typeLookup_type->Mc,wpAny_Constant_none->Md,wpAny_assign_Name->Me,wpAny_attempt->CX,wpAny_callSpecial?_slot->uO,wpAny_call_entry->iE,wpAny_dictEntries->qA,wpAny_dictEpoch->HV,wpAny_execs_nil->Mf,wpAny_field->qB,wpAny_getItem_list_slice->Mg,wpAny_holding->oj,wpAny_isInstance->wB,wpAny_listItems->HW,wpAny_loadPart'->Ti,wpAny_mono->om,wpAny_newObj_type->kU,wpAny_notOrdered_dict->HX,wpAny_of_eq->rW,wpAny_richCompare_same_room->HY,wpAny_rule->qC,wpAny_seqItems->Mh,wpAny_setField->CY,wpAny_specialOf->Mi,wpAny_standAt->zH,wpAny_tests_nil->Mj,wpAny_truthy_bool->qD,wpAny_tupleItemsOf->uP,wpAny_typeNameOfWhole_keyiter->HZ,wpAny_typeNameOf_keyiter->H0,wpAny_typeOf->H3,wpAny_bind->aU,wpAny_pure->cy,Shared->aJ,Value->aY,Expr->av,Heap->cE,Around->da,World->dc,Addr->bU
open Int renaming fmod_eq_emod_of_nonneg->Qk,mul_one->Ql,natAbs_mul->Jy,natCast_nonneg->Qm,negSucc_eq->AK,negSucc_lt_zero->Yu,ofNat_eq_natCast->Yv,ofNat_le->Qn,ofNat_lt->UD,ofNat_sub->UE,pow_one->Qo,subNatNat_eq_coe->Yw,toNat_natCast->CG,zero_add->UG
open List renaming all_eq_true->mG,any_eq_true->LX,append_assoc->UH,drop_eq_getElem_cons->Yx,filter_cons->UI,forall_mem_cons->Yy,getElem?_append_left->LY,getElem?_cons_succ->UJ,getElem?_cons_zero->Qp,getElem?_eq_getElem->lJ,getElem?_eq_none->LZ,getElem?_eq_some_iff->mi,getElem?_map->mH,getElem?_of_mem->L0,getElem?_range->Yz,getElem?_reverse->Jz,getElem?_toArray->YA,getElem?_zip_eq_some->YB,getElem_inj->UK,getElem_mem->UL,isEmpty_iff->UM,length_replicate->YC,length_take->UN,map_congr_left->YD,map_eq_nil_iff->UO,map_reverse->UP,map_take->UQ,mem_filter->UR,mem_filterMap->US,mem_flatMap->UT,mem_of_getElem?->dU,mem_range->UU,nodup_append->UW,of_mem_zip->UX,prefix_append->UY,any_cons->uI,any_nil->zE,append_nil->HH,cons_append->Mb,flatMap_cons->CR,forIn_cons->CT,forIn_nil->HM,length_append->oi,length_cons->fD,length_filter_le->HP,length_map->cw,length_nil->uL,length_reverse->uM,lookup_cons->qz,map_append->CU,map_cons->bW,map_map->fE,map_nil->mI,mem_append->fG,mem_append_left->uN,mem_append_right->HQ,mem_cons->aT,mem_cons_of_mem->bg,mem_cons_self->aQ,mem_map->eR,mem_singleton->az,nil_append->CV,nodup_cons->gw,nodup_nil->rV,not_mem_nil->fH,prefix_rfl->eS,replicate_succ->HR,reverse_cons->CW,size_toArray->dX,zip_cons_cons->uQ
open Nat renaming add_add_add_comm->Qq,add_lt_add_of_lt_of_le->UZ,add_mul_div_left->YE,add_mul_mod_self_left->YF,beq_refl->JA,ble_eq->CH,ble_eq_true_of_le->YG,div_add_mod->wi,div_div_eq_div_mul->CI,eq_of_beq_eq_true->wj,le_add_left->rS,le_of_ble_eq_true->iC,le_of_lt->kD,le_of_lt_succ->U0,le_refl->fB,le_succ->CJ,le_succ_of_le->CK,le_trans->aR,lt_irrefl->CL,lt_of_le_of_lt->oh,lt_of_lt_of_le->eA,lt_succ_of_le->HA,lt_succ_of_lt->wm,lt_succ_self->lN,lt_trans->rT,mod_lt->uG,mul_add->HB,mul_assoc->L1,mul_comm->CM,mul_le_mul_left->HC,mul_le_mul_right->zA,ne_of_beq_eq_false->L2,ne_of_gt->rU,ne_of_lt->jg,not_lt->wo,not_lt_zero->L4,pow_le_pow_right->Te,sub_le->CN,succ_le_succ->zB,succ_pos->iD,zero_add->wq,zero_le->jP
open Option renaming isNone_iff_eq_none->Tf,isSome_iff_exists->wt,isSome_some->L8,map_eq_some_iff->HE,map_some->zD
open Option.some renaming inj->aw,injEq->dN
open PyProof.Rows renaming callWith_builtin1->uH,callWith_type1->CO,gt_int->Tg,lt_int->Th,callWith_method1->HJ,slot_tuple_getitem->HU,spliced_more->wz,spliced_none->zG,tail_any->wA,wpS_bind->iG,wpS_forRange->CZ,wpS_pure->qE
open _root_ renaming Option.some->f,Option.none->V,Bool.false->N',rfl->X,Bool.true->R,Int->G,trivial->Z',Nat->a_,List->d_,Bool->e_,Nat.beq->f_,absurd->g_,And.intro->h_,List.replicate->k_,Subtype.val->l_,Nat.ble->m_,ForInStep.yield->n_,Nat.add->p_,Nat.blt->s_,List.map_cons->v_,Int.ofNat->w_,List.range->y_,PyProof.Rows.arrOf->B_,Option->D_,Array->T_,Nat.sub->W_,List.map->Gq,Nat.strongRecOn->oL,True->f?,Nat.succ->g?,PyProof.Rows.seqObj->i?,Unit->j?,Nat.mod->o?,Nat.gcd->p?,List.any_cons->q?,Nat.mul->x?,Int.negSucc->B?,List.map_nil->C?,List.any_nil->F?,Nat.div->G?,List.getD->H?,Int.neg->I?,Option.isSome->L?,Int.subNatNat->M?,Int.add->Q?,and_true->lO,beq_eq_false_iff_ne->HI,beq_false_of_ne->uJ,beq_iff_eq->wu,beq_self_eq_true->L9,cond_false->HK,cond_true->CQ,congrArg->c8,decide_eq_decide->HL,decide_eq_false->bT,decide_eq_false_iff_not->uK,decide_eq_true->bP,decide_eq_true_eq->jQ,if_false->kS,if_neg->ak,if_pos->ai,if_true->gv,not_or->wx,of_decide_eq_true->dW,Option->af,Int.ofNat.inj->vz,Nat.succ.inj->L5,Ne.symm->kx,Prod.mk.injEq->rP
open List(any_cons any_nil cons_append eraseP_cons map_cons map_nil nil_append replicate_succ sum_cons zip_cons_cons)
noncomputable section
set_option tactic.hygienic false
set_option genSizeOf false
set_option genInjectivity false
section
open PySem PySem.W PyProof.Rows
namespace Mine.Internal
noncomputable def YH:d_ a_:=[1,3,4,5,7,8,9,10,11,12,13,14,15,16,17,18,20,21,23,24,25,26,28,29,30,31,32,33,34,36,37,38,39,40,41,42,43,44,45,47,48,49,50,51,52,53,54,56,57,58,59,60,61,62,64,65,66,67,68,69,70,72,73,75,76,77,78,79]
def C0:z_:={Z_ with main:={PySem.Challenge.pw_xm0106_01.main with body:=YH.filterMap λi=>PySem.Challenge.pw_xm0106_01.main.body[i]?}}
noncomputable abbrev hdR:RowW:=OpenRow.toRowW PySem.Challenge.rw_xm0106_01.row
set_option maxRecDepth 100000 in
set_option maxHeartbeats 4000000 in
theorem Qr:LeftO Z_ C0 [] (λs=>xlAt C0 [] s&&recOk (RowW.records hdR) s) (Hook.obs X?) (Hook.val X?) 4564:=λw=>by kernel_rfl
set_option maxRecDepth 100000 in
theorem Qs:OpenLaw.wellSaid PySem.Challenge.rw_xm0106_01=R:=by kernel_rfl
end Mine.Internal
end
section
namespace Mine.Internal
section
variable{A ha sl ρ E:Prop}{Y':Prop}
theorem cC(h:A/\ha)(k:A->ha->Y'):Y':=k h.1 h.2
theorem dF(h:A/\ha/\sl)(k:A->ha->sl->Y'):Y':=k h.1 h.2.1 h.2.2
theorem jh(h:A/\ha/\sl/\ρ)(k:A->ha->sl->ρ->Y'):Y':=k h.1 h.2.1 h.2.2.1 h.2.2.2
theorem Tj(h:A/\ha/\sl/\ρ/\E)(k:A->ha->sl->ρ->E->Y'):Y':=k h.1 h.2.1 h.2.2.1 h.2.2.2.1 h.2.2.2.2
end
section
variable{α:Sort _}{A ha sl ρ E F:α->Prop}{Y':Prop}
theorem cz(h:∃ x,A x)(k:∀ x,A x->Y'):Y':=h.elim λx h=>k x h
theorem ah(h:∃ x,A x/\ha x)(k:∀ x,A x->ha x->Y'):Y':=h.elim λx h=>k x h.1 h.2
theorem bY(h:∃ x,A x/\ha x/\sl x)(k:∀ x,A x->ha x->sl x->Y'):Y':=h.elim λx h=>k x h.1 h.2.1 h.2.2
theorem ky(h:∃ x,A x/\ha x/\sl x/\ρ x)(k:∀ x,A x->ha x->sl x->ρ x->Y'):Y':=h.elim λx h=>k x h.1 h.2.1 h.2.2.1 h.2.2.2
theorem zI(h:∃ x,A x/\ha x/\sl x/\ρ x/\E x)(k:∀ x,A x->ha x->sl x->ρ x->E x->Y'):Y':=h.elim λx h=>k x h.1 h.2.1 h.2.2.1 h.2.2.2.1 h.2.2.2.2
theorem Mk(h:∃ x,A x/\ha x/\sl x/\ρ x/\E x/\F x)(k:∀ x,A x->ha x->sl x->ρ x->E x->F x->Y'):Y':=h.elim λx h=>k x h.1 h.2.1 h.2.2.1 h.2.2.2.1 h.2.2.2.2.1 h.2.2.2.2.2
end
section
variable{α β:Sort _}{A ha sl ρ E F:α->β->Prop}{Y':Prop}
theorem gx(h:∃ x y,A x y)(k:∀ x y,A x y->Y'):Y':=h.elim λx h=>h.elim λy h=>k x y h
theorem eD(h:∃ x y,A x y/\ha x y)(k:∀ x y,A x y->ha x y->Y'):Y':=h.elim λx h=>h.elim λy h=>k x y h.1 h.2
theorem aW(h:∃ x y,A x y/\ha x y/\sl x y)(k:∀ x y,A x y->ha x y->sl x y->Y'):Y':=h.elim λx h=>h.elim λy h=>k x y h.1 h.2.1 h.2.2
theorem bA(h:∃ x y,A x y/\ha x y/\sl x y/\ρ x y)(k:∀ x y,A x y->ha x y->sl x y->ρ x y->Y'):Y':=h.elim λx h=>h.elim λy h=>k x y h.1 h.2.1 h.2.2.1 h.2.2.2
theorem fe(h:∃ x y,A x y/\ha x y/\sl x y/\ρ x y/\E x y)(k:∀ x y,A x y->ha x y->sl x y->ρ x y->E x y->Y'):Y':=h.elim λx h=>h.elim λy h=>k x y h.1 h.2.1 h.2.2.1 h.2.2.2.1 h.2.2.2.2
theorem oq(h:∃ x y,A x y/\ha x y/\sl x y/\ρ x y/\E x y/\F x y)(k:∀ x y,A x y->ha x y->sl x y->ρ x y->E x y->F x y->Y'):Y':=h.elim λx h=>h.elim λy h=>k x y h.1 h.2.1 h.2.2.1 h.2.2.2.1 h.2.2.2.2.1 h.2.2.2.2.2
end
section
variable{α β γ:Sort _}{A ha sl ρ E F j' I:α->β->γ->Prop}{Y':Prop}
theorem H6(h:∃ x y z,A x y z)(k:∀ x y z,A x y z->Y'):Y':=h.elim λx h=>h.elim λy h=>h.elim λz h=>k x y z h
theorem uR(h:∃ x y z,A x y z/\ha x y z)(k:∀ x y z,A x y z->ha x y z->Y'):Y':=h.elim λx h=>h.elim λy h=>h.elim λz h=>k x y z h.1 h.2
theorem zJ(h:∃ x y z,A x y z/\ha x y z/\sl x y z)(k:∀ x y z,A x y z->ha x y z->sl x y z->Y'):Y':=h.elim λx h=>h.elim λy h=>h.elim λz h=>k x y z h.1 h.2.1 h.2.2
theorem H7(h:∃ x y z,A x y z/\ha x y z/\sl x y z/\ρ x y z)(k:∀ x y z,A x y z->ha x y z->sl x y z->ρ x y z->Y'):Y':=h.elim λx h=>h.elim λy h=>h.elim λz h=>k x y z h.1 h.2.1 h.2.2.1 h.2.2.2
theorem H8(h:∃ x y z,A x y z/\ha x y z/\sl x y z/\ρ x y z/\E x y z)(k:∀ x y z,A x y z->ha x y z->sl x y z->ρ x y z->E x y z->Y'):Y':=h.elim λx h=>h.elim λy h=>h.elim λz h=>k x y z h.1 h.2.1 h.2.2.1 h.2.2.2.1 h.2.2.2.2
theorem zK(h:∃ x y z,A x y z/\ha x y z/\sl x y z/\ρ x y z/\E x y z/\F x y z)(k:∀ x y z,A x y z->ha x y z->sl x y z->ρ x y z->E x y z->F x y z->Y'):Y':=h.elim λx h=>h.elim λy h=>h.elim λz h=>k x y z h.1 h.2.1 h.2.2.1 h.2.2.2.1 h.2.2.2.2.1 h.2.2.2.2.2
theorem Tl(h:∃ x y z,A x y z/\ha x y z/\sl x y z/\ρ x y z/\E x y z/\F x y z/\j' x y z/\I x y z)(k:∀ x y z,A x y z->ha x y z->sl x y z->ρ x y z->E x y z->F x y z->j' x y z->I x y z->Y'):Y':=h.elim λx h=>h.elim λy h=>h.elim λz h=>k x y z h.1 h.2.1 h.2.2.1 h.2.2.2.1 h.2.2.2.2.1 h.2.2.2.2.2.1 h.2.2.2.2.2.2.1 h.2.2.2.2.2.2.2
end
section
variable{α β γ δ:Sort _}{A ha sl ρ E F:α->β->γ->δ->Prop}{Y':Prop}
theorem YI(h:∃ x y z u,A x y z u)(k:∀ x y z u,A x y z u->Y'):Y':=h.elim λx h=>h.elim λy h=>h.elim λz h=>h.elim λu h=>k x y z u h
theorem Ml(h:∃ x y z u,A x y z u/\ha x y z u)(k:∀ x y z u,A x y z u->ha x y z u->Y'):Y':=h.elim λx h=>h.elim λy h=>h.elim λz h=>h.elim λu h=>k x y z u h.1 h.2
theorem ff(h:∃ x y z u,A x y z u/\ha x y z u/\sl x y z u)(k:∀ x y z u,A x y z u->ha x y z u->sl x y z u->Y'):Y':=h.elim λx h=>h.elim λy h=>h.elim λz h=>h.elim λu h=>k x y z u h.1 h.2.1 h.2.2
theorem wC(h:∃ x y z u,A x y z u/\ha x y z u/\sl x y z u/\ρ x y z u)(k:∀ x y z u,A x y z u->ha x y z u->sl x y z u->ρ x y z u->Y'):Y':=h.elim λx h=>h.elim λy h=>h.elim λz h=>h.elim λu h=>k x y z u h.1 h.2.1 h.2.2.1 h.2.2.2
theorem rX(h:∃ x y z u,A x y z u/\ha x y z u/\sl x y z u/\ρ x y z u/\E x y z u)(k:∀ x y z u,A x y z u->ha x y z u->sl x y z u->ρ x y z u->E x y z u->Y'):Y':=h.elim λx h=>h.elim λy h=>h.elim λz h=>h.elim λu h=>k x y z u h.1 h.2.1 h.2.2.1 h.2.2.2.1 h.2.2.2.2
theorem YJ(h:∃ x y z u,A x y z u/\ha x y z u/\sl x y z u/\ρ x y z u/\E x y z u/\F x y z u)(k:∀ x y z u,A x y z u->ha x y z u->sl x y z u->ρ x y z u->E x y z u->F x y z u->Y'):Y':=h.elim λx h=>h.elim λy h=>h.elim λz h=>h.elim λu h=>k x y z u h.1 h.2.1 h.2.2.1 h.2.2.2.1 h.2.2.2.2.1 h.2.2.2.2.2
end
section
variable{α β γ δ ε:Sort _}{A ha:α->β->γ->δ->ε->Prop}{Y':Prop}
theorem wD(h:∃ x y z u v,A x y z u v/\ha x y z u v)(k:∀ x y z u v,A x y z u v->ha x y z u v->Y'):Y':=h.elim λx h=>h.elim λy h=>h.elim λz h=>h.elim λu h=>h.elim λv h=>k x y z u v h.1 h.2
end
theorem nab{x y:G}{a b:a_}(h:x.natAbs<=a)(k:y.natAbs<=b):(x+y).natAbs<=a+b:=aR (Int.natAbs_add_le x y) (Nat.add_le_add h k)
theorem Mm{k n:a_}(h:k<n):n-1-k<n:=Nat.sub_one_sub_lt_of_lt h
theorem Tn{k n:a_}(h:k<n):n-1-(n-1-k)=k:=Nat.sub_sub_self (Nat.le_sub_one_of_lt h)
theorem Mn{k n:a_}(h:k<n):n-1-k+k+1=n:=by omega
theorem U1{k n:a_}(h:k<n):(n:G)-1-(k:G)=((n-1-k:a_):G):=by have:=Mn h;omega
theorem Mo{k n:a_}(h:k<n) : -((k:G)+1)+(n:G)=((n-1-k:a_):G):=by have:=Mn h;omega
theorem ia{T:Prop}(h:∀ Y':Prop,(T->Y')->Y'):T:=h T λt=>t
section
variable{α:Sort _}{A ha sl ρ E F:α->Prop}
theorem To(k:∀ Y':Prop,(∀ x,A x->Y')->Y'):∃ x,A x:=k _ λx a=>⟨x,a⟩
theorem C1(k:∀ Y':Prop,(∀ x,A x->ha x->Y')->Y'):∃ x,A x/\ha x:=k _ λx a b=>⟨x,a,b⟩
end
section
variable{α β:Sort _}{A ha sl ρ E F:α->β->Prop}
theorem C2(k:∀ Y':Prop,(∀ x y,A x y->Y')->Y'):∃ x y,A x y:=k _ λx y a=>⟨x,y,a⟩
theorem Mp(k:∀ Y':Prop,(∀ x y,A x y->ha x y->Y')->Y'):∃ x y,A x y/\ha x y:=k _ λx y a b=>⟨x,y,a,b⟩
theorem C3(k:∀ Y':Prop,(∀ x y,A x y->ha x y->sl x y->Y')->Y'):∃ x y,A x y/\ha x y/\sl x y:=k _ λx y a b c=>⟨x,y,a,b,c⟩
theorem Tp(k:∀ Y':Prop,(∀ x y,A x y->ha x y->sl x y->ρ x y->Y')->Y'):∃ x y,A x y/\ha x y/\sl x y/\ρ x y:=k _ λx y a b c d=>⟨x,y,a,b,c,d⟩
end
section
variable{α β γ:Sort _}{A ha sl ρ E F j' I:α->β->γ->Prop}
theorem YK(k:∀ Y':Prop,(∀ x y z,A x y z->ha x y z->Y')->Y'):∃ x y z,A x y z/\ha x y z:=k _ λx y z a b=>⟨x,y,z,a,b⟩
theorem Mq(k:∀ Y':Prop,(∀ x y z,A x y z->ha x y z->sl x y z->Y')->Y'):∃ x y z,A x y z/\ha x y z/\sl x y z:=k _ λx y z a b c=>⟨x,y,z,a,b,c⟩
end
section
variable{α β γ δ:Sort _}{A ha sl ρ E F j' I aa K:α->β->γ->δ->Prop}
theorem YL(k:∀ Y':Prop,(∀ x y z u,A x y z u->ha x y z u->sl x y z u->ρ x y z u->E x y z u->F x y z u->j' x y z u->I x y z u->aa x y z u->K x y z u->Y')->Y'):∃ x y z u,A x y z u/\ha x y z u/\sl x y z u/\ρ x y z u/\E x y z u/\F x y z u/\j' x y z u/\I x y z u/\aa x y z u/\K x y z u:=k _ λx y z u a b c d e K' g h i j=>⟨x,y,z,u,a,b,c,d,e,K',g,h,i,j⟩
end
section
variable{α β γ δ ε:Sort _}{A ha sl ρ E F j' I aa K:α->β->γ->δ->ε->Prop}
theorem Mr(k:∀ Y':Prop,(∀ x y z u v,A x y z u v->ha x y z u v->Y')->Y'):∃ x y z u v,A x y z u v/\ha x y z u v:=k _ λx y z u v a b=>⟨x,y,z,u,v,a,b⟩
end
section
variable{α β γ δ ε ζ η:Sort _}{A ha sl ρ E F:α->β->γ->δ->ε->ζ->η->Prop}
end
theorem nS{β:Type _}{x:β}{Y':Prop}(h:V=f x):Y':=nomatch h
theorem sN{β:Type _}{x:β}{Y':Prop}(h:f x=V):Y':=nomatch h
theorem fT{Y':Prop}(h:N'=R):Y':=nomatch h
theorem nF{A:Sort _}{β:Type _}{x:β}{Y':Prop}(_:A)(h:V=f x):Y':=nS h
theorem lQ{A ha:Sort _}{β:Type _}{x:β}{Y':Prop}(_:A)(_:ha)(h:V=f x):Y':=nS h
theorem fF{A:Sort _}{Y':Prop}(_:A)(h:N'=R):Y':=fT h
theorem X5{A ha:Sort _}{Y':Prop}(_:A)(_:ha)(h:N'=R):Y':=fT h
theorem tF{Y':Prop}(h:R=N'):Y':=nomatch h
theorem H9{a b:e_}{Y':Prop}(h:(a&&b)=R)(k:a=R->b=R->Y'):Y':=by
 cases a
 .exact nomatch h
 .exact k X h
theorem JB{a b c:e_}{Y':Prop}(z:(a&&b&&c)=R)(k:a=R->b=R->c=R->Y'):Y':=H9 z λz y=>H9 z λx0 x1=>k x0 x1 y
theorem bn4{a b c d:e_}{Y':Prop}(z:(a&&b&&c&&d)=R)(k:a=R->b=R->c=R->d=R->Y'):Y':=H9 z λz y=>JB z λx0 x1 x2=>k x0 x1 x2 y
theorem bn5{a b c d e:e_}{Y':Prop}(z:(a&&b&&c&&d&&e)=R)(k:a=R->b=R->c=R->d=R->e=R->Y'):Y':=H9 z λz y=>bn4 z λx0 x1 x2 x3=>k x0 x1 x2 x3 y
theorem bn6{a b c d e K':e_}{Y':Prop}(z:(a&&b&&c&&d&&e&&K')=R)(k:a=R->b=R->c=R->d=R->e=R->K'=R->Y'):Y':=H9 z λz y=>bn5 z λx0 x1 x2 x3 x4=>k x0 x1 x2 x3 x4 y
theorem bn7{a b c d e K' g:e_}{Y':Prop}(z:(a&&b&&c&&d&&e&&K'&&g)=R)(k:a=R->b=R->c=R->d=R->e=R->K'=R->g=R->Y'):Y':=H9 z λz y=>bn6 z λx0 x1 x2 x3 x4 x5=>k x0 x1 x2 x3 x4 x5 y
@[elab_as_elim] theorem J{α:Sort _}{a b:α}{P:α->Prop}(h:a=b)(k:P b):P a:=h▸k
@[elab_as_elim] theorem dR{α:Sort _}{a b:α}{P:α->Prop}(h:b=a)(k:P b):P a:=h▸k
@[elab_as_elim] theorem gI{α β:Type _}{a:α}{b:β}{P:α->β->Prop}{c:α}{d:β}(h:f (a,b)=f (c,d))(k:P a b):P c d:=dR (P:=λx:α × β=>P x.1 x.2) (b:=(a,b)) (a:=(c,d)) (aw h) k
@[elab_as_elim] theorem JC{α β γ:Type _}{a:α}{b:β}{c:γ}{P:α->β->γ->Prop}{d:α}{e:β}{K':γ}(h:f (a,b,c)=f (d,e,K'))(k:P a b c):P d e K':=dR (P:=λx:α × β × γ=>P x.1 x.2.1 x.2.2) (b:=(a,b,c)) (a:=(d,e,K')) (aw h) k
theorem oP{α β:Type _}{a c:α}{b d:β}(h:f (a,b)=f (c,d)):a=c/\b=d:=have q:=aw h;⟨c8 Prod.fst q,c8 Prod.snd q⟩
theorem oT{α β γ:Type _}{a c:α}{b d:β}{x y:γ}(h:f (a,b,x)=f (c,d,y)):a=c/\b=d/\x=y:=have q:=aw h;⟨c8 Prod.fst q,oP (c8 f (c8 Prod.snd q))⟩
set_option genCtorIdx false in
inductive AV where
 |ub|none|bool (b:e_)|int (i:G)|str (n:a_)|tup (Z:d_ AV)|fv (Z:d_ G)|ref (n:a_)
gen_injective_theorems% AV
@[simp] theorem AV.tup.injEq (a b):(AV.tup a=AV.tup b)=(a=b):=propext ⟨λh=>by cases h;rfl,λh=>h▸X⟩
@[simp] theorem AV.int.injEq (a b):(AV.int a=AV.int b)=(a=b):=propext ⟨λh=>by cases h;rfl,λh=>h▸X⟩
@[simp] theorem AV.bool.injEq (a b):(AV.bool a=AV.bool b)=(a=b):=propext ⟨λh=>by cases h;rfl,λh=>h▸X⟩
set_option genCtorIdx false in
inductive AO where
 |list (Z:d_ AV)
 |dict (bJ:d_ (d_ G × AV))
gen_injective_theorems% AO
structure Ent where
 locked:e_
 obj:AO
set_option genCtorIdx false in
inductive Tr where
 |nil
 |node (v:D_ Ent) (l r:Tr)
gen_injective_theorems% Tr
structure St where
 n:a_
 t:Tr
noncomputable def Tr.get:Tr->a_->D_ Ent|.nil,O=>V|.node v l r,i=>if i=0 then v else if i%2=1 then l.get (i/2) else r.get (i/2-1)
noncomputable def Tr.put:Tr->a_->Ent->Tr|.nil,O,o=>.node (f o) .nil .nil|.node v l r,i,o=>if i=0 then .node (f o) l r else if i%2=1 then .node v (l.put (i/2) o) r else .node v l (r.put (i/2-1) o)
theorem hv2{a i:a_}(m:i%2=a%2)(h:i/2=a/2):i=a:=(wi i 2).symm.trans (J h (J m (wi a 2)))
theorem od2{a i:a_}(p:a%2=1)(q:i%2=1):(i/2=a/2)=(i=a):=propext ⟨hv2 (q.trans p.symm),λh=>h▸X⟩
theorem hp2{i:a_}(hi:i≠0)(q:i%2=0):0<i/2:=Nat.pos_of_ne_zero λe=>hi ((wi i 2).symm.trans (J e (J q X)))
theorem ev2{a i:a_}(B:a≠0)(hi:i≠0)(p:¬a%2=1)(q:¬i%2=1):(i/2-1=a/2-1)=(i=a):=
 have p:=Nat.mod_two_ne_one.mp p;have q:=Nat.mod_two_ne_one.mp q
 propext ⟨λh=>hv2 (q.trans p.symm) (Nat.sub_one_cancel (hp2 hi q) (hp2 B p) h),λh=>h▸X⟩
theorem Tr.get_nil(v:D_ Ent)(i:a_):(Tr.node v .nil .nil).get i=if i=0 then v else .none:=by show(if i=0 then v else if i%2=1 then .none else .none)=_;rw[ite_self]
theorem Tr.vS(o:Ent):∀(t:Tr) (a:a_),((t.put a o).get a).isSome=R->∀ i,(t.put a o).get i=if i=a then f o else t.get i:=by
 intro t
 induction t with
 |nil=>
  intro a h i;by_cases B:a=0
  .exact J B (Tr.get_nil (f o) i)
  .exact fT ((c8 L? (ak B)).symm.trans ((c8 L? (Tr.get_nil (f o) a)).symm.trans h))
 |node v l r ihl ihr=>
  intro a h i;by_cases hi:i=0
  .by_cases B:a=0
   .exact J B (J hi X)
   .refine Eq.trans ?_ (ak (λq=>B (q.symm.trans hi):i≠a)).symm;by_cases pa:a%2=1
    .exact J (show(Tr.node v l r).put a o=.node v (l.put (a/2) o) r from(ak B).trans (ai pa)) ((ai hi).trans (ai hi).symm)
    .exact J (show(Tr.node v l r).put a o=.node v l (r.put (a/2-1) o) from(ak B).trans (ak pa)) ((ai hi).trans (ai hi).symm)
  .by_cases B:a=0
   .refine J B (Eq.trans ?_ (ak hi).symm);exact(ak hi).trans (ak hi).symm
   .by_cases pa:a%2=1
    .have e:(Tr.node v l r).put a o=.node v (l.put (a/2) o) r:=(ak B).trans (ai pa);rw[e]at h;refine J e ?_;by_cases pi:i%2=1
     .exact((ak hi).trans (ai pi)).trans (((ihl (a/2) ((c8 L? ((ak B).trans (ai pa))).symm.trans h)) (i/2)).trans (ite_congr (od2 pa pi) (λO=>X) (λO=>((ak hi).trans (ai pi)).symm)))
     .exact((ak hi).trans (ak pi)).trans ((ak (λq:i=a=>pi (q▸pa))).trans ((ak hi).trans (ak pi))).symm
    .have e:(Tr.node v l r).put a o=.node v l (r.put (a/2-1) o):=(ak B).trans (ak pa);rw[e]at h;refine J e ?_;by_cases pi:i%2=1
     .exact((ak hi).trans (ai pi)).trans ((ak (λq:i=a=>pa (q▸pi))).trans ((ak hi).trans (ai pi))).symm
     .exact((ak hi).trans (ak pi)).trans (((ihr (a/2-1) ((c8 L? ((ak B).trans (ak pa))).symm.trans h)) (i/2-1)).trans (ite_congr (ev2 B hi pa pi) (λO=>X) (λO=>((ak hi).trans (ak pi)).symm)))
namespace St
def ent(s:St)(i:a_):D_ Ent:=s.t.get i
noncomputable def get (s:St) (i:a_):D_ AO:=(s.t.get i).map (·.obj)
def flag(s:St)(i:a_):e_:=match s.t.get i with|f e=>e.locked |V=>N'
def getM(s:St)(i:a_):D_ AO:=match s.t.get i with|f ⟨N',o⟩=>f o|_=>V
def JD(s:St)(i:a_)(e:Ent):D_ St:=
 let t:=s.t.put i e
 match (t.get i).isSome with|R=>f ⟨s.n,t⟩|N'=>V
def set(s:St)(i:a_)(o:AO):D_ St:=s.JD i ⟨N',o⟩
def kE(s:St)(i:a_)(b:e_):D_ St:=match s.t.get i with|f e=>s.JD i ⟨b,e.obj⟩ |V=>V
def push(s:St)(o:AO):D_ St:=
 let t:=s.t.put s.n ⟨N',o⟩
 match (t.get s.n).isSome with|R=>f ⟨s.n+1,t⟩|N'=>V
end St
noncomputable def Fh (K':AV->AV->D_ e_):d_ AV->d_ AV->D_ e_|[],[]=>f R|x::Z,y::ys=>(match K' x y with|f p=>(match Fh K' Z ys with|f q=>f (p&&q)|V=>V)|V=>V)|[],O::O'=>f N'|O::O',[]=>f N'
def fk:a_->AV->AV->D_ e_|O,.int a,.int b=>f (decide (a=b))|d+1,.tup a,.tup b=>Fh (fk d) a b|O,O',O''=>V
noncomputable def rY (K' g:AV->AV->D_ e_) (e:e_):d_ AV->d_ AV->D_ e_|x::Z,y::ys=>(match K' x y with|f R=>rY K' g e Z ys|f N'=>g x y|V=>V)|[],O=>f e|O::O',[]=>f e
def kW(gt:e_):a_->AV->AV->D_ e_|O,.int a,.int b=>f (if gt then decide (b<a) else decide (a<b))|d+1,.tup a,.tup b=>rY (fk d) (kW gt d) (if gt then decide (b.length<a.length) else decide (a.length<b.length)) a b|O,O',O''=>V
def ji(x:AV):d_ AV->D_ e_|[]=>f N'|y::ys=>match fk 3 y x with|f p=>(match ji x ys with|f q=>f (p||q)|V=>V)|V=>V
noncomputable def keyOf:d_ AV->D_ (d_ G)
 |[]=>f []
 |.int i::r=>match keyOf r with|f k=>f (i::k) |V=>V
 |_=>V
noncomputable def smallKey:d_ G->e_|[.ofNat i,.ofNat j,.ofNat k]=>s_ i 6&&s_ j 6&&s_ k 6|_=>N'
noncomputable def iH (k:d_ G):AV:=.tup (k.map .int)
noncomputable def jR:d_ (d_ G × AV)->d_ G->D_ AV|[],O=>V|p::r,x=>if p.1=x then f p.2 else jR r x
noncomputable def iI:d_ (d_ G × AV)->d_ G->AV->d_ (d_ G × AV)|[],x,v=>[(x,v)]|p::r,x,v=>if p.1=x then(p.1,v)::r else p::iI r x v
noncomputable def lK:d_ (d_ G × AV)->d_ G->d_ (d_ G × AV)|[],O=>[]|p::r,x=>if p.1=x then r else p::lK r x
inductive AL|add|sub|mul|fdiv|mod|pow
inductive AM|eq|ne|lt|le|gt|ge
inductive BI|abs|len|list|tuple|dict|sum|yC|max2|min2|any|all|int
inductive tA|plain|range|enum|rev
noncomputable abbrev Fn:=St->d_ AV->D_ (St × AV)
set_option genCtorIdx false in
inductive PV where
 |any
 |b (v:AV)
 |tup (Z:d_ PV)
 |list (Z:d_ PV)
 |dict (bJ:d_ (d_ G × AV))
gen_injective_theorems% PV
@[simp] theorem PV.b.injEq (a b):(PV.b a=PV.b b)=(a=b):=propext ⟨λh=>by cases h;rfl,λh=>h▸X⟩
abbrev c9:=d_ (d_ G × Mine.Internal.AV)
abbrev aC:=d_ Mine.Internal.PV
abbrev al:=d_ Mine.Internal.AV
abbrev aA:=d_ G
abbrev cc:=d_ PySem.Addr
abbrev cf:=d_ a_
abbrev dG:=d_ PySem.Value
abbrev fm:=D_ Mine.Internal.PV
abbrev dD:=d_ PySem.Expr
abbrev cM:=PySem.Value->PySem.Shared->Prop
abbrev pS:=U?->D_ PySem.Value
abbrev jS:=a_->e_
abbrev jn:=D_ (Mine.Internal.St × Mine.Internal.AV)
structure gy where
 fn:aC->fm
 fr:e_
 mu:e_
set_option genCtorIdx false in
inductive CE where
 |k (v:AV)
 |glob (x:U?) (v:AV)
 |var (i:a_)
 |bin (o:AL) (a b:CE)
 |neg (a:CE)
 |cmp (o:AM) (a b:CE)
 |isNone (y:e_) (a:CE)
 |isin (y:e_) (a b:CE)
 |and (a b:CE)
 |or (a b:CE)
 |not (a:CE)
 |ite (t a b:CE)
 |call (K':U?) (F:Fn) (P:gy) (as:CE)
 |bi (b:BI) (as:CE)
 |idx (a i:CE)
 |gJ (a k:CE)
 |fq (a k:CE)
 |bc (as:CE)
 |lst (as:CE)
 |gz
 |kX (k v:CE)
 |bq (e:CE) (C':cf) (ik:tA) (it:CE)
 |bR (e:CE) (C':cf) (ik:tA) (it c:CE)
 |dH (e:CE) (C':cf) (ik:tA) (it:CE) (tgt2:cf) (tB:tA) (qF:CE)
 |jT (k v:CE) (C':cf) (ik:tA) (it:CE)
 |bad
 |nil
 |cons (e r:CE)
gen_injective_theorems% CE
set_option genCtorIdx false in
inductive CS where
 |assign (i:a_) (e:CE)
 |bj (is:cf) (e:CE)
 |dd (o:a_) (i e:CE)
 |aug (k:AL) (i:a_) (e:CE)
 |iJ (k:AL) (o:a_) (i e:CE)
 |ret (e:CE)
 |iff (t:CE) (a b:CS)
 |kF (t:CE) (b:CS)
 |gE (C':cf) (ik:tA) (it:CE) (b:CS)
 |cont
 |qt (d:a_) (k:CE)
 |qu (d:a_) (k:CE)
 |append (l:a_) (e:CE)
 |extend (l:a_) (e:CE)
 |sort (l:a_)
 |expr (e:CE)
 |raise
 |skip
 |seq (a b:CS)
gen_injective_theorems% CS
set_option genCtorIdx false in
inductive Fl where
 |next|cont|ret (v:AV)
gen_injective_theorems% Fl
noncomputable def ao:al->a_->AV|[],O=>.ub|x::O,0=>x|O::r,i+1=>ao r i
noncomputable def aE:al->a_->AV->al|[],O,O'=>[]|O::r,0,v=>v::r|x::r,i+1,v=>x::aE r i v
def bindL:cf->al->al->af (al)|[],[],C=>f C|i::is,x::Z,C=>bindL is Z (aE C i x)|O,O',O''=>V
def dr(is:cf)(v:AV)(C:al):af (al):=match is with|[i]=>f (aE C i v)|is=>match v with|.tup Z=>bindL is Z C|_=>V
noncomputable def cmpInt (o:AM) (a b:G):e_:=match o with|.eq=>decide (a=b)|.ne=>!decide (a=b)|.lt=>decide (a<b)|.le=>decide (a<=b)|.gt=>decide (b<a)|.ge=>decide (b<=a)
def fw(s:St)(o:AM)(a b:AV):af e_:=match a,b with
 |.int x,.int y=>f (cmpInt o x y)
 |.tup x,.tup y=>match o with
  |.eq=>fk 3 (.tup x) (.tup y)
  |.ne=>match fk 3 (.tup x) (.tup y) with|f p=>f (!p) |V=>V
  |.lt=>kW N' 3 (.tup x) (.tup y)
  |.gt=>kW R 3 (.tup x) (.tup y)
  |_=>V
 |.str x,.str y=>match o with|.eq=>f (decide (x=y))|_=>V
 |.ref x,.ref y=>match s.get x with|f (.list Z)=>(match s.get y with|f (.list ys)=>(match Z.isEmpty||ys.isEmpty with|R=>(match o with|.eq=>f (Z.isEmpty&&ys.isEmpty)|.ne=>f (!(Z.isEmpty&&ys.isEmpty))|_=>V)|N'=>V)|_=>V)|_=>V
 |O,O'=>V
noncomputable def lim:a_:=1000000
noncomputable def AV.isNone:AV->e_|none=>R|_=>N'
noncomputable def cU (o:AL) (a b:G):af G:=match o with|.add=>f (a+b)|.sub=>f (a-b)|.mul=>if a.natAbs<2^63/\b.natAbs<2^63 then f (a*b) else .none|.fdiv=>if b≠0/\b.natAbs<1073741824 then f (a.fdiv b) else .none|.mod=>if b=0 then .none else f (a.fmod b)|.pow=>match b with|.ofNat n=>if a.natAbs<2^63/\n<=4096 then f (a^n) else .none|_=>V
def ot(s:St)(o:AL)(a b:AV):jn:=match a,b with|.int x,.int y=>(match cU o x y with|f z=>f (s,.int z)|V=>V)|.ref x,.ref y=>(match o with|.add=>(match s.get x,s.get y with|f (.list Z),f (.list ys)=>(if Z.length<=lim/\ys.length<=lim then match s.push (.list (Z++ys)) with|f s'=>f (s',.ref s.n)|V=>V else .none)|O,O'=>V)|_=>V)|.ref x,.int k=>(match o with|.mul=>(match s.get x with|f (.list [.int v])=>(if 0<=k/\k<=1000000 then match s.push (.list (k_ k.toNat (.int v))) with|f s'=>f (s',.ref s.n)|V=>V else .none)|_=>V)|_=>V)|O,O'=>V
def jI(s:St):AV->af (al)|.tup Z=>f Z|.ref n=>(match s.get n with|f (.list Z)=>f Z|f (.dict bJ)=>f (bJ.map λp=>iH p.1)|V=>V)|_=>V
noncomputable def qG:a_->al->al|O,[]=>[]|i,x::r=>.tup [.int i,x]::qG (i+1) r
noncomputable def gY (n:G):al:=(y_ n.toNat).map λ(i:a_)=>.int i
def jc(s:St)(k:tA)(v:AV):af (al × af a_):=match k,v with|.plain,.tup Z=>f (Z,.none)|.plain,.ref n=>(match s.get n with|f (.list Z)=>f (Z,f n)|f (.dict bJ)=>f (bJ.map λp=>iH p.1,f n)|V=>V)|.range,.int n=>if 0<=n/\n<=1000000 then f (gY n,.none) else .none|.enum,.tup Z=>f (qG 0 Z,.none)|.enum,.ref n=>(match s.get n with|f (.list Z)=>f (qG 0 Z,f n)|_=>V)|.rev,.ref n=>(match s.get n with|f (.list Z)=>f (Z.reverse,f n)|_=>V)|O,O'=>V
def lR(s:St):af a_->af St|V=>f s|f i=>s.kE i R
def iK(s:St)(b:e_):af a_->af St|V=>f s|f i=>s.kE i b
def rZ(s:St):af a_->e_|V=>N'|f i=>s.flag i
noncomputable def sumInts:al->G->af G|[],a=>f a|.int i::r,a=>sumInts r (a+i)|O,O'=>V
noncomputable def iL:al->G->af G|[],a=>f a|.int i::r,a=>iL r (if a<i then i else a)|O,O'=>V
noncomputable def boolsOf:al->af (d_ e_)
 |[]=>f []
 |.bool b::r=>match boolsOf r with|f l=>f (b::l) |V=>V
 |_=>V
def jd(s:St)(b:BI)(as:al):jn:=match b with|.abs=>(match as with|[.int i]=>f (s,.int (if i<0 then -i else i))|_=>V)|.int=>(match as with|[.int i]=>f (s,.int i)|_=>V)|.len=>(match as with|[.tup Z]=>if Z.length<=lim then f (s,.int Z.length) else .none|[.ref n]=>(match s.get n with|f (.list Z)=>if Z.length<=lim then f (s,.int Z.length) else .none|f (.dict Z)=>if Z.length<=lim then f (s,.int Z.length) else .none|V=>V)|_=>V)|.list=>(match as with|[.ref n]=>(match s.get n with|f (.list Z)=>(if Z.length<=lim then match s.push (.list Z) with|f s'=>f (s',.ref s.n)|V=>V else .none)|_=>V)|_=>V)|.tuple=>(match as with|[.ref n]=>(match s.get n with|f (.list Z)=>if Z.length<=lim then f (s,.tup Z) else .none|_=>V)|_=>V)|.dict=>(match as with|[.ref n]=>(match s.get n with|f (.dict Z)=>(if Z.length<=lim/\Z.all (λp=>smallKey p.1)=R then match s.push (.dict Z) with|f s'=>f (s',.ref s.n)|V=>V else .none)|_=>V)|_=>V)|.sum=>(match as with|[v]=>(match jI s v with|f Z=>(match sumInts Z 0 with|f z=>f (s,.int z)|V=>V)|V=>V)|_=>V)|.yC=>(match as with|[v]=>(match jI s v with|f (.int x::Z)=>(match iL Z x with|f z=>f (s,.int z)|V=>V)|_=>V)|_=>V)|.max2=>(match as with|[.int a,.int b]=>f (s,.int (if b>a then b else a))|_=>V)|.min2=>(match as with|[.int a,.int b]=>f (s,.int (if b<a then b else a))|_=>V)|.any=>(match as with|[v]=>(match jI s v with|f Z=>(match boolsOf Z with|f l=>f (s,.bool (l.any id))|V=>V)|V=>V)|_=>V)|.all=>match as with|[v]=>(match jI s v with|f Z=>(match boolsOf Z with|f l=>f (s,.bool (l.all id))|V=>V)|V=>V)|_=>V
noncomputable def Mt (Z:al) (i:G):af AV:=match i with|.ofNat n=>Z[n]?|.negSucc n=>if n<Z.length then Z[Z.length-1-n]? else .none
def ib(s:St)(a i:AV):af AV:=match a,i with|.tup Z,.int i=>if Z.length<=lim then Mt Z i else .none|.ref n,.int i=>(match s.get n with|f (.list Z)=>if Z.length<=lim then Mt Z i else .none|_=>V)|.ref n,.tup k=>(match s.get n with|f (.dict bJ)=>(match keyOf k with|f k=>jR bJ k|V=>V)|_=>V)|O,O'=>V
def Ft(s:St)(x c:AV):af e_:=match c with|.tup Z=>ji x Z|.ref n=>(match s.get n with|f (.list Z)=>ji x Z|f (.dict bJ)=>(match x with|.tup k=>(match keyOf k with|f k=>f (jR bJ k).isSome|V=>V)|_=>V)|V=>V)|_=>V
def tC(s:St)(a k:AV):jn:=match a,k with|.tup Z,.int (.ofNat k)=>if k<Z.length/\Z.length<=lim then f (s,.tup (Z.take k)) else .none|.fv Z,.int (.ofNat k)=>(if Z.length<=lim then match s.push (.list ((Z.take k).map .int)) with|f s'=>f (s',.ref s.n)|V=>V else .none)|.ref n,.int (.ofNat k)=>(match s.get n with|f (.list Z)=>(if Z.length<=lim then match s.push (.list (Z.take k)) with|f s'=>f (s',.ref s.n)|V=>V else .none)|_=>V)|O,O'=>V
def oJ(s:St)(a k:AV):jn:=match a,k with|.ref n,.int (.ofNat k)=>(match s.get n with|f (.list Z)=>(if Z.length<=lim then match s.push (.list (Z.drop k)) with|f s'=>f (s',.ref s.n)|V=>V else .none)|_=>V)|O,O'=>V
def jj(s:St)(o:AO):jn:=match s.push o with|f s'=>f (s',.ref s.n)|V=>V
def uS(s:St)(a:a_)(M' v:AV):af St:=match s.getM a with|f (.list Z)=>(match M' with|.int (.ofNat i)=>if i<Z.length/\Z.length<=lim then s.set a (.list (Z.set i v)) else .none|_=>V)|f (.dict bJ)=>(match M' with|.tup k=>(match keyOf k with|f k=>if bJ.length<=lim then s.set a (.dict (iI bJ k v)) else .none|V=>V)|_=>V)|V=>V
end Mine.Internal
end
section
open PySem
namespace Mine.Internal
variable{ha:Sort _}{r:ha}{Y':Prop}{iv:Type _}{u:iv}
theorem Mu{α β:Sort _}{K:α->β}{x:α}{r:β}{Y':Prop}(k:K x=r->Y')(y:α)(z:β)(h:z=K y)(q:x=y)(e:z=r):Y':=k (by subst q;exact dR h e)
section
variable{A ha sl ρ E:Prop}
theorem qH(a:A)(b:ha)(c:sl):A/\ha/\sl:=⟨a,b,c⟩
theorem qI(a:A)(b:ha)(c:sl)(d:ρ):A/\ha/\sl/\ρ:=⟨a,b,c,d⟩
theorem Tq(a:A)(b:ha)(c:sl)(d:ρ)(e:E):A/\ha/\sl/\ρ/\E:=⟨a,b,c,d,e⟩
end
section
variable{α:Sort _}{A ha sl ρ E F:α->Prop}
theorem aK(x:α)(a:A x)(b:ha x):∃ x,A x/\ha x:=⟨x,a,b⟩
theorem kz(x:α)(a:A x)(b:ha x)(c:sl x):∃ x,A x/\ha x/\sl x:=⟨x,a,b,c⟩
theorem Ts(x:α)(a:A x)(b:ha x)(c:sl x)(d:ρ x):∃ x,A x/\ha x/\sl x/\ρ x:=⟨x,a,b,c,d⟩
theorem YM(x:α)(a:A x)(b:ha x)(c:sl x)(d:ρ x)(e:E x):∃ x,A x/\ha x/\sl x/\ρ x/\E x:=⟨x,a,b,c,d,e⟩
theorem Mv(x:α)(a:A x)(b:ha x)(c:sl x)(d:ρ x)(e:E x)(K':F x):∃ x,A x/\ha x/\sl x/\ρ x/\E x/\F x:=⟨x,a,b,c,d,e,K'⟩
end
section
variable{α β:Sort _}{A ha sl ρ E F:α->β->Prop}
theorem uT(x:α)(y:β)(a:A x y):∃ x y,A x y:=⟨x,y,a⟩
theorem uU(x:α)(y:β)(a:A x y)(b:ha x y):∃ x y,A x y/\ha x y:=⟨x,y,a,b⟩
theorem fI(x:α)(y:β)(a:A x y)(b:ha x y)(c:sl x y):∃ x y,A x y/\ha x y/\sl x y:=⟨x,y,a,b,c⟩
theorem qJ(x:α)(y:β)(a:A x y)(b:ha x y)(c:sl x y)(d:ρ x y):∃ x y,A x y/\ha x y/\sl x y/\ρ x y:=⟨x,y,a,b,c,d⟩
theorem r6(x:α)(y:β)(a:A x y)(b:ha x y)(c:sl x y)(d:ρ x y)(e:E x y):∃ x y,A x y/\ha x y/\sl x y/\ρ x y/\E x y:=⟨x,y,a,b,c,d,e⟩
theorem Ia(x:α)(y:β)(a:A x y)(b:ha x y)(c:sl x y)(d:ρ x y)(e:E x y)(K':F x y):∃ x y,A x y/\ha x y/\sl x y/\ρ x y/\E x y/\F x y:=⟨x,y,a,b,c,d,e,K'⟩
end
section
variable{α β γ:Sort _}{A ha sl ρ E F:α->β->γ->Prop}
theorem Mw(x:α)(y:β)(z:γ)(a:A x y z):∃ x y z,A x y z:=⟨x,y,z,a⟩
theorem C4(x:α)(y:β)(z:γ)(a:A x y z)(b:ha x y z)(c:sl x y z):∃ x y z,A x y z/\ha x y z/\sl x y z:=⟨x,y,z,a,b,c⟩
theorem C5(x:α)(y:β)(z:γ)(a:A x y z)(b:ha x y z)(c:sl x y z)(d:ρ x y z):∃ x y z,A x y z/\ha x y z/\sl x y z/\ρ x y z:=⟨x,y,z,a,b,c,d⟩
theorem Mx(x:α)(y:β)(z:γ)(a:A x y z)(b:ha x y z)(c:sl x y z)(d:ρ x y z)(e:E x y z):∃ x y z,A x y z/\ha x y z/\sl x y z/\ρ x y z/\E x y z:=⟨x,y,z,a,b,c,d,e⟩
theorem YN(x:α)(y:β)(z:γ)(a:A x y z)(b:ha x y z)(c:sl x y z)(d:ρ x y z)(e:E x y z)(K':F x y z):∃ x y z,A x y z/\ha x y z/\sl x y z/\ρ x y z/\E x y z/\F x y z:=⟨x,y,z,a,b,c,d,e,K'⟩
end
section
variable{α β γ δ:Sort _}{A ha sl ρ E F j' I aa K:α->β->γ->δ->Prop}
theorem YO(x:α)(y:β)(z:γ)(u:δ)(a:A x y z u):∃ x y z u,A x y z u:=⟨x,y,z,u,a⟩
theorem gA(x:α)(y:β)(z:γ)(u:δ)(a:A x y z u)(b:ha x y z u)(c:sl x y z u):∃ x y z u,A x y z u/\ha x y z u/\sl x y z u:=⟨x,y,z,u,a,b,c⟩
theorem Tt(x:α)(y:β)(z:γ)(u:δ)(a:A x y z u)(b:ha x y z u)(c:sl x y z u)(d:ρ x y z u):∃ x y z u,A x y z u/\ha x y z u/\sl x y z u/\ρ x y z u:=⟨x,y,z,u,a,b,c,d⟩
theorem YQ(x:α)(y:β)(z:γ)(u:δ)(a:A x y z u)(b:ha x y z u)(c:sl x y z u)(d:ρ x y z u)(e:E x y z u):∃ x y z u,A x y z u/\ha x y z u/\sl x y z u/\ρ x y z u/\E x y z u:=⟨x,y,z,u,a,b,c,d,e⟩
theorem YR(x:α)(y:β)(z:γ)(u:δ)(a:A x y z u)(b:ha x y z u)(c:sl x y z u)(d:ρ x y z u)(e:E x y z u)(K':F x y z u):∃ x y z u,A x y z u/\ha x y z u/\sl x y z u/\ρ x y z u/\E x y z u/\F x y z u:=⟨x,y,z,u,a,b,c,d,e,K'⟩
end
section
variable{α β γ δ ε:Sort _}{A ha:α->β->γ->δ->ε->Prop}
theorem Tu(x:α)(y:β)(z:γ)(u:δ)(v:ε)(a:A x y z u v)(b:ha x y z u v):∃ x y z u v,A x y z u v/\ha x y z u v:=⟨x,y,z,u,v,a,b⟩
end
section
variable{α β γ δ ε ζ η:Sort _}{A ha sl ρ E F j':α->β->γ->δ->ε->ζ->η->Prop}
theorem Tv(x:α)(y:β)(z:γ)(u:δ)(v:ε)(w:ζ)(t:η)(a:A x y z u v w t)(b:ha x y z u v w t)(c:sl x y z u v w t)(d:ρ x y z u v w t)(e:E x y z u v w t):∃ x y z u v w t,A x y z u v w t/\ha x y z u v w t/\sl x y z u v w t/\ρ x y z u v w t/\E x y z u v w t:=⟨x,y,z,u,v,w,t,a,b,c,d,e⟩
theorem Tw(x:α)(y:β)(z:γ)(u:δ)(v:ε)(w:ζ)(t:η)(a:A x y z u v w t)(b:ha x y z u v w t)(c:sl x y z u v w t)(d:ρ x y z u v w t)(e:E x y z u v w t)(K':F x y z u v w t):∃ x y z u v w t,A x y z u v w t/\ha x y z u v w t/\sl x y z u v w t/\ρ x y z u v w t/\E x y z u v w t/\F x y z u v w t:=⟨x,y,z,u,v,w,t,a,b,c,d,e,K'⟩
theorem YS(x:α)(y:β)(z:γ)(u:δ)(v:ε)(w:ζ)(t:η)(a:A x y z u v w t)(b:ha x y z u v w t)(c:sl x y z u v w t)(d:ρ x y z u v w t)(e:E x y z u v w t)(K':F x y z u v w t)(g:j' x y z u v w t):∃ x y z u v w t,A x y z u v w t/\ha x y z u v w t/\sl x y z u v w t/\ρ x y z u v w t/\E x y z u v w t/\F x y z u v w t/\j' x y z u v w t:=⟨x,y,z,u,v,w,t,a,b,c,d,e,K',g⟩
end
theorem YU{x:af Ent}{F:AO->af iv}:(∀ a,x=f ⟨N',a⟩->F a=f u->Y')->(match x with|f ⟨N',a⟩=>F a|_=>V)=f u->Y':=by intro k;generalize q:x=z;revert q;rcases z with _|v<;>first|exact nF|rcases v with ⟨w,_⟩<;>first|exact nF|cases w<;>first|exact k _|exact nF
theorem Tx{x:e_}{F j':ha}:(x=R->F=r->Y')->(x=N'->j'=r->Y')->(match x with|R=>F|N'=>j')=r->Y':=by intro k l;generalize q:x=z;revert q;cases z<;>first|exact k|exact l
theorem acE{x y:AV}{F:G->G->af iv}{j':a_->a_->af iv}{K:a_->G->af iv}:(∀ a b,x=.int a->y=.int b->F a b=f u->Y')->(∀ a b,x=.ref a->y=.ref b->j' a b=f u->Y')->(∀ a b,x=.ref a->y=.int b->K a b=f u->Y')->(match x,y with|.int a,.int b=>F a b|.ref a,.ref b=>j' a b|.ref a,.int b=>K a b|_,_=>V)=f u->Y':=by intro k l m;generalize q:x=z;generalize p:y=t;revert q p;cases z<;>first|exact lQ|cases t<;>first|exact k _ _|exact l _ _|exact m _ _|exact lQ
theorem acF{x y:af AO}{F:al->al->af iv}:(∀ a b,x=f (.list a)->y=f (.list b)->F a b=f u->Y')->(match x,y with|f (.list a),f (.list b)=>F a b|_,_=>V)=f u->Y':=by intro k;generalize q:x=z;generalize p:y=t;revert q p;rcases z with _|v<;>first|exact lQ|cases v<;>first|exact lQ|rcases t with _|w<;>first|exact lQ|cases w<;>first|exact k _ _|exact lQ
theorem acG{x:af AO}{F:G->af iv}:(∀ a,x=f (.list [.int a])->F a=f u->Y')->(match x with|f (.list [.int a])=>F a|_=>V)=f u->Y':=by intro k;generalize q:x=z;revert q;rcases z with _|v<;>first|exact nF|rcases v with w|_<;>first|exact nF|rcases w with _|⟨g,i⟩<;>first|exact nF|cases g<;>first|exact nF|rcases i with _|⟨_,_⟩<;>first|exact k _|exact nF
theorem YV{x:G}{F:a_->af iv}:(∀ a,x=.ofNat a->F a=f u->Y')->(match x with|.ofNat a=>F a|_=>V)=f u->Y':=by intro k;generalize q:x=z;revert q;cases z<;>first|exact k _|exact nF
theorem YW{x:AL}{F:af iv}:(x=.mul->F=f u->Y')->(match x with|.mul=>F|_=>V)=f u->Y':=by intro k;generalize q:x=z;revert q;cases z<;>first|exact k|exact nF
theorem YX{x:AL}{F:af iv}:(x=.add->F=f u->Y')->(match x with|.add=>F|_=>V)=f u->Y':=by intro k;generalize q:x=z;revert q;cases z<;>first|exact k|exact nF
theorem YY{x y:AV}{F:G->G->af iv}{j':al->al->af iv}{K:a_->a_->af iv}{vs:a_->a_->af iv}:(∀ a b,x=.int a->y=.int b->F a b=f u->Y')->(∀ a b,x=.tup a->y=.tup b->j' a b=f u->Y')->(∀ a b,x=.str a->y=.str b->K a b=f u->Y')->(∀ a b,x=.ref a->y=.ref b->vs a b=f u->Y')->(match x,y with|.int a,.int b=>F a b|.tup a,.tup b=>j' a b|.str a,.str b=>K a b|.ref a,.ref b=>vs a b|_,_=>V)=f u->Y':=by intro k l m n;generalize q:x=z;generalize p:y=t;revert q p;cases z<;>first|exact lQ|cases t<;>first|exact k _ _|exact l _ _|exact m _ _|exact n _ _|exact lQ
theorem YZ{x:AM}{F j':af iv}{K:af iv}{vs:af iv}:(x=.eq->F=f u->Y')->(x=.ne->j'=f u->Y')->(x=.lt->K=f u->Y')->(x=.gt->vs=f u->Y')->(match x with|.eq=>F|.ne=>j' | .lt=>K|.gt=>vs|_=>V)=f u->Y':=by intro k l m n;generalize q:x=z;revert q;cases z<;>first|exact k|exact l|exact m|exact n|exact nF
theorem Y0{x:AM}{F j':af iv}:(x=.eq->F=f u->Y')->(x=.ne->j'=f u->Y')->(match x with|.eq=>F|.ne=>j'|_=>V)=f u->Y':=by intro k l;generalize q:x=z;revert q;cases z<;>first|exact k|exact l|exact nF
theorem Y1{x:AM}{F:af iv}:(x=.eq->F=f u->Y')->(match x with|.eq=>F|_=>V)=f u->Y':=by intro k;generalize q:x=z;revert q;cases z<;>first|exact k|exact nF
theorem lS{x:af AO}{F:al->af iv}:(∀ a,x=f (.list a)->F a=f u->Y')->(match x with|f (.list a)=>F a|_=>V)=f u->Y':=by intro k;generalize q:x=z;revert q;rcases z with _|v<;>first|exact nF|cases v<;>first|exact k _|exact nF
theorem Y2{x:af AO}{F:al->e_}:(∀ a,x=f (.list a)->F a=R->Y')->(match x with|f (.list a)=>F a|_=>N')=R->Y':=by intro k;generalize q:x=z;revert q;rcases z with _|v<;>first|exact fF|cases v<;>first|exact k _|exact fF
theorem Y3{x y:AV}{F:a_->a_->af iv}:(∀ a b,x=.ref a->y=.int (.ofNat b)->F a b=f u->Y')->(match x,y with|.ref a,.int (.ofNat b)=>F a b|_,_=>V)=f u->Y':=by intro k;generalize q:x=z;generalize p:y=t;revert q p;cases z<;>first|exact lQ|rcases t with _|_|_|v|_|_|_|_<;>first|exact lQ|cases v<;>first|exact k _ _|exact lQ
theorem Ib{x:af AO}{F:c9->af iv}:(∀ a,x=f (.dict a)->F a=f u->Y')->(match x with|f (.dict a)=>F a|_=>V)=f u->Y':=by intro k;generalize q:x=z;revert q;rcases z with _|v<;>first|exact nF|cases v<;>first|exact k _|exact nF
theorem Y4{x:af AO}{F:c9->e_}:(∀ a,x=f (.dict a)->F a=R->Y')->(match x with|f (.dict a)=>F a|_=>N')=R->Y':=by intro k;generalize q:x=z;revert q;rcases z with _|v<;>first|exact fF|cases v<;>first|exact k _|exact fF
theorem Y5{x y:AV}{F:al->a_->af iv}{j':aA->a_->af iv}{K:a_->a_->af iv}:(∀ a b,x=.tup a->y=.int (.ofNat b)->F a b=f u->Y')->(∀ a b,x=.fv a->y=.int (.ofNat b)->j' a b=f u->Y')->(∀ a b,x=.ref a->y=.int (.ofNat b)->K a b=f u->Y')->(match x,y with|.tup a,.int (.ofNat b)=>F a b|.fv a,.int (.ofNat b)=>j' a b|.ref a,.int (.ofNat b)=>K a b|_,_=>V)=f u->Y':=by intro k l m;generalize q:x=z;generalize p:y=t;revert q p;cases z<;>first|exact lQ|(rcases t with _|_|_|v|_|_|_|_<;>first|exact lQ|(cases v<;>(first|exact k _ _|exact l _ _|exact m _ _|exact lQ)))|(rcases t with _|_|_|w|_|_|_|_<;>first|exact lQ|(cases w<;>(first|exact k _ _|exact l _ _|exact m _ _|exact lQ)))|(rcases t with _|_|_|g|_|_|_|_<;>first|exact lQ|(cases g<;>(first|exact k _ _|exact l _ _|exact m _ _|exact lQ)))
theorem Y6{x y:AV}{F:al->G->af iv}{j':a_->G->af iv}{K:a_->al->af iv}:(∀ a b,x=.tup a->y=.int b->F a b=f u->Y')->(∀ a b,x=.ref a->y=.int b->j' a b=f u->Y')->(∀ a b,x=.ref a->y=.tup b->K a b=f u->Y')->(match x,y with|.tup a,.int b=>F a b|.ref a,.int b=>j' a b|.ref a,.tup b=>K a b|_,_=>V)=f u->Y':=by intro k l m;generalize q:x=z;generalize p:y=t;revert q p;cases z<;>first|exact lQ|cases t<;>first|exact k _ _|exact l _ _|exact m _ _|exact lQ
theorem Y7{x:aA}{F:a_->a_->a_->e_}:(∀ a b c,x=[.ofNat a,.ofNat b,.ofNat c]->F a b c=R->Y')->(match x with|[.ofNat a,.ofNat b,.ofNat c]=>F a b c|_=>N')=R->Y':=by intro k;generalize q:x=z;revert q;rcases z with _|⟨v,w⟩<;>first|exact fF|cases v<;>first|exact fF|rcases w with _|⟨g,i⟩<;>first|exact fF|cases g<;>first|exact fF|rcases i with _|⟨j,s⟩<;>first|exact fF|cases j<;>first|exact fF|rcases s with _|⟨_,_⟩<;>first|exact k _ _ _|exact fF
theorem My{x:al}{F:a_->af iv}:(∀ a,x=[.ref a]->F a=f u->Y')->(match x with|[.ref a]=>F a|_=>V)=f u->Y':=by intro k;generalize q:x=z;revert q;rcases z with _|⟨v,w⟩<;>first|exact nF|cases v<;>first|exact nF|rcases w with _|⟨_,_⟩<;>first|exact k _|exact nF
theorem Y8{x:al}{F:al->af iv}{j':a_->af iv}:(∀ a,x=[.tup a]->F a=f u->Y')->(∀ a,x=[.ref a]->j' a=f u->Y')->(match x with|[.tup a]=>F a|[.ref a]=>j' a|_=>V)=f u->Y':=by intro k l;generalize q:x=z;revert q;rcases z with _|⟨v,w⟩<;>first|exact nF|cases v<;>first|exact nF|rcases w with _|⟨_,_⟩<;>first|exact k _|exact l _|exact nF
theorem Tz{x:al}{F:G->af iv}:(∀ a,x=[.int a]->F a=f u->Y')->(match x with|[.int a]=>F a|_=>V)=f u->Y':=by intro k;generalize q:x=z;revert q;rcases z with _|⟨v,w⟩<;>first|exact nF|cases v<;>first|exact nF|rcases w with _|⟨_,_⟩<;>first|exact k _|exact nF
theorem TA{x:af AV}{F:G->af iv}:(∀ a,x=f (.int a)->F a=f u->Y')->(match x with|f (.int a)=>F a|_=>V)=f u->Y':=by intro k;generalize q:x=z;revert q;rcases z with _|v<;>first|exact nF|cases v<;>first|exact k _|exact nF
theorem Ic{x:al}{F:AV->af iv}:(∀ a,x=[a]->F a=f u->Y')->(match x with|[a]=>F a|_=>V)=f u->Y':=by intro k;generalize q:x=z;revert q;rcases z with _|⟨_,v⟩<;>first|exact nF|rcases v with _|⟨_,_⟩<;>first|exact k _|exact nF
theorem TB{x:af (al)}{F:G->al->af iv}:(∀ a b,x=f (.int a::b)->F a b=f u->Y')->(match x with|f (.int a::b)=>F a b|_=>V)=f u->Y':=by intro k;generalize q:x=z;revert q;rcases z with _|v<;>first|exact nF|rcases v with _|⟨w,_⟩<;>first|exact nF|cases w<;>first|exact k _ _|exact nF
theorem TG{x:al}{F:G->G->af iv}:(∀ a b,x=[.int a,.int b]->F a b=f u->Y')->(match x with|[.int a,.int b]=>F a b|_=>V)=f u->Y':=by intro k;generalize q:x=z;revert q;rcases z with _|⟨v,w⟩<;>first|exact nF|cases v<;>first|exact nF|rcases w with _|⟨g,i⟩<;>first|exact nF|cases g<;>first|exact nF|rcases i with _|⟨_,_⟩<;>first|exact k _ _|exact nF
theorem uV{x:AV}{F:al->af iv}:(∀ a,x=.tup a->F a=f u->Y')->(match x with|.tup a=>F a|_=>V)=f u->Y':=by intro k;generalize q:x=z;revert q;cases z<;>first|exact k _|exact nF
theorem TH{x:AV}{F:a_->af iv}:(∀ a,x=.int (.ofNat a)->F a=f u->Y')->(match x with|.int (.ofNat a)=>F a|_=>V)=f u->Y':=by intro k;generalize q:x=z;revert q;rcases z with _|_|_|v|_|_|_|_<;>first|exact nF|cases v<;>first|exact k _|exact nF
theorem Y9{x:AV}{F:a_->af iv}:(∀ a,x=.ref a->F a=f u->Y')->(match x with|.ref a=>F a|_=>V)=f u->Y':=by intro k;generalize q:x=z;revert q;cases z<;>first|exact k _|exact nF
theorem Za{x y:af e_}{F:e_}:(x=f N'->y=f R->F=R->Y')->(match x,y with|f N',f R=>F|_,_=>N')=R->Y':=by intro k;generalize q:x=z;generalize p:y=t;revert q p;rcases z with _|v<;>first|exact X5|cases v<;>first|exact X5|rcases t with _|w<;>first|exact X5|cases w<;>first|exact k|exact X5
theorem Zb{x:al}{F:e_}{j':AV->al->al->e_}:(x=[]->F=R->Y')->(∀ a b c,x=.tup (a::b)::c->j' a b c=R->Y')->(match x with|[]=>F|.tup (a::b)::c=>j' a b c|_=>N')=R->Y':=by intro k l;generalize q:x=z;revert q;rcases z with _|⟨v,_⟩<;>first|exact k|exact l _ _ _|exact fF|rcases v with _|_|_|_|_|w|_|_<;>first|exact k|exact l _ _ _|exact fF|rcases w with _|⟨_,_⟩<;>first|exact k|exact l _ _ _|exact fF
theorem TI{x:af (av × av × av × dD × I_)}{F:av->av->av->I_->e_}:(∀ a b c d,x=f (a,b,c,[],d)->F a b c d=R->Y')->(match x with|f (a,b,c,[],d)=>F a b c d|_=>N')=R->Y':=by intro k;generalize q:x=z;revert q;rcases z with _|v<;>first|exact fF|rcases v with ⟨_,g⟩<;>rcases g with ⟨_,j⟩<;>rcases j with ⟨_,w7⟩<;>rcases w7 with ⟨w8,_⟩<;>rcases w8 with _|⟨_,_⟩<;>first|exact k _ _ _ _|exact fF
theorem TJ{x:jn}{F j':St->af iv}:(∀ a,x=f (a,.bool N')->F a=f u->Y')->(∀ a,x=f (a,.bool R)->j' a=f u->Y')->(match x with|f (a,.bool N')=>F a|f (a,.bool R)=>j' a|_=>V)=f u->Y':=by intro k l;generalize q:x=z;revert q;rcases z with _|v<;>first|exact nF|rcases v with ⟨_,g⟩<;>rcases g with _|_|i|_|_|_|_|_<;>first|exact nF|cases i<;>first|exact k _|exact l _|exact nF
theorem C6{x:jn}{F:St->G->af iv}:(∀ a b,x=f (a,.int b)->F a b=f u->Y')->(match x with|f (a,.int b)=>F a b|_=>V)=f u->Y':=by intro k;generalize q:x=z;revert q;rcases z with _|v<;>first|exact nF|rcases v with ⟨_,g⟩<;>cases g<;>first|exact k _ _|exact nF
theorem qK{x:jn}{F:St->al->af iv}:(∀ a b,x=f (a,.tup b)->F a b=f u->Y')->(match x with|f (a,.tup b)=>F a b|_=>V)=f u->Y':=by intro k;generalize q:x=z;revert q;rcases z with _|v<;>first|exact nF|rcases v with ⟨_,g⟩<;>cases g<;>first|exact k _ _|exact nF
theorem Zc{x:AV}{y:Const}{F:e_}{j':e_->e_->e_}{K:G->G->e_}{vs:a_->o_->e_}:(x=.none->y=.none->F=R->Y')->(∀ a b,x=.bool a->y=.bool b->j' a b=R->Y')->(∀ a b,x=.int a->y=.int b->K a b=R->Y')->(∀ a b,x=.str a->y=.str b->vs a b=R->Y')->(match x,y with|.none,.none=>F|.bool a,.bool b=>j' a b|.int a,.int b=>K a b|.str a,.str b=>vs a b|_,_=>N')=R->Y':=by intro k l m n;generalize q:x=z;generalize p:y=t;revert q p;cases z<;>first|exact X5|cases t<;>first|exact k|exact l _ _|exact m _ _|exact n _ _|exact X5
theorem Zd{x:af (BoolOp × dD × Pos)}{F:av->av->dD->Pos->e_}:(∀ a b c d,x=f (.And,a::b::c,d)->F a b c d=R->Y')->(match x with|f (.And,a::b::c,d)=>F a b c d|_=>N')=R->Y':=by intro k;generalize q:x=z;revert q;rcases z with _|v<;>first|exact fF|rcases v with ⟨w,g⟩<;>cases w<;>first|exact fF|rcases g with ⟨i,_⟩<;>rcases i with _|⟨_,s⟩<;>first|exact fF|rcases s with _|⟨_,_⟩<;>first|exact k _ _ _ _|exact fF
theorem r7{x:jn}{F j':St->af iv}:(∀ a,x=f (a,.bool R)->F a=f u->Y')->(∀ a,x=f (a,.bool N')->j' a=f u->Y')->(match x with|f (a,.bool R)=>F a|f (a,.bool N')=>j' a|_=>V)=f u->Y':=by intro k l;generalize q:x=z;revert q;rcases z with _|v<;>first|exact nF|rcases v with ⟨_,g⟩<;>rcases g with _|_|i|_|_|_|_|_<;>first|exact nF|cases i<;>first|exact k _|exact l _|exact nF
theorem TK{x:jn}{F:St->e_->af iv}:(∀ a b,x=f (a,.bool b)->F a b=f u->Y')->(match x with|f (a,.bool b)=>F a b|_=>V)=f u->Y':=by intro k;generalize q:x=z;revert q;rcases z with _|v<;>first|exact nF|rcases v with ⟨_,g⟩<;>cases g<;>first|exact k _ _|exact nF
theorem Mz{x:af (av × av × av × dD × I_)}{F:av->av->av->av->I_->e_}:(∀ a b c d e,x=f (a,b,c,[d],e)->F a b c d e=R->Y')->(match x with|f (a,b,c,[d],e)=>F a b c d e|_=>N')=R->Y':=by intro k;generalize q:x=z;revert q;rcases z with _|v<;>first|exact fF|rcases v with ⟨_,g⟩<;>rcases g with ⟨_,j⟩<;>rcases j with ⟨_,w7⟩<;>rcases w7 with ⟨w8,_⟩<;>rcases w8 with _|⟨_,w10⟩<;>first|exact fF|rcases w10 with _|⟨_,_⟩<;>first|exact k _ _ _ _ _|exact fF
theorem U2{x:af (BoolOp × dD × Pos)}{F:av->av->dD->Pos->e_}:(∀ a b c d,x=f (.Or,a::b::c,d)->F a b c d=R->Y')->(match x with|f (.Or,a::b::c,d)=>F a b c d|_=>N')=R->Y':=by intro k;generalize q:x=z;revert q;rcases z with _|v<;>first|exact fF|rcases v with ⟨w,g⟩<;>cases w<;>first|exact fF|rcases g with ⟨i,_⟩<;>rcases i with _|⟨_,s⟩<;>first|exact fF|rcases s with _|⟨_,_⟩<;>first|exact k _ _ _ _|exact fF
theorem MA{x:cf}{F:a_->ha}{j':cf->ha}:(∀ a,x=[a]->F a=r->Y')->(j' x=r->Y')->(match x with|[a]=>F a|a=>j' a)=r->Y':=by intro k l;have h2:=Mu l;generalize q:x=z;revert q;rcases z with _|⟨_,v⟩<;>first|exact h2 _ _ X|rcases v with _|⟨_,_⟩<;>first|exact k _|exact h2 _ _ X
theorem U3{x:af (o_ × dD)}{F:o_->av->af iv}:(∀ a b,x=f (a,[b])->F a b=f u->Y')->(match x with|f (a,[b])=>F a b|_=>V)=f u->Y':=by intro k;generalize q:x=z;revert q;rcases z with _|v<;>first|exact nF|rcases v with ⟨_,g⟩<;>rcases g with _|⟨_,i⟩<;>first|exact nF|rcases i with _|⟨_,_⟩<;>first|exact k _ _|exact nF
theorem Fu{x:af (av × dD)}{F:av->av->e_}:(∀ a b,x=f (a,[b])->F a b=R->Y')->(match x with|f (a,[b])=>F a b|_=>N')=R->Y':=by intro k;generalize q:x=z;revert q;rcases z with _|v<;>first|exact fF|rcases v with ⟨_,g⟩<;>rcases g with _|⟨_,i⟩<;>first|exact fF|rcases i with _|⟨_,_⟩<;>first|exact k _ _|exact fF
theorem iM{x:jn}{F:St->a_->af iv}:(∀ a b,x=f (a,.ref b)->F a b=f u->Y')->(match x with|f (a,.ref b)=>F a b|_=>V)=f u->Y':=by intro k;generalize q:x=z;revert q;rcases z with _|v<;>first|exact nF|rcases v with ⟨_,g⟩<;>cases g<;>first|exact k _ _|exact nF
theorem U4{x:af (av × dD)}{F:av->e_}:(∀ a,x=f (a,[])->F a=R->Y')->(match x with|f (a,[])=>F a|_=>N')=R->Y':=by intro k;generalize q:x=z;revert q;rcases z with _|v<;>first|exact fF|rcases v with ⟨_,g⟩<;>rcases g with _|⟨_,_⟩<;>first|exact k _|exact fF
theorem U5{x:af (av × dD)}{F:av->av->av->e_}:(∀ a b c,x=f (a,[b,c])->F a b c=R->Y')->(match x with|f (a,[b,c])=>F a b c|_=>N')=R->Y':=by intro k;generalize q:x=z;revert q;rcases z with _|v<;>first|exact fF|rcases v with ⟨_,g⟩<;>rcases g with _|⟨_,i⟩<;>first|exact fF|rcases i with _|⟨_,j⟩<;>first|exact fF|rcases j with _|⟨_,_⟩<;>first|exact k _ _ _|exact fF
theorem MC{x:AV}{F:G->af iv}:(∀ a,x=.int a->F a=f u->Y')->(match x with|.int a=>F a|_=>V)=f u->Y':=by intro k;generalize q:x=z;revert q;cases z<;>first|exact k _|exact nF
theorem Ze{x:af (St × al × Fl)}{F:St->al->ha}{j':af (St × al × Fl)->ha}:(∀ a b,x=f (a,b,.next)->F a b=r->Y')->(j' x=r->Y')->(match x with|f (a,b,.next)=>F a b|a=>j' a)=r->Y':=by intro k l;have h2:=Mu l;generalize q:x=z;revert q;rcases z with _|v<;>first|exact h2 _ _ X|rcases v with ⟨_,g⟩<;>rcases g with ⟨_,j⟩<;>cases j<;>first|exact k _ _|exact h2 _ _ X
theorem U6{x:af (St × al × Fl)}{F:St->al->AV->af iv}{j':St->al->af iv}:(∀ a b c,x=f (a,b,.ret c)->F a b c=f u->Y')->(∀ a b,x=f (a,b,.next)->j' a b=f u->Y')->(match x with|f (a,b,.ret c)=>F a b c|f (a,b,.next)=>j' a b|_=>V)=f u->Y':=by intro k l;generalize q:x=z;revert q;rcases z with _|v<;>first|exact nF|rcases v with ⟨_,g⟩<;>rcases g with ⟨_,j⟩<;>cases j<;>first|exact k _ _ _|exact l _ _|exact nF
theorem MD{x:PV}{F:al->af iv}{j':aC->af iv}:(∀ a,x=.b (.tup a)->F a=f u->Y')->(∀ a,x=.tup a->j' a=f u->Y')->(match x with|.b (.tup a)=>F a|.tup a=>j' a|_=>V)=f u->Y':=by intro k l;generalize q:x=z;revert q;rcases z with _|v|_|_|_<;>first|exact k _|exact l _|exact nF|cases v<;>first|exact k _|exact l _|exact nF
theorem Fv{x:PV}{F:AV->af iv}:(∀ a,x=.b a->F a=f u->Y')->(match x with|.b a=>F a|_=>V)=f u->Y':=by intro k;generalize q:x=z;revert q;cases z<;>first|exact k _|exact nF
theorem ME{x:aC}{F:G->af iv}:(∀ a,x=[.b (.int a)]->F a=f u->Y')->(match x with|[.b (.int a)]=>F a|_=>V)=f u->Y':=by intro k;generalize q:x=z;revert q;rcases z with _|⟨v,w⟩<;>first|exact nF|rcases v with _|g|_|_|_<;>first|exact nF|cases g<;>first|exact nF|rcases w with _|⟨_,_⟩<;>first|exact k _|exact nF
theorem U7{x:aC}{F:al->af iv}{j':aC->af iv}{K:c9->af iv}:(∀ a,x=[.b (.tup a)]->F a=f u->Y')->(∀ a,x=[.list a]->j' a=f u->Y')->(∀ a,x=[.dict a]->K a=f u->Y')->(match x with|[.b (.tup a)]=>F a|[.list a]=>j' a|[.dict a]=>K a|_=>V)=f u->Y':=by intro k l m;generalize q:x=z;revert q;rcases z with _|⟨v,w⟩<;>first|exact nF|(rcases v with _|g|_|_|_<;>first|exact nF|(cases g<;>first|exact nF|(rcases w with _|⟨_,_⟩<;>(first|exact k _|exact l _|exact m _|exact nF)))|(rcases w with _|⟨_,_⟩<;>(first|exact k _|exact l _|exact m _|exact nF)))
theorem U8{x:aC}{F:c9->af iv}:(∀ a,x=[.dict a]->F a=f u->Y')->(match x with|[.dict a]=>F a|_=>V)=f u->Y':=by intro k;generalize q:x=z;revert q;rcases z with _|⟨v,w⟩<;>first|exact nF|cases v<;>first|exact nF|rcases w with _|⟨_,_⟩<;>first|exact k _|exact nF
theorem MF{x:PV}{F:al->af iv}{j':aC->af iv}{K:c9->af iv}:(∀ a,x=.b (.tup a)->F a=f u->Y')->(∀ a,x=.list a->j' a=f u->Y')->(∀ a,x=.dict a->K a=f u->Y')->(match x with|.b (.tup a)=>F a|.list a=>j' a|.dict a=>K a|_=>V)=f u->Y':=by intro k l m;generalize q:x=z;revert q;rcases z with _|v|_|_|_<;>first|exact k _|exact l _|exact m _|exact nF|cases v<;>first|exact k _|exact l _|exact m _|exact nF
theorem U9{x y:PV}{F:aC->a_->af iv}:(∀ a b,x=.list a->y=.b (.int (.ofNat b))->F a b=f u->Y')->(match x,y with|.list a,.b (.int (.ofNat b))=>F a b|_,_=>V)=f u->Y':=by intro k;generalize q:x=z;generalize p:y=t;revert q p;cases z<;>first|exact lQ|rcases t with _|v|_|_|_<;>first|exact lQ|rcases v with _|_|_|w|_|_|_|_<;>first|exact lQ|cases w<;>first|exact k _ _|exact lQ
theorem Va{x y:PV}{F:al->G->af iv}{j':aC->G->af iv}{K:aC->G->af iv}{vs:c9->al->af iv}:(∀ a b,x=.b (.tup a)->y=.b (.int b)->F a b=f u->Y')->(∀ a b,x=.tup a->y=.b (.int b)->j' a b=f u->Y')->(∀ a b,x=.list a->y=.b (.int b)->K a b=f u->Y')->(∀ a b,x=.dict a->y=.b (.tup b)->vs a b=f u->Y')->(match x,y with|.b (.tup a),.b (.int b)=>F a b|.tup a,.b (.int b)=>j' a b|.list a,.b (.int b)=>K a b|.dict a,.b (.tup b)=>vs a b|_,_=>V)=f u->Y':=by intro k l m n;generalize q:x=z;generalize p:y=t;revert q p;rcases z with _|v|_|_|_<;>first|exact lQ|(cases v<;>first|exact lQ|(rcases t with _|w|_|_|_<;>first|exact lQ|(cases w<;>(first|exact k _ _|exact l _ _|exact m _ _|exact n _ _|exact lQ))))|(rcases t with _|g|_|_|_<;>first|exact lQ|(cases g<;>(first|exact k _ _|exact l _ _|exact m _ _|exact n _ _|exact lQ)))|(rcases t with _|i|_|_|_<;>first|exact lQ|(cases i<;>(first|exact k _ _|exact l _ _|exact m _ _|exact n _ _|exact lQ)))|(rcases t with _|j|_|_|_<;>first|exact lQ|(cases j<;>(first|exact k _ _|exact l _ _|exact m _ _|exact n _ _|exact lQ)))
theorem MG{x:aC}{F:G->G->af iv}:(∀ a b,x=[.b (.int a),.b (.int b)]->F a b=f u->Y')->(match x with|[.b (.int a),.b (.int b)]=>F a b|_=>V)=f u->Y':=by intro k;generalize q:x=z;revert q;rcases z with _|⟨v,w⟩<;>first|exact nF|rcases v with _|g|_|_|_<;>first|exact nF|cases g<;>first|exact nF|rcases w with _|⟨i,j⟩<;>first|exact nF|rcases i with _|s|_|_|_<;>first|exact nF|cases s<;>first|exact nF|rcases j with _|⟨_,_⟩<;>first|exact k _ _|exact nF
theorem MH{x:aC}{F:aC->af iv}:(∀ a,x=[.list a]->F a=f u->Y')->(match x with|[.list a]=>F a|_=>V)=f u->Y':=by intro k;generalize q:x=z;revert q;rcases z with _|⟨v,w⟩<;>first|exact nF|cases v<;>first|exact nF|rcases w with _|⟨_,_⟩<;>first|exact k _|exact nF
theorem AN{x:aC}{F:PV->af iv}:(∀ a,x=[a]->F a=f u->Y')->(match x with|[a]=>F a|_=>V)=f u->Y':=by intro k;generalize q:x=z;revert q;rcases z with _|⟨_,v⟩<;>first|exact nF|rcases v with _|⟨_,_⟩<;>first|exact k _|exact nF
theorem Vb{x y:PV}{F:AV->AV->af iv}{j':aC->aC->af iv}:(∀ a b,x=.b a->y=.b b->F a b=f u->Y')->(∀ a b,x=.list a->y=.list b->j' a b=f u->Y')->(match x,y with|.b a,.b b=>F a b|.list a,.list b=>j' a b|_,_=>V)=f u->Y':=by intro k l;generalize q:x=z;generalize p:y=t;revert q p;cases z<;>first|exact lQ|cases t<;>first|exact k _ _|exact l _ _|exact lQ
theorem Vc{x y:PV}{F:al->a_->af iv}{j':aC->a_->af iv}:(∀ a b,x=.b (.tup a)->y=.b (.int (.ofNat b))->F a b=f u->Y')->(∀ a b,x=.list a->y=.b (.int (.ofNat b))->j' a b=f u->Y')->(match x,y with|.b (.tup a),.b (.int (.ofNat b))=>F a b|.list a,.b (.int (.ofNat b))=>j' a b|_,_=>V)=f u->Y':=by intro k l;generalize q:x=z;generalize p:y=t;revert q p;rcases z with _|v|_|_|_<;>first|exact lQ|(cases v<;>first|exact lQ|(rcases t with _|w|_|_|_<;>first|exact lQ|(rcases w with _|_|_|g|_|_|_|_<;>first|exact lQ|(cases g<;>(first|exact k _ _|exact l _ _|exact lQ)))))|(rcases t with _|i|_|_|_<;>first|exact lQ|(rcases i with _|_|_|j|_|_|_|_<;>first|exact lQ|(cases j<;>(first|exact k _ _|exact l _ _|exact lQ))))
theorem Vd{x:fm}{F j':af iv}:(x=f (.b (.bool N'))->F=f u->Y')->(x=f (.b (.bool R))->j'=f u->Y')->(match x with|f (.b (.bool N'))=>F|f (.b (.bool R))=>j'|_=>V)=f u->Y':=by intro k l;generalize q:x=z;revert q;rcases z with _|v<;>first|exact nF|rcases v with _|w|_|_|_<;>first|exact nF|rcases w with _|_|g|_|_|_|_|_<;>first|exact nF|cases g<;>first|exact k|exact l|exact nF
theorem Zf{x:PV}{F j':ha}{K:PV->ha}:(x=.any->F=r->Y')->(x=.b .ub->j'=r->Y')->(K x=r->Y')->(match x with|.any=>F|.b .ub=>j'|a=>K a)=r->Y':=by intro k l m;have h2:=Mu m;generalize q:x=z;revert q;rcases z with _|v|_|_|_<;>first|exact k|exact l|exact h2 _ _ X|cases v<;>first|exact k|exact l|exact h2 _ _ X
theorem qV{x:fm}{F:aC->af iv}:(∀ a,x=f (.tup a)->F a=f u->Y')->(match x with|f (.tup a)=>F a|_=>V)=f u->Y':=by intro k;generalize q:x=z;revert q;rcases z with _|v<;>first|exact nF|cases v<;>first|exact k _|exact nF
theorem AP{x:fm}{F:G->af iv}:(∀ a,x=f (.b (.int a))->F a=f u->Y')->(match x with|f (.b (.int a))=>F a|_=>V)=f u->Y':=by intro k;generalize q:x=z;revert q;rcases z with _|v<;>first|exact nF|rcases v with _|w|_|_|_<;>first|exact nF|cases w<;>first|exact k _|exact nF
theorem oK{x:fm}{F:AV->af iv}:(∀ a,x=f (.b a)->F a=f u->Y')->(match x with|f (.b a)=>F a|_=>V)=f u->Y':=by intro k;generalize q:x=z;revert q;rcases z with _|v<;>first|exact nF|cases v<;>first|exact k _|exact nF
theorem MI{x:fm}{F:al->af iv}:(∀ a,x=f (.b (.tup a))->F a=f u->Y')->(match x with|f (.b (.tup a))=>F a|_=>V)=f u->Y':=by intro k;generalize q:x=z;revert q;rcases z with _|v<;>first|exact nF|rcases v with _|w|_|_|_<;>first|exact nF|cases w<;>first|exact k _|exact nF
theorem tD{x:fm}{F j':af iv}:(x=f (.b (.bool R))->F=f u->Y')->(x=f (.b (.bool N'))->j'=f u->Y')->(match x with|f (.b (.bool R))=>F|f (.b (.bool N'))=>j'|_=>V)=f u->Y':=by intro k l;generalize q:x=z;revert q;rcases z with _|v<;>first|exact nF|rcases v with _|w|_|_|_<;>first|exact nF|rcases w with _|_|g|_|_|_|_|_<;>first|exact nF|cases g<;>first|exact k|exact l|exact nF
theorem Ve{x:fm}{F:e_->af iv}:(∀ a,x=f (.b (.bool a))->F a=f u->Y')->(match x with|f (.b (.bool a))=>F a|_=>V)=f u->Y':=by intro k;generalize q:x=z;revert q;rcases z with _|v<;>first|exact nF|rcases v with _|w|_|_|_<;>first|exact nF|cases w<;>first|exact k _|exact nF
theorem Fw{x:PV}{F:aC->af iv}:(∀ a,x=.list a->F a=f u->Y')->(match x with|.list a=>F a|_=>V)=f u->Y':=by intro k;generalize q:x=z;revert q;cases z<;>first|exact k _|exact nF
theorem Vf{x:fm}{F:aC->af iv}:(∀ a,x=f (.list a)->F a=f u->Y')->(match x with|f (.list a)=>F a|_=>V)=f u->Y':=by intro k;generalize q:x=z;revert q;rcases z with _|v<;>first|exact nF|cases v<;>first|exact k _|exact nF
theorem Vg{x:fm}{F:aC->e_}:(∀ a,x=f (.list a)->F a=R->Y')->(match x with|f (.list a)=>F a|_=>N')=R->Y':=by intro k;generalize q:x=z;revert q;rcases z with _|v<;>first|exact fF|cases v<;>first|exact k _|exact fF
theorem Vh{x:PV}{F:G->af iv}:(∀ a,x=.b (.int a)->F a=f u->Y')->(match x with|.b (.int a)=>F a|_=>V)=f u->Y':=by intro k;generalize q:x=z;revert q;rcases z with _|v|_|_|_<;>first|exact nF|cases v<;>first|exact k _|exact nF
theorem Vi{x:tA}{F:af iv}:(x=.plain->F=f u->Y')->(match x with|.plain=>F|_=>V)=f u->Y':=by intro k;generalize q:x=z;revert q;cases z<;>first|exact k|exact nF
theorem Zg{x:CE}{F:a_->ha}{j':CE->ha}:(∀ a,x=.var a->F a=r->Y')->(j' x=r->Y')->(match x with|.var a=>F a|a=>j' a)=r->Y':=by intro k l;have h2:=Mu l;generalize q:x=z;revert q;cases z<;>first|exact k _|exact h2 _ _ X
theorem Vj{x:PV}{F:c9->af iv}:(∀ a,x=.dict a->F a=f u->Y')->(match x with|.dict a=>F a|_=>V)=f u->Y':=by intro k;generalize q:x=z;revert q;cases z<;>first|exact k _|exact nF
theorem MJ{x:aC}{F:c9->al->al->af iv}:(∀ a b c,x=[.dict a,.b (.tup b),.b (.tup c)]->F a b c=f u->Y')->(match x with|[.dict a,.b (.tup b),.b (.tup c)]=>F a b c|_=>V)=f u->Y':=by intro k;generalize q:x=z;revert q;rcases z with _|⟨v,w⟩<;>first|exact nF|cases v<;>first|exact nF|rcases w with _|⟨g,i⟩<;>first|exact nF|rcases g with _|j|_|_|_<;>first|exact nF|cases j<;>first|exact nF|rcases i with _|⟨s,w7⟩<;>first|exact nF|rcases s with _|w8|_|_|_<;>first|exact nF|cases w8<;>first|exact nF|rcases w7 with _|⟨_,_⟩<;>first|exact k _ _ _|exact nF
theorem Vk{x:PV}{F:a_->af iv}:(∀ a,x=.b (.int (.ofNat a))->F a=f u->Y')->(match x with|.b (.int (.ofNat a))=>F a|_=>V)=f u->Y':=by intro k;generalize q:x=z;revert q;rcases z with _|v|_|_|_<;>first|exact nF|rcases v with _|_|_|w|_|_|_|_<;>first|exact nF|cases w<;>first|exact k _|exact nF
theorem Vl{x:aC}{F:c9->aC->a_->af iv}:(∀ a b c,x=[.dict a,.list b,.b (.str c)]->F a b c=f u->Y')->(match x with|[.dict a,.list b,.b (.str c)]=>F a b c|_=>V)=f u->Y':=by intro k;generalize q:x=z;revert q;rcases z with _|⟨v,w⟩<;>first|exact nF|cases v<;>first|exact nF|rcases w with _|⟨g,i⟩<;>first|exact nF|cases g<;>first|exact nF|rcases i with _|⟨j,s⟩<;>first|exact nF|rcases j with _|w7|_|_|_<;>first|exact nF|cases w7<;>first|exact nF|rcases s with _|⟨_,_⟩<;>first|exact k _ _ _|exact nF
theorem MK{x:fm}{F:c9->af iv}:(∀ a,x=f (.dict a)->F a=f u->Y')->(match x with|f (.dict a)=>F a|_=>V)=f u->Y':=by intro k;generalize q:x=z;revert q;rcases z with _|v<;>first|exact nF|cases v<;>first|exact k _|exact nF
theorem Zh{x:a_ × G}{F j':a_->a_->ha}:(∀ a b,x=(a,.ofNat b)->F a b=r->Y')->(∀ a b,x=(a,.negSucc b)->j' a b=r->Y')->(match x with|(a,.ofNat b)=>F a b|(a,.negSucc b)=>j' a b)=r->Y':=by intro k l;generalize q:x=z;revert q;rcases z with ⟨_,w⟩<;>cases w<;>first|exact k _ _|exact l _ _
theorem Zi{x:a_}{F:ha}{j':a_->ha}:(x=0->F=r->Y')->(j' x=r->Y')->(match x with|0=>F|a=>j' a)=r->Y':=by intro k l;have h2:=Mu l;generalize q:x=z;revert q;cases z<;>first|exact k|exact h2 _ _ X
theorem Vm{x:af Ent}{F:Ent->af iv}:(∀ a,x=f a->F a=f u->Y')->(match x with|f a=>F a|V=>V)=f u->Y':=by intro k;generalize q:x=z;revert q;cases z<;>first|exact k _|exact nF
theorem zL{x:e_}{F j':ha}:(F=r->Y')->(x=N'->j'=r->Y')->(match x with|R=>F|N'=>j')=r->Y':=by intro k l;generalize q:x=z;revert q;cases z<;>first|exact λO=>k|exact l
theorem cx{x:e_}{F:af iv}:(x=R->F=f u->Y')->(match x with|R=>F|N'=>V)=f u->Y':=by intro k;generalize q:x=z;revert q;cases z<;>first|exact k|exact nF
theorem qW{x:e_}{F:e_}:(x=R->F=R->Y')->(match x with|R=>F|N'=>N')=R->Y':=by intro k;generalize q:x=z;revert q;cases z<;>first|exact k|exact fF
theorem C7{ha:Sort _}{r:ha}{Y':Prop}{c:Prop}[Decidable c]{a d:ha}(k1:a=r->Y')(k2:¬c->d=r->Y'):(if c then a else d)=r->Y':=by
 intro e;split at e
 .exact k1 e
 .exact k2 ‹_› e
theorem aZ{ha:Sort _}{r:ha}{Y':Prop}{c:Prop}[Decidable c]{a d:ha}(k1:c->a=r->Y')(k2:d=r->Y'):(if c then a else d)=r->Y':=by
 intro e;split at e
 .exact k1 ‹_› e
 .exact k2 e
theorem gP{x:af G}{F:G->af iv}:(∀ a,x=f a->F a=f u->Y')->(match x with|f a=>F a|V=>V)=f u->Y':=by intro k;generalize q:x=z;revert q;cases z<;>first|exact k _|exact nF
theorem Qt{x:af G}{F:G->e_}:(∀ a,x=f a->F a=R->Y')->(match x with|f a=>F a|V=>N')=R->Y':=by intro k;generalize q:x=z;revert q;cases z<;>first|exact k _|exact fF
theorem dv{x:af St}{F:St->af iv}:(∀ a,x=f a->F a=f u->Y')->(match x with|f a=>F a|V=>V)=f u->Y':=by intro k;generalize q:x=z;revert q;cases z<;>first|exact k _|exact nF
theorem eG{x:af e_}{F:e_->af iv}:(∀ a,x=f a->F a=f u->Y')->(match x with|f a=>F a|V=>V)=f u->Y':=by intro k;generalize q:x=z;revert q;cases z<;>first|exact k _|exact nF
theorem Ie{x:af e_}{F j':af iv}:(x=f R->F=f u->Y')->(x=f N'->j'=f u->Y')->(match x with|f R=>F|f N'=>j'|V=>V)=f u->Y':=by intro k l;generalize q:x=z;revert q;rcases z with _|v<;>first|exact nF|cases v<;>first|exact k|exact l|exact nF
theorem fx{x:af (aA)}{F:aA->af iv}:(∀ a,x=f a->F a=f u->Y')->(match x with|f a=>F a|V=>V)=f u->Y':=by intro k;generalize q:x=z;revert q;cases z<;>first|exact k _|exact nF
theorem vT{x:af AO}{F:al->af iv}{j':c9->af iv}:(∀ a,x=f (.list a)->F a=f u->Y')->(∀ a,x=f (.dict a)->j' a=f u->Y')->(match x with|f (.list a)=>F a|f (.dict a)=>j' a|V=>V)=f u->Y':=by intro k l;generalize q:x=z;revert q;rcases z with _|v<;>first|exact nF|cases v<;>first|exact k _|exact l _|exact nF
theorem r8{x:af (d_ e_)}{F:d_ e_->af iv}:(∀ a,x=f a->F a=f u->Y')->(match x with|f a=>F a|V=>V)=f u->Y':=by intro k;generalize q:x=z;revert q;cases z<;>first|exact k _|exact nF
theorem dY{x:af (al)}{F:al->af iv}:(∀ a,x=f a->F a=f u->Y')->(match x with|f a=>F a|V=>V)=f u->Y':=by intro k;generalize q:x=z;revert q;cases z<;>first|exact k _|exact nF
theorem Ig{x:af (UnaryOp × av)}{F:UnaryOp->av->e_}:(∀ a b,x=f (a,b)->F a b=R->Y')->(match x with|f (a,b)=>F a b|V=>N')=R->Y':=by intro k;generalize q:x=z;revert q;rcases z with _|v<;>first|exact fF|rcases v with ⟨_,_⟩<;>first|exact k _ _|exact fF
theorem Ih{x:af (o_ × dD)}{F:o_->dD->e_}:(∀ a b,x=f (a,b)->F a b=R->Y')->(match x with|f (a,b)=>F a b|V=>N')=R->Y':=by intro k;generalize q:x=z;revert q;rcases z with _|v<;>first|exact fF|rcases v with ⟨_,_⟩<;>first|exact k _ _|exact fF
theorem Qu{x:af Const}{F:Const->e_}:(∀ a,x=f a->F a=R->Y')->(match x with|f a=>F a|V=>N')=R->Y':=by intro k;generalize q:x=z;revert q;cases z<;>first|exact k _|exact fF
theorem AQ{x:af (av × A? × av)}{F:av->A?->av->e_}:(∀ a b c,x=f (a,b,c)->F a b c=R->Y')->(match x with|f (a,b,c)=>F a b c|V=>N')=R->Y':=by intro k;generalize q:x=z;revert q;rcases z with _|v<;>first|exact fF|rcases v with ⟨_,g⟩<;>rcases g with ⟨_,_⟩<;>first|exact k _ _ _|exact fF
theorem Ii{x:af (d_ o_)}{F:d_ o_->af iv}:(∀ a,x=f a->F a=f u->Y')->(match x with|f a=>F a|V=>V)=f u->Y':=by intro k;generalize q:x=z;revert q;cases z<;>first|exact k _|exact nF
theorem nz{x:af (d_ o_)}{F:d_ o_->e_}:(∀ a,x=f a->F a=R->Y')->(match x with|f a=>F a|V=>N')=R->Y':=by intro k;generalize q:x=z;revert q;cases z<;>first|exact k _|exact fF
theorem Qv{x:af (dD)}{F:dD->af iv}:(∀ a,x=f a->F a=f u->Y')->(match x with|f a=>F a|V=>V)=f u->Y':=by intro k;generalize q:x=z;revert q;cases z<;>first|exact k _|exact nF
theorem Ij{x:af (dD)}{F:dD->e_}:(∀ a,x=f a->F a=R->Y')->(match x with|f a=>F a|V=>N')=R->Y':=by intro k;generalize q:x=z;revert q;cases z<;>first|exact k _|exact fF
theorem AS{x:af AV}{F:AV->af iv}:(∀ a,x=f a->F a=f u->Y')->(match x with|f a=>F a|V=>V)=f u->Y':=by intro k;generalize q:x=z;revert q;cases z<;>first|exact k _|exact nF
theorem pU{x:af (av × av)}{F:av->av->e_}:(∀ a b,x=f (a,b)->F a b=R->Y')->(match x with|f (a,b)=>F a b|V=>N')=R->Y':=by intro k;generalize q:x=z;revert q;rcases z with _|v<;>first|exact fF|rcases v with ⟨_,_⟩<;>first|exact k _ _|exact fF
theorem Qw{x:af (av × av × av)}{F:av->av->av->e_}:(∀ a b c,x=f (a,b,c)->F a b c=R->Y')->(match x with|f (a,b,c)=>F a b c|V=>N')=R->Y':=by intro k;generalize q:x=z;revert q;rcases z with _|v<;>first|exact fF|rcases v with ⟨_,g⟩<;>rcases g with ⟨_,_⟩<;>first|exact k _ _ _|exact fF
theorem Ik{x:af (av × av × av × av × av × I_)}{F:av->av->av->av->av->I_->e_}:(∀ a b c d e h,x=f (a,b,c,d,e,h)->F a b c d e h=R->Y')->(match x with|f (a,b,c,d,e,h)=>F a b c d e h|V=>N')=R->Y':=by intro k;generalize q:x=z;revert q;rcases z with _|v<;>first|exact fF|rcases v with ⟨_,g⟩<;>rcases g with ⟨_,j⟩<;>rcases j with ⟨_,w7⟩<;>rcases w7 with ⟨_,w9⟩<;>rcases w9 with ⟨_,_⟩<;>first|exact k _ _ _ _ _ _|exact fF
theorem Qx{x:af (av × av × av × av × I_)}{F:av->av->av->av->I_->e_}:(∀ a b c d e,x=f (a,b,c,d,e)->F a b c d e=R->Y')->(match x with|f (a,b,c,d,e)=>F a b c d e|V=>N')=R->Y':=by intro k;generalize q:x=z;revert q;rcases z with _|v<;>first|exact fF|rcases v with ⟨_,g⟩<;>rcases g with ⟨_,j⟩<;>rcases j with ⟨_,w7⟩<;>rcases w7 with ⟨_,_⟩<;>first|exact k _ _ _ _ _|exact fF
theorem Il{x:af o_}{F:o_->af iv}:(∀ a,x=f a->F a=f u->Y')->(match x with|f a=>F a|V=>V)=f u->Y':=by intro k;generalize q:x=z;revert q;cases z<;>first|exact k _|exact nF
theorem vU{x:af o_}{F:o_->e_}:(∀ a,x=f a->F a=R->Y')->(match x with|f a=>F a|V=>N')=R->Y':=by intro k;generalize q:x=z;revert q;cases z<;>first|exact k _|exact fF
theorem Vn{x:af o_}{F:o_->ha}{j':ha}:(∀ a,x=f a->F a=r->Y')->(j'=r->Y')->(match x with|f a=>F a|V=>j')=r->Y':=by intro k l;generalize q:x=z;revert q;cases z<;>first|exact k _|exact λO=>l
theorem aM{x:jn}{F:St->AV->af iv}:(∀ a b,x=f (a,b)->F a b=f u->Y')->(match x with|f (a,b)=>F a b|V=>V)=f u->Y':=by intro k;generalize q:x=z;revert q;rcases z with _|v<;>first|exact nF|rcases v with ⟨_,_⟩<;>first|exact k _ _|exact nF
theorem dI{x:af av}{F:av->e_}:(∀ a,x=f a->F a=R->Y')->(match x with|f a=>F a|V=>N')=R->Y':=by intro k;generalize q:x=z;revert q;cases z<;>first|exact k _|exact fF
theorem wF{x:af (av × CmpOp × av)}{F:av->CmpOp->av->e_}:(∀ a b c,x=f (a,b,c)->F a b c=R->Y')->(match x with|f (a,b,c)=>F a b c|V=>N')=R->Y':=by intro k;generalize q:x=z;revert q;rcases z with _|v<;>first|exact fF|rcases v with ⟨_,g⟩<;>rcases g with ⟨_,_⟩<;>first|exact k _ _ _|exact fF
theorem mJ{α:Type _}{x:af (St × α)}{F:St->α->af iv}:(∀ a b,x=f (a,b)->F a b=f u->Y')->(match x with|f (a,b)=>F a b|V=>V)=f u->Y':=by intro k;generalize q:x=z;revert q;rcases z with _|v<;>first|exact nF|rcases v with ⟨_,_⟩<;>first|exact k _ _|exact nF
theorem oM{x:af (al × af a_)}{F:al->af a_->af iv}:(∀ a b,x=f (a,b)->F a b=f u->Y')->(match x with|f (a,b)=>F a b|V=>V)=f u->Y':=by intro k;generalize q:x=z;revert q;rcases z with _|v<;>first|exact nF|rcases v with ⟨_,_⟩<;>first|exact k _ _|exact nF
theorem mK{x:af (St × al)}{F:St->al->af iv}:(∀ a b,x=f (a,b)->F a b=f u->Y')->(match x with|f (a,b)=>F a b|V=>V)=f u->Y':=by intro k;generalize q:x=z;revert q;rcases z with _|v<;>first|exact nF|rcases v with ⟨_,_⟩<;>first|exact k _ _|exact nF
theorem wG{x:af (St × aA × AV)}{F:St->aA->AV->af iv}:(∀ a b c,x=f (a,b,c)->F a b c=f u->Y')->(match x with|f (a,b,c)=>F a b c|V=>V)=f u->Y':=by intro k;generalize q:x=z;revert q;rcases z with _|v<;>first|exact nF|rcases v with ⟨_,g⟩<;>rcases g with ⟨_,_⟩<;>first|exact k _ _ _|exact nF
theorem ML{x:af (St × c9)}{F:St->c9->af iv}:(∀ a b,x=f (a,b)->F a b=f u->Y')->(match x with|f (a,b)=>F a b|V=>V)=f u->Y':=by intro k;generalize q:x=z;revert q;rcases z with _|v<;>first|exact nF|rcases v with ⟨_,_⟩<;>first|exact k _ _|exact nF
theorem wH{x:af (av × av × Pos)}{F:av->av->Pos->e_}:(∀ a b c,x=f (a,b,c)->F a b c=R->Y')->(match x with|f (a,b,c)=>F a b c|V=>N')=R->Y':=by intro k;generalize q:x=z;revert q;rcases z with _|v<;>first|exact fF|rcases v with ⟨_,g⟩<;>rcases g with ⟨_,_⟩<;>first|exact k _ _ _|exact fF
theorem MM{x:af (av × d_ G_ × d_ G_)}{F:av->d_ G_->d_ G_->e_}:(∀ a b c,x=f (a,b,c)->F a b c=R->Y')->(match x with|f (a,b,c)=>F a b c|V=>N')=R->Y':=by intro k;generalize q:x=z;revert q;rcases z with _|v<;>first|exact fF|rcases v with ⟨_,g⟩<;>rcases g with ⟨_,_⟩<;>first|exact k _ _ _|exact fF
theorem MN{x:af (av × av × d_ G_)}{F:av->av->d_ G_->e_}:(∀ a b c,x=f (a,b,c)->F a b c=R->Y')->(match x with|f (a,b,c)=>F a b c|V=>N')=R->Y':=by intro k;generalize q:x=z;revert q;rcases z with _|v<;>first|exact fF|rcases v with ⟨_,g⟩<;>rcases g with ⟨_,_⟩<;>first|exact k _ _ _|exact fF
theorem C8{x:af (St × al × Fl)}{F:St->al->AV->af iv}{j':St->al->Fl->af iv}:(∀ a b c,x=f (a,b,.ret c)->F a b c=f u->Y')->(∀ a b c,x=f (a,b,c)->j' a b c=f u->Y')->(match x with|f (a,b,.ret c)=>F a b c|f (a,b,c)=>j' a b c|V=>V)=f u->Y':=by intro k l;generalize q:x=z;revert q;rcases z with _|v<;>first|exact nF|rcases v with ⟨_,g⟩<;>rcases g with ⟨_,j⟩<;>cases j<;>first|exact k _ _ _|exact l _ _ _|exact nF
theorem MP{x:af (av × d_ G_)}{F:av->d_ G_->e_}:(∀ a b,x=f (a,b)->F a b=R->Y')->(match x with|f (a,b)=>F a b|V=>N')=R->Y':=by intro k;generalize q:x=z;revert q;rcases z with _|v<;>first|exact fF|rcases v with ⟨_,_⟩<;>first|exact k _ _|exact fF
theorem MQ{x:af (av × o_ × dD)}{F:av->o_->dD->af iv}:(∀ a b c,x=f (a,b,c)->F a b c=f u->Y')->(match x with|f (a,b,c)=>F a b c|V=>V)=f u->Y':=by intro k;generalize q:x=z;revert q;rcases z with _|v<;>first|exact nF|rcases v with ⟨_,g⟩<;>rcases g with ⟨_,_⟩<;>first|exact k _ _ _|exact nF
theorem de{x:af (aC)}{F:aC->af iv}:(∀ a,x=f a->F a=f u->Y')->(match x with|f a=>F a|V=>V)=f u->Y':=by intro k;generalize q:x=z;revert q;cases z<;>first|exact k _|exact nF
theorem C9{x:af (c9)}{F:c9->af iv}:(∀ a,x=f a->F a=f u->Y')->(match x with|f a=>F a|V=>V)=f u->Y':=by intro k;generalize q:x=z;revert q;cases z<;>first|exact k _|exact nF
theorem ca{x:fm}{F:PV->af iv}:(∀ a,x=f a->F a=f u->Y')->(match x with|f a=>F a|V=>V)=f u->Y':=by intro k;generalize q:x=z;revert q;cases z<;>first|exact k _|exact nF
theorem MR{x:af (aA × AV)}{F:aA->AV->af iv}:(∀ a b,x=f (a,b)->F a b=f u->Y')->(match x with|f (a,b)=>F a b|V=>V)=f u->Y':=by intro k;generalize q:x=z;revert q;rcases z with _|v<;>first|exact nF|rcases v with ⟨_,_⟩<;>first|exact k _ _|exact nF
theorem Qy{x:a_}{F:ha}{j':a_->ha}:(F=r->Y')->(∀ a,x=(a+1)->j' a=r->Y')->(match x with|0=>F|(a+1)=>j' a)=r->Y':=by intro k l;generalize q:x=z;revert q;cases z<;>first|exact λO=>k|exact l _
theorem gg{x:e_}{F j':ha}:(F=r->Y')->(x=R->j'=r->Y')->(match x with|N'=>F|R=>j')=r->Y':=by intro k l;generalize q:x=z;revert q;cases z<;>first|exact λO=>k|exact l
theorem r9{x:af (aA)}{F:ha}{j':aA->ha}:(F=r->Y')->(∀ a,x=f a->j' a=r->Y')->(match x with|V=>F|f a=>j' a)=r->Y':=by intro k l;generalize q:x=z;revert q;cases z<;>first|exact λO=>k|exact l _
theorem Qz{x:af (aA × a_)}{F:ha}{j':aA->a_->ha}:(F=r->Y')->(∀ a b,x=f (a,b)->j' a b=r->Y')->(match x with|V=>F|f (a,b)=>j' a b)=r->Y':=by intro k l;generalize q:x=z;revert q;rcases z with _|v<;>first|exact λO=>k|exact l _ _|rcases v with ⟨_,_⟩<;>first|exact λO=>k|exact l _ _
theorem QA{x:af G}{F:ha}{j':G->ha}:(F=r->Y')->(∀ a,x=f a->j' a=r->Y')->(match x with|V=>F|f a=>j' a)=r->Y':=by intro k l;generalize q:x=z;revert q;cases z<;>first|exact λO=>k|exact l _
theorem Vo{x:af (St × al × Fl)}{F:St->al->ha}{j':af (St × al × Fl)->ha}:(∀ a b,x=f (a,b,.next)->F a b=r->Y')->((∀ a b,x≠f (a,b,.next))->j' x=r->Y')->(match x with|f (a,b,.next)=>F a b|a=>j' a)=r->Y':=by
 intro k l;rcases x with _|⟨a,b,c⟩
 .exact l (λO O=>nofun)
 .cases c
  .exact k _ _ X
  .exact l (λO O=>nofun)
  .exact l (λO O=>nofun)
theorem MS{x:af (St × al × Fl)}{F:St->al->AV->ha}{j':St->al->Fl->ha}{K:ha}:(∀ a b c,x=f (a,b,.ret c)->F a b c=r->Y')->(∀ a b c,x=f (a,b,c)->(∀ v,c≠.ret v)->j' a b c=r->Y')->(K=r->Y')->(match x with|f (a,b,.ret c)=>F a b c|f (a,b,c)=>j' a b c|V=>K)=r->Y':=by
 intro k l m;rcases x with _|⟨a,b,c⟩
 .exact m
 .cases c
  .exact l _ _ _ X (λO=>nofun)
  .exact l _ _ _ X (λO=>nofun)
  .exact k _ _ _ X
end Mine.Internal
end
section
open PySem PyProof.Rows
namespace Mine.Internal
noncomputable abbrev H:z_:=Z_
noncomputable def strTab:a_->o_| 0=>"lex" | 1=>"grlex" | _=>"grevlex"
mutual
def bB(J' h:cE)(D:cc):AV->aY->Prop|.none,v=>v=.none|.bool b,v=>v=.bool b|.int i,v=>∃ t,v=.int i t|.str n,v=>n<3/\∃ t,v=.str (strTab n) t|.tup Z,v=>∃ a M,v=.ref a/\h.IsTuple a M.toArray/\aG J' h D Z M|.fv Z,v=>∃ a M,v=.ref a/\J'.IsList a M.toArray/\IntsAre M Z|.ref n,v=>∃ a,v=.ref a/\D[n]?=f a|.ub,O=>False
def aG(J' h:cE)(D:cc):al->dG->Prop|[],M=>M=[]|x::Z,M=>∃ v r,M=v::r/\bB J' h D x v/\aG J' h D Z r
end
mutual
theorem bB.mono(ht:∀ a B',h.IsTuple a B'->h'.IsTuple a B')(hp:D <+: b9):∀{x:AV} {v:aY},bB J' h D x v->bB J' h' b9 x v|.none,O,r=>by exact r|.bool O,O',r=>by dsimp only[bB]at r ⊢;exact r|.int O,O',r=>by dsimp only[bB]at r ⊢;exact r|.str O,O',r=>by dsimp only[bB]at r ⊢;exact r|.tup Z,O,r=>(by dsimp only[bB]at r ⊢;obtain⟨a,M,e,t,q⟩:=r;exact fI a M e (ht _ _ t) (aG.mono ht hp q))|.fv O,O',r=>by dsimp only[bB]at r ⊢;exact r|.ref n,O,r=>(by dsimp only[bB]at r ⊢;obtain⟨a,e,q⟩:=r;refine aK a e ?_;obtain⟨t,eE⟩:=hp;subst eE;refine J (LY (mi.mp q).1) ?_;exact q)|.ub,O,r=>by dsimp only[bB]at r
theorem aG.mono(ht:∀ a B',h.IsTuple a B'->h'.IsTuple a B')(hp:D <+: b9):∀{Z:al} {M:dG},aG J' h D Z M->aG J' h' b9 Z M|[],O,r=>by exact r|x::Z,O,r=>by dsimp only[aG]at r ⊢;obtain⟨v,r',e,q,qs⟩:=r;exact fI v r' e (bB.mono ht hp q) (aG.mono ht hp qs)
end
section
variable{J' h:cE}{D:cc}
theorem aG.nil:aG J' h D [] []:=by dsimp only[aG]
theorem aG.cons(a:bB J' h D x v)(b:aG J' h D Z M):aG J' h D (x::Z) (v::M):=by exact fI v M X a b
theorem aG.length:∀{Z:al} {M:dG},aG J' h D Z M->M.length=Z.length:=by intro w';cases w' with|nil=>intro O r;dsimp only[aG]at r;subst r;rfl|cons x Z=>intro O r;dsimp only[aG]at r;obtain⟨v,r',iA,_,qs⟩:=r;subst iA;simp[qs.length]
theorem aG.append:∀{Z ys:al} {M us:dG},aG J' h D Z M->aG J' h D ys us->aG J' h D (Z++ys) (M++us):=by intro w';induction w' with|nil=>intro O O O r q;dsimp only[aG]at r;subst r;exact q|cons x Z ih=>intro O O O r q;dsimp only[aG]at r;obtain⟨v,r',j5,a,qs⟩:=r;subst j5;exact aG.cons a (ih qs q)
theorem aG.get:∀{Z:al} {M:dG},aG J' h D Z M->∀{i:a_} {x:AV},Z[i]?=f x->∃ v,M[i]?=f v/\bB J' h D x v:=by intro w';cases w' with|nil=>intro O O i x e;exact nS e|cons y Z=>intro O r i x e;dsimp only[aG]at r;obtain⟨v,r',mj,a,qs⟩:=r;subst mj;cases i with|zero=>simp at e;subst e;exact aK v X a|succ i=>simpa using qs.get (i:=i) (x:=x) (by simpa using e)
theorem aG.get':∀{Z:al} {M:dG},aG J' h D Z M->∀{i:a_} {v:aY},M[i]?=f v->∃ x,Z[i]?=f x/\bB J' h D x v:=by intro w';cases w' with|nil=>intro O r i x e;dsimp only[aG]at r;subst r;exact nS e|cons y Z=>intro O r i x e;dsimp only[aG]at r;obtain⟨v,r',oN,a,qs⟩:=r;subst oN;cases i with|zero=>simp at e;subst e;exact aK y X a|succ i=>simpa using qs.get' (i:=i) (v:=x) (by simpa using e)
theorem aG.take:∀{Z:al} {M:dG},aG J' h D Z M->∀ n,aG J' h D (Z.take n) (M.take n):=by intro w';cases w' with|nil=>intro O r n;dsimp only[aG]at r;subst r;simpa using aG.nil|cons y Z=>intro O r n;dsimp only[aG]at r;obtain⟨v,r',qv,a,qs⟩:=r;subst qv;cases n with|zero=>exact aG.nil|succ n=>exact aG.cons a (qs.take n)
theorem aG.drop:∀{Z:al} {M:dG},aG J' h D Z M->∀ n,aG J' h D (Z.drop n) (M.drop n):=by intro w';cases w' with|nil=>intro O r n;dsimp only[aG]at r;subst r;simpa using aG.nil|cons y Z=>intro O r n;have r0:=r;dsimp only[aG]at r;obtain⟨v,r',vA,a,qs⟩:=r;subst vA;cases n with|zero=>exact r0|succ n=>exact qs.drop n
theorem aG.set:∀{Z:al} {M:dG},aG J' h D Z M->∀(n:a_) {x:AV} {v:aY},bB J' h D x v->aG J' h D (Z.set n x) (M.set n v):=by intro w';cases w' with|nil=>intro O r n O O O;dsimp only[aG]at r;subst r;simpa using aG.nil|cons y Z=>intro O r n O O q;dsimp only[aG]at r;obtain⟨v,r',yD,a,qs⟩:=r;subst yD;cases n with|zero=>exact aG.cons q qs|succ n=>exact aG.cons a (qs.set n q)
theorem aG.reverse:∀{Z:al} {M:dG},aG J' h D Z M->aG J' h D Z.reverse M.reverse:=by intro w';cases w' with|nil=>intro O r;dsimp only[aG]at r;subst r;simpa using aG.nil|cons y Z=>intro O r;dsimp only[aG]at r;obtain⟨v,r',Dc,a,qs⟩:=r;subst Dc;exact J CW (J CW (qs.reverse.append (aG.cons a aG.nil)))
theorem bB.none_inv(r:bB J' h D .none v):v=.none:=by dsimp only[bB]at r ⊢;exact r
theorem bB.bool_inv(r:bB J' h D (.bool b) v):v=.bool b:=by dsimp only[bB]at r ⊢;exact r
theorem bB.int_inv(r:bB J' h D (.int i) v):∃ t,v=.int i t:=by dsimp only[bB]at r ⊢;exact r
theorem bB.str_inv(r:bB J' h D (.str n) v):n<3/\∃ t,v=.str (strTab n) t:=by dsimp only[bB]at r ⊢;exact r
theorem bB.bD(r:bB J' h D (.tup Z) v):∃ a M,v=.ref a/\h.IsTuple a M.toArray/\aG J' h D Z M:=by dsimp only[bB]at r ⊢;exact r
theorem bB.zM(r:bB J' h D (.fv Z) v):∃ a M,v=.ref a/\J'.IsList a M.toArray/\IntsAre M Z:=by dsimp only[bB]at r ⊢;exact r
theorem bB.Im(r:bB J' h D (.ref n) v):∃ a,v=.ref a/\D[n]?=f a:=by dsimp only[bB]at r ⊢;exact r
theorem bB.none:bB J' h D .none .none:=by dsimp only[bB]
theorem bB.bool(b:e_):bB J' h D (.bool b) (.bool b):=by dsimp only[bB]
theorem bB.int(i:G)(t:Tok):bB J' h D (.int i) (.int i t):=by exact⟨t,X⟩
theorem bB.tup(t:h.IsTuple a M.toArray)(q:aG J' h D Z M):bB J' h D (.tup Z) (.ref a):=by exact fI a M X t q
theorem bB.ref(e:D[n]?=f a):bB J' h D (.ref n) (.ref a):=by exact aK a X e
end
def cL(J' h:cE)(D:cc):c9->d_ (aA × bU × aY)->Prop|[],Z=>Z=[]|p::r,Z=>∃ a v P6,Z=(p.1,a,v)::P6/\bB J' h D p.2 v/\cL J' h D r P6
theorem cL.mono(ht:∀ a B',h.IsTuple a B'->h'.IsTuple a B')(hp:D <+: b9):∀{bJ:c9} {Z:d_ (aA × bU × aY)},cL J' h D bJ Z->cL J' h' b9 bJ Z:=by intro w';cases w' with|nil=>intro O r;exact r|cons p bJ=>intro O r;dsimp only[cL]at r ⊢;obtain⟨a,v,P6,e,q,qs⟩:=r;exact C4 a v P6 e (q.mono ht hp) (qs.mono ht hp)
section
variable(H:z_)(w:dc)
noncomputable abbrev tk:=tupleKind (m? H w)
def yE(J' h:cE)(D:cc)(a:bU):AO->Prop|.list Z=>∃ M:dG,h.PlainList a M.toArray/\aG J' h D Z M|.dict bJ=>∃ Z,h.DictOfH (tk H w) a Z/\cL J' h D bJ Z
structure Inv(b:aJ)(s:aJ)(D:cc)(N:St):Prop where
 same:∃ h t,s={b with heap:=h,toks:=t}
 keep:∀ a o,b.heap.get? a=f o->s.heap.get? a=f o
 low:i_<s.heap.objs.size
 yF:∃ o,b.heap.get? P?=f o
 len:D.length=N.n
 nodup:D.Nodup
 fresh:∀ a∈D,b.heap.get? a=V/\(a==i_)=N'
 cls:∀ a∈D,∃ o,s.heap.get? a=f o/\(o.cls=.type "list"\/o.cls=.type "dict")
 obj:∀ i e,N.ent i=f e->∃ a,D[i]?=f a/\yE H w b.heap s.heap D a e.obj
end
structure dB(F':cc)(s s':aJ)(D b9:cc)(N T':St):Prop where
 pre:D <+: b9
 new:∀ a∈b9,a∈D\/s.heap.get? a=V
 fr:∀ a o,a∉D->a∉F'->s.heap.get? a=f o->s'.heap.get? a=f o
 flags:∀ i,i<D.length->T'.flag i=N.flag i
 lock:∀ i a o,D[i]?=f a->N.flag i=R->s.heap.get? a=f o->s'.heap.get? a=f o
 Dd:∀ a∈F',∀ o,s.heap.get? a=f o->∃ o',s'.heap.get? a=f o'
theorem dB.refl(F':cc)(s:aJ)(D:cc)(N:St):dB F' s s D D N N:=
 ⟨eS,λO h=>.inl h,λO O O O h=>h,λO O=>X,λO O O O O h=>h,λO O o h=>⟨o,h⟩⟩
theorem QB(h:D <+: b9)(m:a∈D):a∈b9:=h.subset m
theorem vV{D b9:cc}(h:D <+: b9){i:a_}{a:bU}(m:D[i]?=f a):b9[i]?=f a:=by obtain⟨t,wI⟩:=h;subst wI;refine J (LY (mi.mp m).1) ?_;exact m
theorem dB.trans{F':cc}{D b9 Zj:cc}(x:dB F' s s' D b9 N T')(y:dB F' s' s'' b9 Zj T' acH):dB F' s s'' D Zj N acH:=by
 have yG:∀ a o,a∉D->s.heap.get? a=f o->a∉b9:=λa o Y L h3=>by
  rcases x.new a h3 with q|q
  .exact Y q
  .rw[L]at q;exact sN q
 refine⟨x.pre.trans y.pre,λa B=>?_,λa o Y L h3=>y.fr a o (yG a o Y h3) L (x.fr a o Y L h3),λi hi=>?_,λi a o Y L h3=>?_,λa B o h=>?_⟩
 .rcases y.new a B with q|q
  .exact x.new a q
  .by_cases hr:a∈D
   .exact .inl hr
   .right;cases e:s.heap.get? a with|none=>rfl|some o=>
     by_cases ho:a∈F'
     .refine cz (x.Dd a ho o e) λo' e'=>?_;rw[e']at q;exact sN q
     .rw[x.fr a o hr ho e]at q;exact sN q
 .exact(y.flags i (eA hi x.pre.length_le)).trans (x.flags i hi)
 .exact y.lock i a o (vV x.pre Y) ((x.flags i ((mi.mp Y).1)).trans L) (x.lock i a o Y L h3)
 .obtain⟨o',h'⟩:=x.Dd a B o h;exact y.Dd a B o' h'
def aX(F':cc)(h:cE):Prop:=∀ a∈F',∀ B',¬ h.IsTuple a B'
theorem aX.of(x:∀ a∈F',∀ o,h.get? a=f o->∀ Z n,o.data≠.seq Z n):aX F' h:=λa B B' ⟨o,Y,_,n,L⟩=>x a B o Y B' n L
theorem aX.nil:aX [] h:=λO m=>nomatch m
section
variable{w:dc}{b s s':aJ}{D b9 F':cc}{N T':St}
theorem Inv.AU(I:Inv H w b s D N)(t:s.heap.IsTuple a B'):a∉D:=λm=>by refine ah (I.cls a m) λo ho U'=>?_;obtain⟨o',qw,Zk,_⟩:=t;rw[ho]at qw;cases qw;rw[Zk]at U';rcases U' with q|q<;>simp at q
theorem Inv.gK(I:Inv H w b s D N)(S:dB F' s s' D b9 N T')(ok:aX F' s.heap)(a:bU)(B':T_ aY)(t:s.heap.IsTuple a B'):s'.heap.IsTuple a B':=by have hr:=I.AU t;obtain⟨o,ho,U',n,hd⟩:=t;have hw:a∉F':=λm=>ok a m B' ⟨o,ho,U',n,hd⟩;exact⟨o,S.fr a o hr hw ho,U',n,hd⟩
theorem Inv.rep(I:Inv H w b s D N)(S:dB F' s s' D b9 N T')(ok:aX F' s.heap)(r:bB b.heap s.heap D x v):bB b.heap s'.heap b9 x v:=
 r.mono (I.gK S ok) S.pre
theorem Inv.Fx(I:Inv H w b s D N)(S:dB F' s s' D b9 N T')(ok:aX F' s.heap)(r:aG b.heap s.heap D x v):aG b.heap s'.heap b9 x v:=
 r.mono (I.gK S ok) S.pre
theorem jJ(ht:∀ a B',h.IsTuple a B'->h'.IsTuple a B')(x:N? (m? H w) h k a):N? (m? H w) h' k a:=by refine ia λGq zq=>?_;obtain⟨o,B',n,ho,U',hd,hi⟩:=x;obtain⟨o',qw,Zk,n',uW⟩:=ht a B' ⟨o,ho,U',n,hd⟩;refine zq ?_;clear zq;exact C5 o' B' n' qw Zk uW hi
theorem yE.keeps(ht:∀ a B',h.IsTuple a B'->h'.IsTuple a B')(hp:D <+: b9)(B:∀ ob,h.get? a=f ob->h'.get? a=f ob)(r:yE H w J' h D a o):yE H w J' h' b9 a o:=by
 cases o with|list Z=>(obtain⟨M,⟨n,hl⟩,q⟩:=r;exact aK M ⟨n,B _ hl⟩ (q.mono ht hp))|dict bJ=>obtain⟨Z,⟨ob,es,ep,hg,hx,hd,he,hk,hn⟩,q⟩:=r;exact aK Z ⟨ob,es,ep,B _ hg,hx,hd,he,λx hx=>jJ ht (hk x hx),hn⟩ (q.mono ht hp)
theorem Inv.get(I:Inv H w b s D N)(e:N.get i=f o):∃ a,D[i]?=f a/\yE H w b.heap s.heap D a o:=by unfold St.get at e;refine ah (HE.mp e) λen he fJ=>?_;clear e;subst fJ;exact I.obj i en he
theorem Inv.at(I:Inv H w b s D N)(e:N.get i=f o)(r:bB b.heap s.heap D (.ref i) v):∃ a,v=.ref a/\D[i]?=f a/\yE H w b.heap s.heap D a o:=by refine ah (r.Im) λa bK Y=>?_;clear r;subst bK;refine ah (I.get e) λa' L h3=>?_;rw[Y]at L;obtain rfl:=aw L;exact kz a X Y h3
theorem Inv.cT(I:Inv H w b s D N)(e:N.get i=f (.list Z))(r:bB b.heap s.heap D (.ref i) v) :
  ∃ a M,v=.ref a/\D[i]?=f a/\s.heap.PlainList a M.toArray/\aG b.heap s.heap D Z M:=by
 refine Tp λGq kq=>?_;obtain⟨a,AW,Y,M,L,h3⟩:=I.at e r;clear r;subst AW;exact kq a M X Y L h3
theorem Inv.kG(I:Inv H w b s D N)(e:N.get i=f (.dict bJ))(r:bB b.heap s.heap D (.ref i) v) :
  ∃ a Z,v=.ref a/\D[i]?=f a/\s.heap.DictOfH (tk H w) a Z/\cL b.heap s.heap D bJ Z:=by
 refine Tp λGq kq=>?_;obtain⟨a,MT,Y,Z,L,h3⟩:=I.at e r;clear r;subst MT;exact kq a Z X Y L h3
theorem jU(h:N.ent i=f e):N.flag i=e.locked:=by unfold St.ent at h;unfold St.flag;exact J h X
theorem De(h:N.getM i=f o):N.ent i=f ⟨N',o⟩:=by unfold St.getM at h;unfold St.ent;revert h;refine YU (λO e h=>?_);refine J e ?_;obtain rfl:=aw h;rfl
theorem mL(h:N.getM i=f o):N.get i=f o:=by
 have:=De h
 unfold St.ent at this;unfold St.get;exact J this X
theorem Df(h:N.JD i e=f T'):T'.n=N.n/\∀ j,T'.ent j=if j=i then f e else N.ent j:=by unfold St.JD at h;dsimp only at h;revert h;refine cx (λq h=>?_);obtain rfl:=aw h;exact⟨X,λj=>Tr.vS e _ _ q j⟩
theorem wJ(h:N.push o=f T'):T'.n=N.n+1/\∀ j,T'.ent j=if j=N.n then f ⟨N',o⟩ else N.ent j:=by unfold St.push at h;dsimp only at h;revert h;refine cx (λq h=>?_);obtain rfl:=aw h;exact⟨X,λj=>Tr.vS _ _ _ q j⟩
theorem oO(h:N.kE i K'=f T'):∃ e,N.ent i=f e/\T'.n=N.n/\∀ j,T'.ent j=if j=i then f ⟨K',e.obj⟩ else N.ent j:=by revert h;exact Vm (λe he h=>cC (Df h) λY L=>kz e he Y L)
theorem sd(h:T'.ent i=N.ent i):T'.flag i=N.flag i:=by unfold St.ent at h;unfold St.flag;exact J h X
theorem zN{l:cc}(hn:l.Nodup){i j:a_}{a:bU}(hi:l[i]?=f a)(hj:l[j]?=f a):i=j:=by obtain⟨Y,e1⟩:=mi.mp hi;obtain⟨L,e2⟩:=mi.mp hj;exact(UK hn).mp (e1.trans e2.symm)
theorem Inv.quiet(I:Inv H w b s D N){t:Tok}(hk:∀ a o,a∉F'->s.heap.get? a=f o->h'.get? a=f o)(ok:aX F' s.heap)(hr:∀ a∈F',a∉D)(hb:∀ a∈F',b.heap.get? a=V)(hd:∀ a∈F',∀ o,s.heap.get? a=f o->∃ o',h'.get? a=f o') (iN:i_<h'.objs.size) :
  Inv H w b {s with heap:=h',toks:=t} D N/\dB F' s {s with heap:=h',toks:=t} D D N N:=by
 have S:dB F' s {s with heap:=h',toks:=t} D D N N:=
  ⟨eS,λO h=>.inl h,λa o Y L h3=>hk a o L h3,λO O=>X,λi a o Y O h3=>hk a o (λm=>hr a m (dU Y)) h3,hd⟩
 refine⟨?_,S⟩;refine gx (I.same) λh t' fJ=>?_;clear hd;subst fJ;refine⟨⟨h',t,X⟩,λa o e=>hk a o (λm=>by rw[hb a m]at e;exact nS e) (I.keep a o e),iN,I.yF,I.len,I.nodup,I.fresh,λa m=>?_,λi e he=>?_⟩
 .refine ah (I.cls a m) λo ho U'=>?_;exact aK o (hk a o (λq=>hr a q m) ho) U'
 .refine ah (I.obj i e he) λa Y L=>?_;exact aK a Y (L.keeps (I.gK S ok) eS λob ho=>hk a ob (λq=>hr a q (dU Y)) ho)
theorem Inv.more(I:Inv H w b s D N){t:Tok}(hk:∀ a o,s.heap.get? a=f o->h'.get? a=f o)(iN:i_<h'.objs.size) :
  Inv H w b {s with heap:=h',toks:=t} D N/\dB [] s {s with heap:=h',toks:=t} D D N N:=
 I.quiet (λa o O e=>hk a o e) aX.nil (λO m=>nomatch m) (λO m=>nomatch m) (λO m=>nomatch m) iN
theorem pV{h h':cE}(I:∃ o,h.get? P?=f o)(hk:∀ a o,h.get? a=f o->h'.get? a=f o):i_<h'.objs.size:=by
 obtain⟨o,ho⟩:=I
 have:=mF (hk _ _ ho)
 have e1:(P?:a_)=2:=X;rw[e1]at this;exact J (X:(i_:a_)=1) (rT (by decide) this)
theorem Inv.toks(I:Inv H w b s D N)(t:Tok):Inv H w b {s with toks:=t} D N/\dB [] s {s with toks:=t} D D N N:=
 I.more (h':=s.heap) (λO O e=>e) I.low
theorem Inv.alloc(I:Inv H w b s D N){t:Tok}{a:bU}(hk:∀ c ob,s.heap.get? c=f ob->h'.get? c=f ob)(jo:s.heap.get? a=V)(P7:i_<a)(iN:i_<h'.objs.size)(U':∃ ob,h'.get? a=f ob/\(ob.cls=.type "list"\/ob.cls=.type "dict")) (hp:N.push o=f T') (ho:(∀ c B',s.heap.IsTuple c B'->h'.IsTuple c B')->D <+: D++[a]->yE H w b.heap h' (D++[a]) a o) :
  Inv H w b {s with heap:=h',toks:=t} (D++[a]) T'/\dB [] s {s with heap:=h',toks:=t} D (D++[a]) N T'/\(D++[a])[N.n]?=f a:=by
 obtain⟨hn,he⟩:=wJ hp;have qX:D <+: D++[a]:=UY _ _;have QC:b.heap.get? a=V:=by cases e:b.heap.get? a with|none=>rfl|some ob=>rw[I.keep _ _ e]at jo;exact sN jo
 have TL:a∉D:=λm=>by refine ah (I.cls a m) λob Dg O=>?_;rw[jo]at Dg;exact nS Dg
 have ht:∀ c B',s.heap.IsTuple c B'->h'.IsTuple c B':=λc B' ⟨ob,Y,L,n,h3⟩=>⟨ob,hk _ _ Y,L,n,h3⟩;have AX:(D++[a])[N.n]?=f a:=by refine dR I.len ?_;simp
 refine qH ?_ ⟨qX,λc U'=>?_,λc ob O O e=>hk c ob e,λi hi=>?_,λi c ob O O e=>hk c ob e,λO m=>nomatch m⟩ AX
 .refine gx (I.same) λh t' fJ=>?_;subst fJ;refine⟨⟨h',t,X⟩,λc ob e=>hk c ob (I.keep c ob e),iN,I.yF,by exact J oi (J I.len (J hn X)),?_,?_,λc m=>?_,λi e Y=>?_⟩
  .refine J (propext UW) ⟨I.nodup,(by simp),?_⟩;intro x hx y hy;rw[az]at hy;subst hy;rintro rfl;exact TL hx
  .intro c m;rcases fG.mp m with m|m
   .exact I.fresh c m
   .rw[az]at m;clear U' qX TL AX jo ho;subst m;exact⟨QC,uJ (rU P7)⟩
  .rcases fG.mp m with m|m
   .exact ah (I.cls c m) λob Y L=>aK ob (hk _ _ Y) L
   .rw[az]at m;clear P7 qX QC TL AX jo ho;subst m;exact U'
  .rw[he]at Y;split at Y
   rename_i q
   rotate_left;rotate_left
   .subst q;obtain rfl:=aw Y;exact aK a AX (ho ht qX)
   .refine ah (I.obj i e Y) λc L h3=>?_;exact aK c (vV qX L) (h3.keeps ht qX λob e=>hk c ob e)
 .rcases fG.mp U' with m|m
  .exact .inl m
  .rw[az]at m;clear P7 ho qX QC TL AX U';clear U';subst m;exact .inr jo
 .refine sd ?_;exact J (he _) (J (ak (by rw[<-I.len];exact jg hi)) X)
theorem Inv.upd(I:Inv H w b s D N){t:Tok}{i:a_}{a:bU}(hi:D[i]?=f a)(hm:N.getM i=f o)(hs:r_ a s.heap h')(U':∃ ob,h'.get? a=f ob/\(ob.cls=.type "list"\/ob.cls=.type "dict")) (hp:N.set i o'=f T') (ho:(∀ c B',s.heap.IsTuple c B'->h'.IsTuple c B')->yE H w b.heap h' D a o') :
  Inv H w b {s with heap:=h',toks:=t} D T'/\dB [] s {s with heap:=h',toks:=t} D D N T':=by
 obtain⟨hn,he⟩:=Df hp;have hme:=De hm;have fC:a∈D:=dU hi;have ht:∀ c B',s.heap.IsTuple c B'->h'.IsTuple c B':=λc B' t=>by have d9:c≠a:=λq=>I.AU t (q▸fC);obtain⟨ob,Y,L,n,h3⟩:=t;exact⟨ob,(hs.2 c d9).trans Y,L,n,h3⟩
 have hfl:∀ j,T'.flag j=N.flag j:=λj=>by
  by_cases q:j=i
  .clear hi hm hp;subst q;exact J (jU (e:=⟨N',o'⟩) (by exact J (he _) (J (ai X) X))) (J (jU hme) X)
  .exact sd (by exact J (he _) (J (ak q) X))
 refine⟨?_,⟨eS,λO h=>.inl h,λc ob Y O h3=>(hs.2 c λq=>Y (q▸fC)).trans h3,λj O=>hfl j,λj c ob Y L h3=>?_,λO m=>nomatch m⟩⟩
 ·((refine gx (I.same) λh t' fJ=>?_;subst fJ));refine⟨⟨h',t,X⟩,λc ob e=>?_,by refine J hs.1 ?_;exact I.low,I.yF,I.len.trans hn.symm,I.nodup,I.fresh,λc m=>?_,λj e Y=>?_⟩
  .have d9:c≠a:=λq=>by rw[q,(I.fresh a fC).1]at e;exact nS e
   exact(hs.2 c d9).trans (I.keep c ob e)
  .by_cases q:c=a
   .clear hi fC hs ho;subst q;exact U'
   .exact ah (I.cls c m) λob Y L=>aK ob ((hs.2 c q).trans Y) L
  .rw[he]at Y;split at Y
   rename_i q
   rotate_left
   rename_i q
   rotate_left
   .clear hm hp he hme;subst q;obtain rfl:=aw Y;exact aK a hi (ho ht)
   .refine ah (I.obj j e Y) λc L h3=>?_;(refine aK c L (h3.keeps ht eS λob h4=>(hs.2 c λr=>q ?_).trans h4));clear U' fC hs ho;subst r;exact zN I.nodup L hi
 .have d9:c≠a:=λq=>by clear hs U' ho fC;subst q;clear hm hp he;obtain rfl:=zN I.nodup Y hi;rw[jU hme]at L;exact fT L
  exact(hs.2 c d9).trans h3
theorem Inv.kE(I:Inv H w b s D N)(hp:N.kE i K'=f T'):Inv H w b s D T':=by
 refine bY (oO hp) λe Y L h3=>⟨I.same,I.keep,I.low,I.yF,I.len.trans L.symm,I.nodup,I.fresh,I.cls,λj e' h4=>?_⟩;rw[h3]at h4;split at h4
 rename_i q
 rotate_left;rotate_left
 .clear hp h3;subst q;obtain rfl:=aw h4;exact I.obj j e Y
 .exact I.obj j e' h4
end
structure Fy(A:da):Prop where
 hh:A.handled=V
 un:A.units+200<zk
section
variable{w:dc}{b s:aJ}{D F':cc}{N T':St}{A:da}{E:cM}
def fK(H:z_)(w:dc)(b s:aJ)(D:cc)(N T':St)(z:AV)(Q:cM):Prop:=
 ∀ v s' b9,Inv H w b s' b9 T'->dB [] s s' D b9 N T'->bB b.heap s'.heap b9 z v->Q v s'
def se(H:z_)(w:dc)(b s:aJ)(D:cc)(N T':St)(Q:aJ->Prop):Prop:=
 ∀ s' b9,Inv H w b s' b9 T'->dB [] s s' D b9 N T'->Q s'
theorem fK.tok{Q:cM}(k:fK H w b s D N N z Q)(I:Inv H w b s D N){t:Tok}(r:bB b.heap s.heap D z v):Q v {s with toks:=t}:=
 k _ _ _ (I.toks t).1 (I.toks t).2 r
theorem fK.tE{Q:cM}(k:fK H w b s D N N z Q)(I:Inv H w b s D N)(r:bB b.heap s.heap D z v):Q v s:=
 k _ _ _ I (dB.refl _ _ _ _) r
theorem fK.more{Q:cM}(k:fK H w b s D N N z Q)(I:Inv H w b s D N){t:Tok}(hk:∀ a o,s.heap.get? a=f o->h'.get? a=f o)(iN:i_<h'.objs.size)(r:bB b.heap h' D z v):Q v {s with heap:=h',toks:=t}:=
 k _ _ _ (I.more (t:=t) hk iN).1 (I.more hk iN).2 r
theorem Inv.gZ(I:Inv H w b s D N){h':cE}(hk:∀ a o,s.heap.get? a=f o->h'.get? a=f o):i_<h'.objs.size:=
 pV I.yF λa o e=>hk a o (I.keep a o e)
theorem fL{h:cE}(o:Obj)(l:i_<h.objs.size):i_<(h.push o).objs.size:=by exact J (yB _ _) (wm l)
theorem wK{h:cE}(M:dG):(h.push {cls:=.type "tuple",data:=.seq M.toArray}).IsTuple h.objs.size M.toArray:=
 ⟨_,j4 _ X,X,0,X⟩
theorem dJ(h:cE):h.get? h.objs.size=V:=by cases e:h.get? h.objs.size with|none=>rfl|some o=>exact g_ (mF e) (CL _)
theorem fK.tuple{Q:cM}(k:fK H w b s D N N (.tup Z) Q)(I:Inv H w b s D N)(r:aG b.heap s.heap D Z M) :
  Q (.ref s.heap.objs.size) {s with heap:=s.heap.push {cls:=.type "tuple",data:=.seq M.toArray}}:=by
 have hk:∀ a o,s.heap.get? a=f o->(s.heap.push {cls:=.type "tuple",data:=.seq M.toArray}).get? a=f o:=λa o e=>kC _ e;have vs:=I.more (t:=s.toks) hk (fL _ I.low);exact k _ _ _ vs.1 vs.2 (bB.tup (wK M) (I.Fx vs.2 aX.nil r))
theorem fK.list{Q:cM}(hp:N.push (.list Z)=f T')(k:fK H w b s D N T' (.ref N.n) Q)(I:Inv H w b s D N)(r:aG b.heap s.heap D Z M){t:Tok}(hk:∀ c ob,s.heap.get? c=f ob->h'.get? c=f ob)(jo:s.heap.get? a=V) (P7:i_<a) (iN:i_<h'.objs.size) (hl:h'.PlainList a M.toArray):Q (.ref a) {s with heap:=h',toks:=t}:=by
 obtain⟨n,hg⟩:=hl;have vs:=I.alloc (t:=t) hk jo P7 iN ⟨_,hg,.inl X⟩ hp λht hq=>⟨M,⟨n,hg⟩,r.mono ht hq⟩;exact k _ _ _ vs.1 vs.2.1 (bB.ref vs.2.2)
theorem fK.mM{Q:cM}(hp:N.push (.list Z)=f T')(k:fK H w b s D N T' (.ref N.n) Q)(I:Inv H w b s D N)(r:aG b.heap s.heap D Z M)(he:its=M.toArray) :
  Q (.ref s.heap.objs.size) {s with heap:=s.heap.push {cls:=.type "list",data:=.seq its}}:=by
 subst he;exact fK.list (t:=s.toks) hp k I r (λc ob e=>kC _ e) (dJ _) I.low (fL _ I.low) ⟨0,j4 _ X⟩
noncomputable def binOp:AL->A?|.add=>.Add|.sub=>.Sub|.mul=>.Mult|.fdiv=>.FloorDiv|.mod=>.Mod|.pow=>.Pow
noncomputable def MU:AM->CmpOp|.eq=>.Eq|.ne=>.NotEq|.lt=>.Lt|.le=>.LtE|.gt=>.Gt|.ge=>.GtE
theorem AY(h:a.natAbs<2^63)(L:c.natAbs<2^63):IntMulOk a c:=by mul_fits
theorem QE{t u:Tok}{Q:cM}(e:cU o x y=f z)(k:∀ t t',Q (.int z t) {s with toks:=t'}) :
  b_ (c_ H w) A (binaryOp (binOp o) (.int x t) (.int y u)) Q E s:=by
 cases o with|add=>(dsimp only[cU]at e;rw[dN]at e);subst e;exact PyProof.Rows.add_int (k _ _)|sub=>(dsimp only[cU]at e;rw[dN]at e);subst e;exact PyProof.Rows.sub_int (k _ _)|mul=>revert e;refine aZ (λq e=>?_) nS;simp only[dN]at e;subst e;exact PyProof.Rows.mul_int (k _ _) (AY q.1 q.2)|fdiv=>revert e;refine aZ (λq e=>?_) nS;simp only[dN]at e;subst e;exact PyProof.Rows.floordiv_int q.1 (k _ _) (Or.inl (PyProof.noPylong_small q.2))|mod=>revert e;refine C7 nS λq e=>?_;simp only[dN]at e;subst e;exact PyProof.Rows.mod_int' q (k _ _)|pow=>dsimp only[cU]at e;revert e;refine YV (λn br=>?_);subst br;refine aZ (λq e=>?_) nS;simp only[dN]at e;subst e;exact PyProof.Rows.pow_int_small (n:=(n:G)) (Qm n) (by lia) (by lia) (by simpa using k _ _)
theorem wL(n:a_)(r:bB J' h D x v):aG J' h D (k_ n x) (k_ n v):=by induction n with|zero=>exact aG.nil|succ n ih=>exact aG.cons r ih
theorem JE(v:aY):∀(n:a_) (G':T_ aY),List.foldl (λx1 x2=>x1++x2) G' (k_ n #[v])=G'++(k_ n v).toArray:=λw'=>by induction w' with|zero=>intro G';rfl|succ n ih=>intro G';simp only[HR,List.foldl_cons,ih,HR];apply Array.ext';simp
theorem AZ{v:aY}{k:a_}{x:G}{u:Tok}{Q:cM}(hl:s.heap.get? l=f {cls:=.type "list",dict:=V,data:=.seq #[v] k,slots:=#[]})(h0:0<=x) (hx:x<=1000000) (h:Q (.ref s.heap.objs.size) {s with heap:=s.heap.push {cls:=.type "list",data:=.seq (k_ x.toNat v).toArray}}) :
  b_ (c_ H w) A (binaryOp .Mult (.ref l) (.int x u)) Q E s:=
 wpAny_binaryOp_repeat_ref (T:="list") (U:="int") (by decide) ⟨_,hl,X⟩ (λs'=>typeIs_int s' x u) noFill_list_mul F.fills_int_mul F.slot_int_rmul repeat_list F.slot_int_index.lookup
  (CP F.slot_int_rmul (typeIs_int s x u) F.entry_int_rmul (F.args_int_rmul_2 _ _) (int___rmul___int_list x u l #[v] k)
   ⟨hl,X,⟨_,hl,X⟩,CP F.slot_list_mul ⟨_,hl,X⟩ F.entry_list_mul (F.args_list_mul_2 _ _)
    (AutoListH.list___mul___list_int_3 l #[v] k x u (by simp[Builtin.List.listFitsIndex];lia) (by simp;lia) (by simp[Builtin.List.listTooLong,d?];lia))
    ⟨hl,by
     exact J (X:(if (#[v]:T_ aY).isEmpty=R then 0 else x.toNat)=x.toNat) (J (JE _ _ _) (J Array.empty_append h))⟩⟩)
theorem Vp{Q:cM}(I:Inv H w b s D N)(rx:bB b.heap s.heap D x u)(ry:bB b.heap s.heap D y v)(e:ot N o x y=f (T',z))(k:fK H w b s D N T' z Q) :
  b_ (c_ H w) A (binaryOp (binOp o) u v) Q E s:=by
 dsimp only[ot]at e;revert e;refine acE (λx y br bK e=>?_) (λi j br bK e=>?_) (λi kk br bK e=>?_);subst br;subst bK;rotate_left;subst br;subst bK;rotate_left;subst br;subst bK;rotate_left
 .revert e;refine gP (λz' ez e=>?_);revert k;refine gI e ?_;intro k;refine cz (rx.int_inv) λt aL=>?_;clear rx;subst aL;refine cz (ry.int_inv) λt' aL=>?_;clear ry;subst aL;exact QE ez λt1 t2=>k.tok I (bB.int _ _)
 .revert e;refine YX (λbr=>?_);subst br;refine acF (λZ ys ex ey=>aZ (λhz=>?_) nS);refine dv (λs' ep e=>?_);revert k;refine gI e ?_;intro k;refine ia λGq zq=>?_;obtain⟨a,M,eE,Y,⟨n1,L⟩,h3⟩:=I.cT ex rx;clear rx;subst eE;obtain⟨c,us,iA,h4,⟨n2,h5⟩,h6⟩:=I.cT ey ry;clear ry;subst iA;refine zq ?_;clear zq;refine P.add_list (n:=n1) (n2:=n2) L h5 (fK.mM ep k I (h3.append h6) (by simp)) ?_;simp only[dX,dX,h3.length,h6.length,wy]
  have:=hz.1
  have:=hz.2
  unfold lim at *;lia
 .revert e;refine YW (λbr=>?_);subst br;refine acG (λv0 ex=>aZ (λhk=>?_) nS);refine dv (λs' ep e=>?_);revert k;refine gI e ?_;intro k;refine ia λGq zq=>?_;obtain⟨a,M,j5,Y,⟨n1,L⟩,h3⟩:=I.cT ex rx;clear rx;subst j5;obtain⟨t,mj⟩:=ry.int_inv;clear ry;subst mj;dsimp only[aG]at h3;obtain⟨v1,r1,oN,hv,qv⟩:=h3;subst oN;subst qv;refine cz (hv.int_inv) λt1 aL=>?_;clear hv;subst aL;refine zq ?_;clear zq;refine AZ L (by lia) (by lia) (fK.mM ep k I (wL _ (bB.int _ _)) X)
theorem QF{Q:cM}(k:Q (.bool (cmpInt o x y)) s) :
  b_ (c_ H w) A (D? (MU o) (.int x t) (.int y u)) Q E s:=by
 cases o with|eq=>exact PyProof.Rows.eq_int k|ne=>exact PyProof.Rows.ne_int k|lt=>exact Th k|le=>exact PyProof.Rows.le_int k|gt=>exact Tg k|ge=>exact PyProof.Rows.ge_int k
end
end Mine.Internal
end
section
open PySem PyProof.Rows PySem.SeqAt PySem.MeetsSeq PySem.SeqRoads2
open AutoSeq1 (wpAny_loadPart')
namespace Mine.Internal
section
variable{H:z_}{w:dc}{A:da}{E:cM}{s:aJ}
def jV(op:CmpOp)(A:da)(s:aJ)(y x:aY)(b:e_):Prop:=
 ∀(H:z_) (w:dc) (E:cM) (Q:cM),Q (.bool b) s->b_ (c_ H w) A (richCompare op y x) Q E s
inductive jq(op:CmpOp)(A:da)(s:aJ)(v:e_):dG->dG->e_->Prop
 |QG (ys:dG):jq op A s v [] ys v
 |Vq (Z:dG):jq op A s v Z [] v
 |same {x y:aY} {Z ys:dG} {r:e_}:EqAt A s x y R->jq op A s v Z ys r->jq op A s v (x::Z) (y::ys) r
 |diff {x y:aY} {Z ys:dG} {r:e_}:EqAt A s x y N'->(op=.Eq->r=N')->(op=.NotEq->r=R)->(op≠.Eq->op≠.NotEq->jV op A s x y r)->jq op A s v (x::Z) (y::ys) r
theorem sh{op:CmpOp}{T:Type}{ρ:e_->T}{body:aY × aY->af T × j?->Sem (ForInStep (af T × j?))}{hc:af T × j?->aJ->Prop}{v r:e_}{Z ys:dG}(Y:∀ x y R',EqAt A s x y R->R' (.yield (V,())) s->b_ (c_ H w) A (body (x,y) (V,())) R' E s)(L:∀ x y R',EqAt A s x y N'->(op=.Eq->r=N')->(op=.NotEq->r=R)->(op≠.Eq->op≠.NotEq->jV op A s x y r)->R' (.done (f (ρ r),())) s->b_ (c_ H w) A (body (x,y) (V,())) R' E s)(hd:hc (f (ρ r),()) s) (hn:r=v->hc (V,()) s) (hw:jq op A s v Z ys r):b_ (c_ H w) A (forIn (List.zip Z ys) (V,()) body) hc E s:=by
 induction hw with|QG ys=>exact J List.zip_nil_left (J HM (cy (hn X)))|Vq Z=>exact J List.zip_nil_right (J HM (cy (hn X)))|same he O ih=>exact J uQ (J (CT _ _ _ _) (aU (Y _ _ _ he (ih L hd hn))))|diff he a b c=>exact J uQ (J (CT _ _ _ _) (aU (L _ _ _ he a b c (cy hd))))
theorem yH{P:Fin->aJ->Prop}(hx:s.heap.IsTuple a Z)(hy:s.heap.IsTuple c ys)(hv:u_ .Lt Z.size ys.size=.bool v)(hw:jq .Lt A s v Z.toList ys.toList r) (h:P (.done (.ret (.bool r))) s):b_ (c_ H w) A (Builtin.«tuple.__lt__» ⟨[.ref a,.ref c],[]⟩) P E s:=by
 have LJ:s.TypeIs (.ref c) "tuple":=bY hy λo ho U' O=>⟨o,ho,U'⟩;refine ia λGq zq=>?_;obtain⟨oa,Vr,_,na,Vt⟩:=hx;obtain⟨ob,Dg,_,nb,Vu⟩:=hy;refine zq ?_;clear zq;show b_ _ _ (isInstance (.ref c) (.type "tuple") >>= _) _ _ s;exact aU (wB LJ HN (aU (uP Vr Vt (aU (uP Dg Vu (aU (sh (ρ:=λb=>.done (.ret (.bool b))) (λx y R' he k=>aU (he H w _ _ (cy k))) (λx y R' he O O L k=>aU (he H w _ _ (aU (qC (aU (L (by decide) (by decide) H w _ _ (aU (cy (cy k))))))))) (cy h) (λe=>cy (by clear hw;subst e;rw[<-hv]at h;exact h)) hw)))))))
theorem yI{P:Fin->aJ->Prop}(hx:s.heap.IsTuple a Z)(hy:s.heap.IsTuple c ys)(hv:u_ .Gt Z.size ys.size=.bool v)(hw:jq .Gt A s v Z.toList ys.toList r) (h:P (.done (.ret (.bool r))) s):b_ (c_ H w) A (Builtin.«tuple.__gt__» ⟨[.ref a,.ref c],[]⟩) P E s:=by
 have LJ:s.TypeIs (.ref c) "tuple":=bY hy λo ho U' O=>⟨o,ho,U'⟩;refine ia λGq zq=>?_;obtain⟨oa,Vr,_,na,Vt⟩:=hx;obtain⟨ob,Dg,_,nb,Vu⟩:=hy;refine zq ?_;clear zq;show b_ _ _ (isInstance (.ref c) (.type "tuple") >>= _) _ _ s;exact aU (wB LJ HN (aU (uP Vr Vt (aU (uP Dg Vu (aU (sh (ρ:=λb=>.done (.ret (.bool b))) (λx y R' he k=>aU (he H w _ _ (cy k))) (λx y R' he O O L k=>aU (he H w _ _ (aU (qC (aU (L (by decide) (by decide) H w _ _ (aU (cy (cy k))))))))) (cy h) (λe=>cy (by clear hw;subst e;rw[<-hv]at h;exact h)) hw)))))))
theorem wM{P:Fin->aJ->Prop}(hx:s.heap.IsTuple a Z)(hy:s.heap.IsTuple c ys)(hv:u_ .Eq Z.size ys.size=.bool v)(hw:jq .Eq A s v Z.toList ys.toList r) (h:P (.done (.ret (.bool r))) s):b_ (c_ H w) A (Builtin.«tuple.__eq__» ⟨[.ref a,.ref c],[]⟩) P E s:=by
 have LJ:s.TypeIs (.ref c) "tuple":=bY hy λo ho U' O=>⟨o,ho,U'⟩;refine ia λGq zq=>?_;obtain⟨oa,Vr,_,na,Vt⟩:=hx;obtain⟨ob,Dg,_,nb,Vu⟩:=hy;refine zq ?_;clear zq;show b_ _ _ (isInstance (.ref c) (.type "tuple") >>= _) _ _ s;exact aU (wB LJ HN (aU (uP Vr Vt (aU (uP Dg Vu (aU (sh (ρ:=λb=>.done (.ret (.bool b))) (λx y R' he k=>aU (he H w _ _ (cy k))) (λx y R' he h0 Y O k=>aU (he H w _ _ (by rw[h0 X]at k;exact cy k))) (cy h) (λe=>cy (by clear hw;subst e;rw[<-hv]at h;exact h)) hw)))))))
theorem yJ{P:Fin->aJ->Prop}(hx:s.heap.IsTuple a Z)(hy:s.heap.IsTuple c ys)(hv:u_ .NotEq Z.size ys.size=.bool v)(hw:jq .NotEq A s v Z.toList ys.toList r) (h:P (.done (.ret (.bool r))) s):b_ (c_ H w) A (Builtin.«tuple.__ne__» ⟨[.ref a,.ref c],[]⟩) P E s:=by
 have LJ:s.TypeIs (.ref c) "tuple":=bY hy λo ho U' O=>⟨o,ho,U'⟩;refine ia λGq zq=>?_;obtain⟨oa,Vr,_,na,Vt⟩:=hx;obtain⟨ob,Dg,_,nb,Vu⟩:=hy;refine zq ?_;clear zq;show b_ _ _ (isInstance (.ref c) (.type "tuple") >>= _) _ _ s;exact aU (wB LJ HN (aU (uP Vr Vt (aU (uP Dg Vu (aU (sh (ρ:=λb=>.done (.ret (.bool b))) (λx y R' he k=>aU (he H w _ _ (cy k))) (λx y R' he h0 Y O k=>aU (he H w _ _ (by rw[Y X]at k;exact cy k))) (cy h) (λe=>cy (by clear hw;subst e;rw[<-hv]at h;exact h)) hw)))))))
theorem jV.tuples(ho:op=.Eq\/op=.NotEq\/op=.Lt\/op=.Gt)(hx:s.heap.IsTuple a Z)(hy:s.heap.IsTuple c ys)(hv:u_ op Z.size ys.size=.bool v)(hu:A.units<zk) (hw:jq op A.in1 s v Z.toList ys.toList r):jV op A s (.ref a) (.ref c) r:=λH w E Q h=>by
 have TM:s.TypeIs (.ref a) "tuple":=bY hx λo ho U' O=>⟨o,ho,U'⟩;have LJ:s.TypeIs (.ref c) "tuple":=bY hy λo ho U' O=>⟨o,ho,U'⟩;rcases ho with rfl|rfl|rfl|rfl
 .exact HY (op:=.Eq) TM LJ UC (iE UC TM F.entry_tuple_eq (wM hx hy hv hw ⟨_,X,(λe=>nomatch e),h⟩) (F.args_tuple_eq_2 _ _)) hu
 .exact HY (op:=.NotEq) TM LJ F.slot_tuple_ne (iE F.slot_tuple_ne TM F.entry_tuple_ne (yJ hx hy hv hw ⟨_,X,(λe=>nomatch e),h⟩) (F.args_tuple_ne_2 _ _)) hu
 .exact HY (op:=.Lt) TM LJ F.slot_tuple_lt (iE F.slot_tuple_lt TM F.entry_tuple_lt (yH hx hy hv hw ⟨_,X,(λe=>nomatch e),h⟩) (F.args_tuple_lt_2 _ _)) hu
 .exact HY (op:=.Gt) TM LJ F.slot_tuple_gt (iE F.slot_tuple_gt TM F.entry_tuple_gt (yI hx hy hv hw ⟨_,X,(λe=>nomatch e),h⟩) (F.args_tuple_gt_2 _ _)) hu
theorem jV.lt_int(a c:G)(t u:Tok):jV .Lt A s (.int a t) (.int c u) (decide (a<c)):=λH w E Q h=>Th h
theorem jV.gt_int(a c:G)(t u:Tok):jV .Gt A s (.int a t) (.int c u) (decide (c<a)):=λH w E Q h=>Tg h
end
section
variable{w:dc}{A:da}{E:cM}{s:aJ}
theorem tG{h:cE}{a:bU}{x y:T_ aY}(hx:h.IsTuple a x)(hy:h.IsTuple a y):x=y:=by obtain⟨o,ho,_,n,hd⟩:=hx;obtain⟨o',qw,_,n',uW⟩:=hy;rw[ho]at qw;cases qw;rw[hd]at uW;cases uW;rfl
variable{J':cE}{D:cc}
theorem Dh{K':AV->AV->af e_}(hf:∀ x y c v,K' x y=f c->bB J' s.heap D x v->bB J' s.heap D y v->c=R) :
  ∀(Z ys:al) (c:e_) (M:dG),Fh K' Z ys=f c->aG J' s.heap D Z M->aG J' s.heap D ys M->c=R:=by
 intro w';induction w' with|nil=>(intro z1;cases z1 with|nil=>intro c O e O O;(dsimp only[Fh]at e;rw[dN]at e);exact e.symm|cons y ys=>intro c M e rx ry;exact g_ (rx.length.symm.trans ry.length) (by simp))|cons x Z ih=>intro z1;cases z1 with|nil=>intro c M e rx ry;exact g_ (rx.length.symm.trans ry.length) (by simp)|cons y ys=>intro c M e rx ry;refine ia λGq zq=>?_;dsimp only[aG]at rx ry;obtain⟨v,r,eE,Y,L⟩:=rx;subst eE;obtain⟨v',r',e',h3,h4⟩:=ry;cases e';revert e;refine eG (λp hp=>eG (λq hq e=>?_));simp only[dN]at e;subst e;refine zq ?_;clear zq;(refine J (hf _ _ _ _ hp Y h3) (J (ih ys q _ hq L h4) ?_));rfl
theorem QH(b:e_):(b==R)=b:=by cases b<;>rfl
theorem oQ(e:fk d x y=f c):(∃ a b,x=.int a/\y=.int b/\decide (a=b)=c)\/∃ d' Z ys,d'<d/\x=.tup Z/\y=.tup ys/\Fh (fk d') Z ys=f c/\d=d'+1:=by cases d<;>cases x<;>first|exact nS e|(cases y<;>first|exact nS e|exact .inl ⟨_,_,X,X,aw e⟩|exact .inr ⟨_,_,_,lN _,X,X,e,X⟩)
theorem JF(e:kW gt d x y=f c):(∃ a b,x=.int a/\y=.int b/\(if gt then decide (b<a) else decide (a<b))=c)\/∃ d' Z ys,d'<d/\x=.tup Z/\y=.tup ys/\rY (fk d') (kW gt d') (if gt then decide (ys.length<Z.length) else decide (Z.length<ys.length)) Z ys=f c/\d=d'+1:=by cases d<;>cases x<;>first|exact nS e|(cases y<;>first|exact nS e|exact .inl ⟨_,_,X,X,aw e⟩|exact .inr ⟨_,_,_,lN _,X,X,e,X⟩)
theorem JG(d:a_):∀(x y:AV) (c:e_) (v:aY),fk d x y=f c->bB J' s.heap D x v->bB J' s.heap D y v->c=R:=by induction d using oL with|ind d ih=>
  intro x y c v e rx ry;rcases oQ e with ⟨a,c',rfl,rfl,rfl⟩|⟨d',Z,ys,hd,rfl,rfl,e,_⟩
  .obtain⟨t,iA⟩:=rx.int_inv;clear rx;subst iA;obtain⟨t',e'⟩:=ry.int_inv;cases e';exact bP X
  .refine aW (rx.bD) λa M aL Y L=>?_;clear rx;subst aL;refine aW (ry.bD) λa' eT e' h3 h4=>?_;cases e';have hv:M=eT:=by simpa using tG Y h3
   clear h3;subst hv;exact Dh (ih d' hd) Z ys c M e L h4
theorem Fz{K':AV->AV->af e_}(hf:∀ x y c u v,K' x y=f c->bB J' s.heap D x u->bB J' s.heap D y v->EqAt A s u v c)(b:e_)(Io:(op=.Eq/\b=R)\/(op=.NotEq/\b=N')) :
  ∀(Z ys:al) (c:e_) (us M:dG),Fh K' Z ys=f c->aG J' s.heap D Z us->aG J' s.heap D ys M->jq op A s (decide (us.length=M.length)==b) us M (c==b):=by
 intro w'
 induction w' with
 |nil=>intro z1;cases z1 with|nil=>intro c us M e rx ry;dsimp only[aG]at rx ry;subst rx ry;dsimp only[Fh]at e;rw[dN]at e;subst e;exact .QG _|cons y ys=>
   intro c us M e rx ry;dsimp only[aG]at rx;subst rx;have hl:=ry.length;dsimp only[Fh]at e;rw[dN]at e;subst e
   have:decide (([]:dG).length=M.length)=N':=by refine J hl ?_;rfl
   exact J this (.QG _)
 |cons x Z IH=>
  intro z1
  cases z1 with
  |nil=>
   intro c us M e rx ry;dsimp only[aG]at ry;subst ry;have hl:=rx.length;dsimp only[Fh]at e;rw[dN]at e;subst e
   have:decide (us.length=([]:dG).length)=N':=by refine J hl ?_;rfl
   exact J this (.Vq _)
  |cons y ys=>intro c us M e rx ry;dsimp only[aG]at rx ry;obtain⟨u,r,j5,Y,L⟩:=rx;subst j5;obtain⟨v,r',mj,h3,h4⟩:=ry;subst mj;revert e;refine eG (λp hp=>eG (λq hq e=>?_));simp only[dN]at e;subst e;refine J (by simp:decide ((u::r).length=(v::r').length)=decide (r.length=r'.length)) ?_;have he:=hf _ _ _ _ _ hp Y h3;have ih:=IH ys q r r' hq L h4;cases p with|true=>exact .same he ih|false=>
    refine .diff he (λh=>?_) (λh=>?_) (λY L=>?_)
    .rcases Io with ⟨_,rfl⟩|⟨q,_⟩
     .rfl
     .rw[h]at q;cases q
    .rcases Io with ⟨q,_⟩|⟨_,rfl⟩
     .rw[h]at q;cases q
     .rfl
    .rcases Io with ⟨q,_⟩|⟨q,_⟩
     .exact g_ q Y
     .exact g_ q L
theorem si(d:a_):∀{A:da} (x y:AV) (c:e_) (u v:aY),fk d x y=f c->bB J' s.heap D x u->bB J' s.heap D y v->A.units+d<zk->EqAt A s u v c:=by induction d using oL with|ind d ih=>
  intro A x y c u v e rx ry hu;rcases oQ e with ⟨a,c',rfl,rfl,rfl⟩|⟨d',Z,ys,hd,rfl,rfl,e,rfl⟩
  .obtain⟨t,rfl⟩:=rx.int_inv;refine cz (ry.int_inv) λt' aL=>?_;clear ry;subst aL;exact(EqGives.int _ _ _ _).at _ _
  .refine aW (rx.bD) λa us aL Y L=>?_;clear rx;subst aL;refine aW (ry.bD) λc' M aL h3 h4=>?_;subst aL;by_cases hac:a=c'
   .clear ry;subst hac;have hv:us=M:=by simpa using tG Y h3
    clear h3;subst hv;exact J (Dh (JG d') Z ys c us e L h4) (EqAt.same _)
   .refine EqAt.of_refs hac ?_;have hw:=Fz (A:=A.in1) (op:=.Eq) (λx y c u v e r q=>ih d' hd x y c u v e r q (by show A.units+1+d'<zk;lia)) R (.inl ⟨X,X⟩) Z ys c us M e L h4;rw[QH,QH]at hw;exact jV.tuples (A:=A) (op:=.Eq) (.inl X) Y h3 (v:=decide (us.length=M.length)) X (by lia) (r:=c) hw
theorem QI{K' g:AV->AV->af e_}(hf:∀ x y c u v,K' x y=f c->bB J' s.heap D x u->bB J' s.heap D y v->EqAt A s u v c)(Io:op=.Lt\/op=.Gt)(hg:∀ x y c u v,g x y=f c->bB J' s.heap D x u->bB J' s.heap D y v->jV op A s u v c) (b:e_) :
  ∀(Z ys:al) (c:e_) (us M:dG),rY K' g b Z ys=f c->aG J' s.heap D Z us->aG J' s.heap D ys M->jq op A s b us M c:=by
 intro w';induction w' with|nil=>intro ys c us M e rx ry;dsimp only[aG]at rx;subst rx;dsimp only[rY]at e;rw[dN]at e;subst e;exact .QG _|cons x Z ih=>intro z1;cases z1 with|nil=>intro c us M e rx ry;dsimp only[aG]at ry;subst ry;dsimp only[rY]at e;rw[dN]at e;subst e;exact .Vq _|cons y ys=>
   intro c us M e rx ry;dsimp only[aG]at rx ry;obtain⟨u,r,qv,Y,L⟩:=rx;subst qv;obtain⟨v,r',vA,h3,h4⟩:=ry;subst vA;revert e;refine Ie (λhp e=>?_) (λhp e=>?_)
   .exact .same (hf _ _ _ _ _ hp Y h3) (ih ys c r r' e L h4)
   .refine .diff (hf _ _ _ _ _ hp Y h3) (λh=>?_) (λh=>?_) (λO O=>hg _ _ _ _ _ e Y h3)
    .rcases Io with q|q<;>(rw[h]at q;cases q)
    .rcases Io with q|q<;>(rw[h]at q;cases q)
theorem FA(gt:e_)(Io:op=if gt then .Gt else .Lt)(d:a_):∀{A:da} (x y:AV) (c:e_) (u v:aY),kW gt d x y=f c->bB J' s.heap D x u->bB J' s.heap D y v->A.units+d<zk->jV op A s u v c:=by induction d using oL with|ind d ih=>
  intro A x y c u v e rx ry hu;rcases JF e with ⟨a,c',rfl,rfl,rfl⟩|⟨d',Z,ys,hd,rfl,rfl,e,rfl⟩
  .refine cz (rx.int_inv) λt aL=>?_;clear rx;subst aL;refine cz (ry.int_inv) λt' aL=>?_;clear ry;subst aL;subst Io;cases gt with|true=>exact jV.gt_int _ _ _ _|false=>exact jV.lt_int _ _ _ _
  .refine aW (rx.bD) λa us aL Y L=>?_;clear rx;subst aL;refine aW (ry.bD) λc' M aL h3 h4=>?_;clear ry;subst aL;have Vv:op=.Lt\/op=.Gt:=by clear ih e;cases gt;exact .inl Io;exact .inr Io
   have hw:=QI (A:=A.in1) (op:=op) (λx y c u v e r q=>si d' x y c u v e r q (by show A.units+1+d'<zk;lia)) Vv
    (λx y c u v e r q=>ih d' hd x y c u v e r q (by show A.units+1+d'<zk;lia)) _ Z ys c us M e L h4
   refine jV.tuples (A:=A) (op:=op) (.inr (.inr Vv)) Y h3 ?_ (by lia) hw;refine dR L.length (dR h4.length ?_);subst Io;(clear e ih Vv hw;cases gt)<;>rfl
theorem FC(hi:i<3)(hj:j<3):(strTab i==strTab j)=decide (i=j):=(by decide +kernel:∀ i:Fin 3,∀ j:Fin 3,(strTab i==strTab j)=decide (i.1=j.1)) ⟨i,hi⟩ ⟨j,hj⟩
theorem PlainList.isList{h:cE}{a:bU}{B':T_ aY}(x:h.PlainList a B'):h.IsList a B':=cz x λn hn=>⟨_,hn,X,n,X⟩
variable{b:aJ}{N:St}
theorem wN{op:CmpOp}{us M:dG}{a c:bU}(Io:op=.Eq\/op=.NotEq)(hx:s.heap.PlainList a us.toArray)(hy:s.heap.PlainList c M.toArray)(hu:A.units<zk)(he:us.isEmpty||M.isEmpty){Q:cM}(k:Q (.bool (if op=.Eq then us.isEmpty&&M.isEmpty else !(us.isEmpty&&M.isEmpty))) s):b_ (c_ H w) A (D? op (.ref a) (.ref c)) Q E s:=by
 obtain⟨n1,L⟩:=hx;obtain⟨n2,h5⟩:=hy;by_cases hl:us.length=M.length
 .have e1:us=[]:=by cases us with|nil=>rfl|cons x Z=>cases M with|nil=>simp at hl|cons y ys=>exact fT he
  subst e1;have e2:M=[]:=by cases M with|nil=>rfl|cons y ys=>cases hl
  clear he hl;subst e2;rcases Io with yD|rfl
  .subst yD
   exact HS (op:=.Eq) ⟨_,L,X⟩ ⟨_,h5,X⟩ F.slot_list_eq F.entry_list_eq (F.args_list_eq_2 _ _) (list_eqAt a c _ _ n1 n2 V V #[] #[] X λO=>R)
    ⟨L,h5,λj Y O=>g_ Y (by simp),⟨(λx=>nomatch x),by simpa using k⟩⟩ hu
  .exact HS (op:=.NotEq) ⟨_,L,X⟩ ⟨_,h5,X⟩ F.slot_list_ne F.entry_list_ne (F.args_list_ne_2 _ _) (PySem.SeqAt.list_neAt a c _ _ n1 n2 V V #[] #[] X λO=>R)
    ⟨L,h5,λj Y O=>g_ Y (by simp),⟨(λx=>nomatch x),by simpa using k⟩⟩ hu
 .have hs:(us.toArray.size != M.toArray.size)=R:=by simpa using hl
  have QJ:(us.isEmpty&&M.isEmpty)=N':=by cases us with|nil=>(cases M with|nil=>exact g_ X hl|cons=>rfl)|cons=>rfl
  rcases Io with Dc|rfl
  .subst Dc
   exact HS (op:=.Eq) ⟨_,L,X⟩ ⟨_,h5,X⟩ F.slot_list_eq F.entry_list_eq (F.args_list_eq_2 _ _) (list_eq_lengthsAt a c _ _ n1 n2 V V #[] #[] hs)
    ⟨L,h5,⟨(λx=>nomatch x),by rw[QJ]at k;exact k⟩⟩ hu
  .exact HS (op:=.NotEq) ⟨_,L,X⟩ ⟨_,h5,X⟩ F.slot_list_ne F.entry_list_ne (F.args_list_ne_2 _ _) (PySem.SeqAt.list_ne_lengthsAt a c _ _ n1 n2 V V #[] #[] hs)
    ⟨L,h5,⟨(λx=>nomatch x),by rw[QJ]at k;exact k⟩⟩ hu
theorem jr(r:aG J' s.heap D Z M):M.isEmpty=Z.isEmpty:=by cases Z with|nil=>dsimp only[aG]at r;subst r;rfl|cons x Z=>dsimp only[aG]at r;obtain⟨v,r',rfl,_⟩:=r;rfl
theorem Vx{o:AM}{x y:AV}{c:e_}{u v:aY}{Q:cM}(hA:Fy A)(I:Inv H w b s D N)(rx:bB b.heap s.heap D x u)(ry:bB b.heap s.heap D y v)(e:fw N o x y=f c)(k:Q (.bool c) s) :
  b_ (c_ H w) A (D? (MU o) u v) Q E s:=by
 have hu:=hA.un;dsimp only[fw]at e;revert e;refine YY (λO O br bK e=>?_) (λZ ys br bK e=>?_) (λO O br bK e=>?_) (λO O br bK e=>?_);subst br;subst bK;rotate_left;subst br;subst bK;rotate_left;subst br;subst bK;rotate_left;subst br;subst bK;rotate_left
 .obtain⟨t,wI⟩:=rx.int_inv;clear rx;subst wI;obtain⟨t',AW⟩:=ry.int_inv;clear ry;subst AW;simp only[dN]at e;subst e;exact QF k
 .have TN:=rx;have ry':=ry;refine aW (rx.bD) λa us aL Y L=>?_;clear rx;subst aL;refine aW (ry.bD) λc' M aL h3 h4=>?_;clear ry;subst aL;revert e;refine YZ (λbr e=>?_) (λbr e=>?_) (λbr e=>?_) (λbr e=>?_);subst br;rotate_left;subst br;rotate_left;subst br;rotate_left;subst br;rotate_left
  .dsimp only[fk]at e;have hw:=Fz (A:=A.in1) (op:=.Eq) (λx y c u v e r q=>si 2 x y c u v e r q (by show A.units+1+2<zk;lia)) R (.inl ⟨X,X⟩) Z ys c us M e L h4;exact jV.tuples (A:=A) (op:=.Eq) (.inl X) Y h3 (v:=decide (us.length=M.length)) (by rfl) (by lia) (r:=c) (by simpa using hw) H w E Q k
  .dsimp only[fk]at e;revert e;refine eG (λp hp e=>?_);simp only[dN]at e;subst e;have hw:=Fz (A:=A.in1) (op:=.NotEq) (λx y c u v e r q=>si 2 x y c u v e r q (by show A.units+1+2<zk;omega)) N' (.inr ⟨X,X⟩) Z ys p us M hp L h4;exact jV.tuples (A:=A) (op:=.NotEq) (.inr (.inl X)) Y h3 (v:=!decide (us.length=M.length)) (by rfl) (by omega) (r:=!p) (by simpa using hw) H w E Q k
  .exact FA N' X 3 _ _ c _ _ e TN ry' (by lia) H w E Q k
  .exact FA R X 3 _ _ c _ _ e TN ry' (by omega) H w E Q k
 .obtain⟨Y,t,MT⟩:=rx.str_inv;clear rx;subst MT;obtain⟨L,t',Vy⟩:=ry.str_inv;clear ry;subst Vy;revert e;refine Y1 (λbr e=>?_);subst br;simp only[dN]at e;subst e;exact PyProof.Rows.eq_str (by exact J (FC Y L) k)
 .revert e;refine lS (λZ ex=>lS (λys ey=>cx (λhe e=>?_)));refine bA (I.cT ex rx) λa us aL Y L h3=>?_;clear rx;subst aL;refine bA (I.cT ey ry) λc' M aL h4 h5 h6=>?_;clear ry;subst aL;have QJ:us.isEmpty||M.isEmpty:=by(refine J (jr h3) (J (jr h6) ?_));exact he
  revert e;refine Y0 (λbr e=>?_) (λbr e=>?_);subst br;rotate_left;subst br;rotate_left
  .simp only[dN]at e;subst e;exact wN (op:=.Eq) (.inl X) L h5 (by omega) QJ (by(refine J (jr h3) (J (jr h6) ?_));exact k)
  .simp only[dN]at e;subst e;exact wN (op:=.NotEq) (.inr X) L h5 (by omega) QJ (by(refine J (jr h3) (J (jr h6) ?_));exact k)
theorem JH{Q:cM}(rx:bB J' s.heap D x v)(k:Q (.bool (x.isNone==y)) s) :
  b_ (c_ H w) A (D? (if y then .Is else .IsNot) v .none) Q E s:=by
 have hv:(v==C_)=x.isNone:=by clear k;cases x with|none=>exact J rx.none_inv X|bool=>exact J rx.bool_inv X|int=>(obtain⟨t,rfl⟩:=rx.int_inv;rfl)|str=>(obtain⟨_,t,rfl⟩:=rx.str_inv;rfl)|tup=>(refine eD (rx.bD) λO O aL O=>?_;clear rx;subst aL);rfl|fv=>(refine eD (rx.zM) λO O aL O=>?_;clear rx;subst aL);rfl|ref=>(refine ah (rx.Im) λO aL O=>?_;clear rx;subst aL);rfl|ub=>dsimp only[bB]at rx
 cases y with|true=>refine is_none (J hv ?_);simpa using k|false=>refine isNot_none (J hv ?_);simpa using k
theorem QK{K':AV->AV->af e_}(hf:∀ x y z c c' v,K' x z=f c->K' y z=f c'->bB J' s.heap D x v->bB J' s.heap D y v->c=c') :
  ∀(Z ys zs:al) (c c':e_) (M:dG),Fh K' Z zs=f c->Fh K' ys zs=f c'->aG J' s.heap D Z M->aG J' s.heap D ys M->c=c':=by
 intro w';induction w' with|nil=>(intro z1;cases z1 with|nil=>(intro zs c c' O e e' O O;rw[e]at e';cases e';rfl)|cons y ys=>intro zs c c' M e O rx ry;exact g_ (rx.length.symm.trans ry.length) (by simp))|cons x Z ih=>intro z1;cases z1 with|nil=>intro zs c c' M e O rx ry;exact g_ (rx.length.symm.trans ry.length) (by simp)|cons y ys=>intro z2;cases z2 with|nil=>intro c c' M e e' rx ry;dsimp only[Fh]at e e';rw[dN]at e e';exact dR e (dR e' X)|cons z zs=>intro c c' M e e' rx ry;refine ia λGq zq=>?_;dsimp only[aG]at rx ry;obtain⟨v,r,Vz,Y,L⟩:=rx;subst Vz;obtain⟨v',r',e'',h3,h4⟩:=ry;cases e'';dsimp only[Fh]at e e';revert e;refine eG (λp hp=>eG (λq hq e=>?_));revert e';refine eG (λp' hp'=>eG (λq' hq' e'=>?_));simp only[dN]at e e';refine zq ?_;clear zq;simp only[<-e,<-e',hf _ _ _ _ _ _ hp hp' Y h3,ih ys zs q q' r hq hq' L h4]
theorem MV(d:a_):∀(x y z:AV) (c c':e_) (v:aY),fk d x z=f c->fk d y z=f c'->bB J' s.heap D x v->bB J' s.heap D y v->c=c':=by induction d using oL with|ind d ih=>
  intro x y z c c' v e e' rx ry;rcases oQ e with ⟨a,a1,rfl,rfl,rfl⟩|⟨d',Z,zs,hd,rfl,rfl,e,E⟩
  .rcases oQ e' with ⟨b,b1,rfl,hb,rfl⟩|⟨_,_,_,_,_,hz,_⟩
   .cases hb;obtain⟨t,rfl⟩:=rx.int_inv;refine cz (ry.int_inv) λt' h=>?_;clear e' ry;cases h;rfl
   .cases hz
  .rcases oQ e' with ⟨_,_,_,hb,_⟩|⟨d'',ys,zs',_,rfl,hz,e',E'⟩
   .cases hb
   .cases hz;cases E;cases E';refine aW (rx.bD) λa M aL Y L=>?_;clear rx;subst aL;refine aW (ry.bD) λa' eT e1 h3 h4=>?_;cases e1;have hv:M=eT:=by simpa using tG Y h3
    clear h3;subst hv;exact QK (ih d' hd) _ _ _ c c' M e e' L h4
theorem Di(hu:A.units+3<zk)(rx:bB J' s.heap D x v)(ys:al)(c:e_)(us:dG)(h:ji x ys=f c)(r:aG J' s.heap D ys us) :
  ∃ e:aY->e_,(∀ y∈us,EqAt A s y v (e y))/\us.any e=c:=by
 classical
 have key:∀ y u p,fk 3 y x=f p->bB J' s.heap D y u->decide (∃ y',bB J' s.heap D y' u/\fk 3 y' x=f R)=p:=λy u p hp hr=>by cases p with|true=>exact bP ⟨y,hr,hp⟩|false=>refine bT ?_;rintro⟨y',Y,L⟩;exact g_ (MV 3 y' y x R N' u L hp Y hr) (by decide)
 refine⟨λu=>decide (∃ y',bB J' s.heap D y' u/\fk 3 y' x=f R),?_⟩;induction ys generalizing c us with|nil=>dsimp only[aG]at r;subst r;dsimp only[ji]at h;rw[dN]at h;subst h;exact⟨(λO m=>nomatch m),X⟩|cons y ys ih=>
  dsimp only[aG]at r;obtain⟨u,r',VA,Y,L⟩:=r;subst VA;revert h;refine eG (λp hp=>eG (λq hq h=>?_));simp only[dN]at h;subst h;refine cC (ih q r' hq L) λhe B=>?_;refine⟨λz hz=>?_,?_⟩
  .rcases aT.mp hz with acJ|hz
   .clear hz;subst acJ;show EqAt A s z v (decide _);exact J (key y z p hp Y) (si 3 _ _ _ _ _ hp Y rx hu)
   .exact he z hz
  .simp only[uI,B,key y u p hp Y]
end
end Mine.Internal
end
section
open PySem PyProof.Rows
namespace Mine.Internal
section
variable{w:dc}{b s:aJ}{D F':cc}{N T':St}{A:da}{E:cM}
noncomputable def isSlice (e:av):e_:=f_ e.ctorIdx 26
theorem iP(h:isSlice slice=N')(o i:aY):subscripted slice N' o i=operate [o,i] (getItem o i):=by cases slice<;>first|rfl|exact tF h
theorem ic:∀{k:al} {ks:aA},keyOf k=f ks->k=ks.map .int|[],ks,h=>by(dsimp only[keyOf]at h;rw[dN]at h);subst h;rfl|.int i::r,ks,h=>by revert h;refine fx (λk hk h=>?_);simp only[dN]at h;subst h;exact J (ic hk) X|.ub::_,_,h|.none::_,_,h|.bool _::_,_,h|.str _::_,_,h|.tup _::_,_,h|.fv _::_,_,h|.ref _::_,_,h=>by dsimp only[keyOf]at h;exact nS h
theorem yK:∀{ks:aA} {J' h:cE} {M:dG},aG J' h D (ks.map AV.int) M->ItemsAre (m? H w) ks M:=by intro w';induction w' with|nil=>intro O O O r;dsimp only[Gq,aG]at r;subst r;exact .nil|cons k ks ih=>intro O O O r;dsimp only[Gq,aG]at r;obtain⟨v,r',rfl,Y,L⟩:=r;obtain⟨t,rfl⟩:=Y.int_inv;exact .cons (by simp[m?,Value.isInt]) (ih L)
set_option tactic.hygienic true in
theorem yL:∀{ks:aA} {J' h:cE} {M:dG},ItemsAre (m? H w) ks M->aG J' h D (ks.map AV.int) M:=by intro w';induction w' with|nil=>(intro O O O r;cases r;exact aG.nil)|cons k ks ih=>intro O O O r;cases r with|cons Y L=>
   rename_i v M
   refine aG.cons ?_ (ih L)
   cases v with
   |int j t=>
    have:k=j:=by simp[m?,Value.isInt]at Y;lia
    clear Y;subst this;exact bB.int _ _
   |_=>exact fT Y
theorem g7(r:bB J' h D (.tup (ks.map .int)) v):∃ a,v=.ref a/\N? (m? H w) h ks a:=by obtain⟨a,M,j5,⟨o,Y,L,n,h3⟩,h4⟩:=r.bD;clear r;subst j5;exact⟨a,X,o,_,n,Y,L,h3,by simpa using yK h4⟩
theorem FD(x:N? (m? H w) h ks a):bB J' h D (iH ks) (.ref a):=by obtain⟨o,B',n,Y,L,h3,h4⟩:=x;exact bB.tup (M:=B'.toList) ⟨o,Y,L,n,by simpa using h3⟩ (yL h4)
theorem vW:∀{bJ:c9} {J' h:cE} {Z:d_ (aA × bU × aY)},cL J' h D bJ Z->∀(k:aA),(jR bJ k=V/\b? Z k=V)\/∃ x p,jR bJ k=f x/\b? Z k=f p/\bB J' h D x p.2:=by
 intro w';induction w' with|nil=>intro O O O r k;dsimp only[cL]at r;subst r;exact .inl ⟨X,X⟩|cons q bJ ih=>
  intro O O O r k;dsimp only[cL]at r;obtain⟨a,v,P6,rfl,Y,L⟩:=r;by_cases e:q.1=k
  .exact .inr ⟨q.2,(a,v),by simp[jR,e],by simp[b?,e],Y⟩
  .rcases ih L k with ⟨h3,h4⟩|⟨x,p,h3,h4,h5⟩
   .exact .inl ⟨by simp[jR,e,h3],by simpa [b?,e]using h4⟩
   .exact .inr ⟨x,p,by simp[jR,e,h3],by simpa [b?,e]using h4,h5⟩
theorem cL.length:∀{bJ:c9} {J' h:cE} {Z:d_ (aA × bU × aY)},cL J' h D bJ Z->Z.length=bJ.length:=by intro w';cases w' with|nil=>intro O O O r;dsimp only[cL]at r;subst r;rfl|cons q bJ=>intro O O O r;dsimp only[cL]at r;obtain⟨a,v,P6,rfl,Y,L⟩:=r;simp[L.length]
theorem Ip(hA:Fy A):(tk H w).room A:=by
 have:=hA.un
 show A.units<zk;lia
theorem mN(hA:Fy A):(tk H w).room A.in1:=by
 have:=hA.un
 show A.units+1<zk;lia
theorem wO{Q:cM}(hl:s.heap.IsList l M.toArray)(r:aG J' s.heap D Z M)(hz:Z.length<=lim)(e:Mt Z i=f z)(k:∀ v,bB J' s.heap D z v->Q v s):b_ (c_ H w) A (getItem (.ref l) (.int i t)) Q E s:=by
 have hlen:=r.length;dsimp only[lim]at hz;cases i with|ofNat n=>dsimp only[Mt]at e;refine ah (r.get e) λv Y L=>?_;have hn:n<M.length:=(mi.mp Y).1;exact wpAny_getItem_list hl (Qm n) (by show(n:G)<2^63;lia) (by simpa using Y) (k v L)|negSucc n=>
  revert e;refine aZ (λhn e=>?_) nS;refine ah (r.get e) λv Y L=>wpAny_getItem_list_neg hl (Yu n) ?_ ?_ ?_ (k v L)
  .refine J dX (J hlen (J (AK _) ?_));lia
  .simp only[AK];lia
  .refine J dX (J hlen ?_)
   have:(B? n+(Z.length:G)).toNat=Z.length-1-n:=by simp only[AK];exact c8 Int.toNat (Mo hn)
   refine J this ?_;simpa using Y
theorem A0(h:n<k):seqIndex? (w_ n) k=f n:=by
 unfold seqIndex?;have Y:¬ (w_ n<0):=by show ¬ ((n:G)<0);simp
 have L:(decide (0<=w_ n)&&decide (w_ n<(k:G)))=R:=by show(decide (0<=(n:G))&&decide ((n:G)<(k:G)))=R;simp;omega
 simp only[ak Y,L,gv];rfl
theorem seqIndex_neg(h:n<k):seqIndex? (B? n) k=f (k-1-n):=by
 unfold seqIndex?;have Y:B? n<0:=Yu n;have h3:B? n+(k:G)=((k-1-n:a_):G):=by simp only[AK];exact Mo h
 simp only[ai Y,h3];have L:(decide (0<=((k-1-n:a_):G))&&decide (((k-1-n:a_):G)<(k:G)))=R:=by simp;omega
 simp only[L,gv];rfl
theorem Dj{Q:cM}(hl:s.heap.IsTuple l M.toArray)(r:aG J' s.heap D Z M)(hz:Z.length<=lim)(e:Mt Z i=f z)(k:∀ v,bB J' s.heap D z v->Q v s):b_ (c_ H w) A (getItem (.ref l) (.int i t)) Q E s:=by
 have hlen:=r.length;dsimp only[lim]at hz;cases i with|ofNat n=>dsimp only[Mt]at e;refine ah (r.get e) λv Y L=>?_;have hn:n<M.length:=(mi.mp Y).1;refine getItem_tuple hl (j:=n) (by show -(2^63)<=(n:G);simp) (by show(n:G)<2^63;lia) ?_ (by simpa using Y) (k v L);exact J dX (A0 hn)|negSucc n=>
  revert e;refine aZ (λhn e=>?_) nS;refine ah (r.get e) λv Y L=>getItem_tuple hl (j:=Z.length-1-n) ?_ ?_ ?_ (by simpa using Y) (k v L)
  .simp only[AK];lia
  .simp only[AK];lia
  .refine J dX (J hlen ?_);exact seqIndex_neg hn
theorem VB{Q:cM}(hA:Fy A)(I:Inv H w b s D N)(rx:bB b.heap s.heap D x u)(ry:bB b.heap s.heap D y v)(e:ib N x y=f z)(hs:isSlice slice=N')(k:fK H w b s D N N z Q):b_ (c_ H w) A (subscriptTail value slice u v) Q E s:=by
 delta ib at e;revert e;refine Y6 (λZ i br bK e=>?_) (λn i br bK e=>?_) (λn kk br bK e=>?_);subst br;subst bK;rotate_left;subst br;subst bK;rotate_left;subst br;subst bK;rotate_left
 .revert e;refine aZ (λhz e=>?_) nS;refine aW (rx.bD) λa M aL Y L=>?_;clear rx;subst aL;obtain⟨t,qv⟩:=ry.int_inv;clear ry;subst qv;exact wA (T:="tuple") (bY Y λo ho U' O=>⟨o,ho,U'⟩) HU.lookup (Dj Y L hz e λv r=>k.tE I r) (iP hs _ _)
 .revert e;refine lS (λZ ex=>aZ (λhz e=>?_) nS);refine bA (I.cT ex rx) λa M aL h0 Y L=>?_;clear rx;subst aL;obtain⟨t,vA⟩:=ry.int_inv;clear ry;subst vA;exact wA (T:="list") Y.isList.typeIs HT.lookup (wO Y.isList L hz e λv r=>k.tE I r) (iP hs _ _)
 .revert e;refine Ib (λbJ ex=>fx (λks hk e=>?_));obtain rfl:=ic hk;refine bA (I.kG ex rx) λa Z aL h0 Y L=>?_;clear rx;subst aL;refine ah (g7 (w:=w) ry) λc bK h3=>?_;clear ry;subst bK;rcases vW L ks with ⟨q,_⟩|⟨x,p,h4,h5,h6⟩
  .rw[q]at e;exact nS e
  .rw[h4]at e;obtain rfl:=aw e;refine wA (T:="dict") Y.typeIs F.slot_dict_getitem.lookup (wpAny_getItem_heap (mN hA) h3 Y h5 ?_) (iP hs _ _);exact k.tok I h6
theorem zO{pos:Pos}{Q:cM}(h:b_ (c_ H w) A (z? (evalOpt l u')) (λlv cV=>b_ (c_ H w) A (z? (evalOpt u u')) (λuv oR=>
   Q (.ref oR.heap.objs.size) {oR with heap:=oR.heap.push {cls:=.type "slice",data:=.fields #[lv,uv,.none]}}) E cV) E s):b_ (c_ H w) A (H_ (.Slice l u V pos) u') Q E s:=by
 show b_ _ _ (do
  let l <-z? (evalOpt l u')
  let u <-t? [l] (z? (evalOpt u u'))
  let s <-t? [l,u] (z? (evalOpt V u'))
  newFields "slice" [l,u,s]) _ _ _
 refine aU (om h (λlv cV sj=>?_) λO O x=>x);refine aU (oj (om sj (λuv oR VC=>?_) λO O x=>x));exact aU (oj (cy (kU VC (by show(3:a_)<=d?+2;decide +kernel))))
theorem JI(k n:a_)(h:k<=n):l? V (f (k:G)) 1 (n:G)=(0,(k:G)):=by
 unfold l?;have Y:¬ ((1:G)<0):=by decide
 have L:¬ ((k:G)<0):=by simp
 simp only[Y,L,kS];congr 1;grind
theorem vB{C:bU}{k n:a_}{u:Tok}{Q:G × G × a_->aJ->Prop}(hs:s.heap.IsSliceOf C .none (.int k u) .none)(B:k<=n)(h:Q (0,1,k) s) :
  b_ (c_ H w) A (Builtin.Slice.sliceApplied (.ref C) (pure (n:G))) Q E s:=by
 refine bY (id hs) λos Zl hcs VD=>?_;delta Builtin.Slice.sliceApplied Builtin.Slice.sliceFields;refine aU (aU (qB Zl VD (x:=.none) X (aU (qB Zl VD (x:=.int k u) X (aU (qB Zl VD (x:=.none) X (cy (aU (slicePart_none ?_)))))))));refine J (ak (by decide)) (aU (slicePart_none (aU (slicePart_int (aU (cy ?_))))));show b_ _ _ (match l? V (f (k:G)) 1 (n:G) with|(lo,hi)=>pure (lo,(1:G),k? lo hi 1)) _ _ s;refine J (JI k n B) ?_;show b_ _ _ (pure ((0:G),(1:G),k? (0:G) (k:G) 1)) _ _ s
 have:k? (0:G) (k:G) 1=k:=by
  have:=places_from 0 k (jP k)
  simpa using this
 exact J this (cy h)
theorem QL(Z:T_ aY)(k:a_)(h:k<=Z.size):((y_ k).filterMap λ(j:a_)=>Z[((0:G)+(j:G)*1).toNat]?).toArray=(Z.toList.take k).toArray:=by
 have e:(λ(j:a_)=>Z[((0:G)+(j:G)*1).toNat]?)=λj=>Z[0+j]?:=by
  funext j
  have:((0:G)+(j:G)*1).toNat=0+j:=by simp
  exact J this X
 refine J e ?_
 have:=pick_run Z 0 k
 rw[List.filterMap_map]at this;have e2:((λx=>Z[x]?) ∘ λx=>0+x)=λj=>Z[0+j]?:=X;rw[e2]at this;exact J this (J List.drop_zero X)
theorem tH{t C:bU}{k:a_}{u:Tok}{Q:cM}(ht:s.heap.IsTuple t B')(hs:s.heap.IsSliceOf C .none (.int k u) .none)(B:k<B'.size)(h:Q (.ref s.heap.objs.size) {s with heap:=s.heap.push {cls:=.type "tuple",data:=.seq (B'.toList.take k).toArray}})(QM:B'.size<=d?):b_ (c_ H w) A (getItem (.ref t) (.ref C)) Q E s:=by
 have cm:sizeOk (.seq (B'.toList.take k).toArray):=by show(B'.toList.take k).toArray.size<=d?;refine J dX (J UN (J tT2 ?_));grind
 have hTt:s.TypeIs (.ref t) "tuple":=bY ht λo ho U' O=>⟨o,ho,U'⟩;refine bY (id hs) λos Zl hcs VD=>?_;unfold getItem
 try with_reducible refine oj ?_
 refine aU (wpAny_sequenceKey hTt (by decide) ?_)
 refine aU (uO (name:=O_ "__getitem__") hTt HU
  (iE HU hTt entry_tuple_getitem ?_ (args_tuple_getitem _ _)))
 show b_ _ _ (Builtin.Tuple.tupleItemsOf (.ref t) >>= _) _ _ s;refine aU (tupleItemsOf_ ht (aU (H3 (⟨os,Zl,hcs⟩:s.TypeIs (.ref C) "slice") (J (ai (by decide)) (aU (vB hs (kD B) ?_))))))
 have LK:¬ (((0:G)==0&&(1:G)==1&&k==B'.size)=R):=by
  have:(k==B'.size)=N':=by refine J (propext HI) ?_;lia
  refine J this ?_;trivial
 show b_ _ _ (if ((0:G)==0&&(1:G)==1&&k==B'.size)=R then _ else _) _ _ s;refine J (ak LK) (J (QL B' k (kD B)) ?_)
 first
  |exact aU (m:=Q_ _) (kU (cy ⟨_,X,cy h⟩) cm)
  |exact aU (m:=Q_ _) (kU (aU (cy (cy ⟨_,X,cy h⟩))) cm)
  |exact aU (aU (m:=Q_ _) (kU (cy (cy ⟨_,X,cy h⟩)) cm))
  |exact aU (aU (m:=Q_ _) (kU (cy ⟨_,X,cy h⟩) cm))
theorem wQ(I:Inv H w b s D N)(M:T_ aY):Inv H w b {s with heap:=s.heap.push {cls:=.type "slice",data:=.fields M}} D N/\dB [] s {s with heap:=s.heap.push {cls:=.type "slice",data:=.fields M}} D D N N:=
 I.more (t:=s.toks) (λa o e=>kC _ e) (fL _ I.low)
theorem fK.after{Q:cM}(k:fK H w b s D N T' z Q)(S:dB [] s cV D MW N ae):fK H w b cV MW ae T' z Q:=
 λv s' b9 I' S' r=>k v s' b9 I' (S.trans S') r
theorem zP:∀{M:dG} {Z:aA} {J' h:cE},IntsAre M Z->aG J' h D (Z.map .int) M:=by intro w';induction w' with|nil=>(intro O O O r;cases r;exact aG.nil)|cons v M ih=>intro O O O r;cases r with|cons O O' q=>exact aG.cons (bB.int _ _) (ih q)
theorem eJ:lim<=d?:=by refine J wy ?_;decide
theorem QN{Q:cM}(hA:Fy A)(I:Inv H w b s D N)(rx:bB b.heap s.heap D x u)(ry:bB b.heap s.heap D y v)(e:tC N x y=f (T',z))(k:fK H w b s D N T' z Q):b_ (c_ H w) A (subscriptTail value (.Slice V (f up) V pos) u (.ref s.heap.objs.size)) Q E {s with heap:=s.heap.push {cls:=.type "slice",data:=.fields #[.none,v,.none]}}:=by
 have vs:=wQ I #[.none,v,.none];have k':=k.after vs.2;have TO:(s.heap.push {cls:=.type "slice",data:=.fields #[.none,v,.none]}).IsSliceOf s.heap.objs.size .none v .none:=Heap.IsSliceOf.new _ _ _ _;have TN:=I.rep vs.2 aX.nil rx;have I':=vs.1;dsimp only[tC]at e;revert e;refine Y5 (λZ n br bK e=>?_) (λZ n br bK e=>?_) (λi n br bK e=>?_);subst br;subst bK;rotate_left;subst br;subst bK;rotate_left;subst br;subst bK;rotate_left
 .revert e;refine aZ (λhz e=>?_) nS;revert k';refine gI e ?_;intro k';refine aW (TN.bD) λa M aL Y L=>?_;clear rx;subst aL;obtain⟨t,rfl⟩:=ry.int_inv;refine wA (ops:=[.ref s.heap.objs.size,.ref a]) (T:="tuple") (bY Y λo ho U' O=>⟨o,ho,U'⟩) HU.lookup (tH (k:=n) (u:=t) Y TO ?_ ?_ ?_) X
  .exact J dX (J L.length hz.1)
  .exact fK.tuple (s:={s with heap:=s.heap.push {cls:=.type "slice",data:=.fields #[.none,.int (w_ n) t,.none]}}) k' I' (by simpa using L.take n)
  ·(refine J dX (J L.length ?_));exact aR hz.2 eJ
 .revert e;refine aZ (λhz=>?_) nS;refine dv (λs' ep e=>?_);revert k';refine gI e ?_;intro k';refine aW (TN.zM) λa M aL Y L=>?_;clear rx;subst aL;obtain⟨t,rfl⟩:=ry.int_inv;have hl:(s.heap.push {cls:=.type "slice",data:=.fields #[.none,.int (w_ n) t,.none]}).IsList a M.toArray:=by obtain⟨o,ho,U',m,hd⟩:=Y;exact⟨o,I'.keep _ _ ho,U',m,hd⟩
  refine wA (ops:=[.ref s.heap.objs.size,.ref a]) (T:="list") hl.typeIs HT.lookup (Mg hl TO .none (.int (n:G) t) .none (by trivial) ?_ ?_) X
  .refine J (slicePick_upto' _ _) (fK.mM (s:={s with heap:=s.heap.push {cls:=.type "slice",data:=.fields #[.none,.int (w_ n) t,.none]}}) ep k' I' ?_ X)
   have:=(zP (D:=D) (J':=b.heap) (h:=s.heap.push {cls:=.type "slice",data:=.fields #[.none,.int (w_ n) t,.none]}) L).take n
   simpa [UQ]using this
  .have:=L.length
   refine J dX ?_
   have:=eJ
   lia
 .revert e;refine lS (λZ ex=>aZ (λhz=>?_) nS);refine dv (λs' ep e=>?_);revert k';refine gI e ?_;intro k';refine bA (I'.cT ex TN) λa M aL h0 Y L=>?_;clear rx;subst aL;obtain⟨t,rfl⟩:=ry.int_inv;refine wA (ops:=[.ref s.heap.objs.size,.ref a]) (T:="list") Y.isList.typeIs HT.lookup (Mg Y.isList TO .none (.int (n:G) t) .none (by trivial) ?_ ?_) X
  .exact J (slicePick_upto' _ _) (fK.mM (s:={s with heap:=s.heap.push {cls:=.type "slice",data:=.fields #[.none,.int (w_ n) t,.none]}}) ep k' I' (by simpa using L.take n) X)
  ·(refine J dX (J L.length ?_));exact aR hz eJ
theorem JJ{value lo:av}{pos:Pos}{x y z:AV}{u v:aY}{Q:cM}(hA:Fy A)(I:Inv H w b s D N)(rx:bB b.heap s.heap D x u)(ry:bB b.heap s.heap D y v)(e:oJ N x y=f (T',z))(k:fK H w b s D N T' z Q):b_ (c_ H w) A (subscriptTail value (.Slice (f lo) V V pos) u (.ref s.heap.objs.size)) Q E {s with heap:=s.heap.push {cls:=.type "slice",data:=.fields #[v,.none,.none]}}:=by
 have vs:=wQ I #[v,.none,.none];have k':=k.after vs.2;have TO:(s.heap.push {cls:=.type "slice",data:=.fields #[v,.none,.none]}).IsSliceOf s.heap.objs.size v .none .none:=Heap.IsSliceOf.new _ _ _ _;have TN:=I.rep vs.2 aX.nil rx;have I':=vs.1;dsimp only[oJ]at e;revert e;refine Y3 (λi n br bK=>?_);subst br;subst bK;refine lS (λZ ex=>aZ (λhz=>?_) nS);refine dv (λs' ep e=>?_);revert k';refine gI e ?_;intro k';refine bA (I'.cT ex TN) λa M aL h0 Y L=>?_;clear rx;subst aL;obtain⟨t,rfl⟩:=ry.int_inv;refine wA (ops:=[.ref s.heap.objs.size,.ref a]) (T:="list") Y.isList.typeIs HT.lookup (Mg Y.isList TO (.int (n:G) t) .none .none (by trivial) ?_ ?_) X
 .exact J (slicePick_from' _ _) (fK.mM (s:={s with heap:=s.heap.push {cls:=.type "slice",data:=.fields #[.int (w_ n) t,.none,.none]}}) ep k' I' (by simpa using L.drop n) X)
 ·(refine J dX (J L.length ?_));exact aR hz eJ
end
section
variable{w:dc}{s:aJ}{A:da}{E:cM}
def gQ(h:cE)(d:bU)(es:T_ S_)(ep:a_):Prop:=∃ o,h.get? d=f o/\o.ExactDict/\o.data=.dict es ep
theorem gQ.at(x:gQ h d es ep)(e:∀ o,h.get? d=f o->h'.get? d=f o):gQ h' d es ep:=ah x λo ho r=>⟨o,e _ ho,r⟩
theorem gQ.typeIs(x:gQ s.heap d es ep):s.TypeIs (.ref d) "dict":=bY x λo ho U' O=>⟨o,ho,U'.1⟩
theorem MX{Q:cM}(hd:(d==i_)=N')(hm:gQ s.heap d es ep)(hQ:Q (.ref s.heap.objs.size) {s with heap:=s.heap.push {cls:=.type "dict_keyiterator",data:=.fields #[.ref d,.int 0 0,.int es.size 0,.int ep 0]}}) :
  b_ (c_ H w) A (U_ (.ref d)) Q E s:=by
 have hT:=hm.typeIs;refine bY (id hm) λo ho U' QO=>wpAny_pyIter_slot hT Uz (iE Uz hT F.entry_dict_iter ?_ (F.args_dict_iter_1 _));unfold Builtin.«dict.__iter__»;refine aU ?_;unfold Builtin.Dict.dictSlotNone;refine aU (HX hT ?_);show b_ _ _ (pure (F_ d)) _ _ s;refine cy ?_;show b_ _ _ (y? d >>= _) _ _ s;unfold y?;refine J (ak (by rw[hd];exact Td)) ?_;refine aU (cy (aU (qA ho QO (aU (HV ho QO (aU (kU (cy ⟨_,X,"dict_keyiterator",_,⟨_,j4 _ X,X⟩,LV.lookup,?_⟩))))))));simpa [J_]using hQ
theorem yM{Q:af aY->aJ->Prop}(j3:s.heap.IsKeyIter it d i es.size ep)(hm:gQ s.heap d es ep)(acL:i<es.size)(hQ:∀ h',h'.IsKeyIter it d (i+1) es.size ep->r_ it s.heap h'->Q (f es[i].key) {s with heap:=h'}) :
  b_ (c_ H w) A (K_ (.ref it)) Q E s:=by
 refine bY (id j3) λo ho U' hd=>bY (id hm) λod P8 X6 MY=>?_;unfold K_
 refine aU (CX (uO (name:=O_ "__next__") j3.typeIs LV
  (iE LV j3.typeIs Yr ?_ (Yp _))))
 refine aU (cy (aU (aU ?_)))
 first|refine aU (HZ j3.typeIs (cy ?_))|refine aU (H0 j3.typeIs (cy ?_))
 refine aU (wpAny_fieldsOf ho hd ?_);have yN:Y? "dict_keyiterator"=N':=by decide
 simp -iota only [yN,LI,kS];show b_ _ _ (if (F_ d==C_)=R then _ else _) _ _ s;refine J (ak (show ¬ ((F_ d==C_)=R) from Td)) (aU (cy (aU (qA P8 MY (J (ak (by simp)) (aU (cy (aU (HV P8 MY (J (ak (by simp)) (cy ?_)))))))))));simp only[show ¬ ((i:G)<0) from by simp,kS,CG,tT0 acL];refine aU ?_
 first|refine aU (HZ j3.typeIs (cy ?_))|refine aU (H0 j3.typeIs (cy ?_))
 refine aU (wpAny_isOneOf_keyiter j3.typeIs ?_);show b_ _ _ (setField (.ref it) 1 (J_ ((i:G)+1)) >>= _) _ _ s;refine aU (CY ho hd (by simp) ?_)
 have A6:(s.heap.update it (Obj.mapFields (·.setIfInBounds 1 (J_ ((i:G)+1))))).IsKeyIter it d (i+1) es.size ep:=
  ⟨_,AJ _ ho (L7 (zC hd _)),(L6 ..).trans U',by refine J (zC hd _) ?_;simp[J_]⟩
 refine aU (oj (aU (wpAny_isOneOf_keyiter (s:={s with heap:=s.heap.update it (Obj.mapFields (·.setIfInBounds 1 (J_ ((i:G)+1))))}) A6.typeIs ?_)));exact cy (cy ⟨_,X,cy (hQ _ A6 (qU ..))⟩)
theorem A7{Q:af aY->aJ->Prop}(hh:A.handled=V)(j3:s.heap.IsKeyIter it d es.size es.size ep)(hm:gQ s.heap d es ep)(hQ:∀ h',V? it s.heap h'->Q V {s with heap:=h'}):b_ (c_ H w) A (K_ (.ref it)) Q E s:=by
 refine bY (id j3) λo ho U' hd=>?_;refine bY (id hm) λod P8 X6 MY=>?_;unfold K_
 refine aU (CX (uO (name:=O_ "__next__") j3.typeIs LV
  (iE LV j3.typeIs Yr ?_ (Yp _))))
 refine aU (cy ?_);refine aU ?_;refine aU ?_
 first|refine aU (HZ j3.typeIs (cy ?_))|refine aU (H0 j3.typeIs (cy ?_))
 refine aU (wpAny_fieldsOf ho hd ?_);have yN:Y? "dict_keyiterator"=N':=by decide
 simp -iota only [yN,LI,kS];show b_ _ _ (if (F_ d==C_)=R then _ else _) _ _ s;refine J (ak (show ¬ ((F_ d==C_)=R) from Td)) ?_;refine aU (cy ?_);refine aU (qA P8 MY ?_);refine J (ak (by simp)) ?_;refine aU (cy ?_);refine aU (HV P8 MY ?_);refine J (ak (by simp)) ?_;refine cy ?_;simp only[show ¬ (((es.size:a_):G)<0) from by simp,kS,CG,Array.getElem?_eq_none (fB es.size)];refine aU ?_
 first|refine aU (HZ j3.typeIs (cy ?_))|refine aU (H0 j3.typeIs (cy ?_))
 show b_ _ _ (setField (.ref it) 0 .none >>= _) _ _ s;refine aU (CY ho hd (by exact iD _) ?_);refine aU ?_;simp only[newExc,newTuple];refine aU (kU ?_ (by size_fits));refine aU (m:=V_ _ _) (rW (a:=C_) (by first|rfl|((exact(V_).symm▸X);rfl)) ?_);refine kU ?_ (by size_fits);simp -iota only [raiseNew];refine aU (wpAny_handled ?_);refine J (show A.in1.handled=V from hh) ?_;refine aU (cy (wpAny_throw ?_));refine aU (wB (T:="StopIteration") (b:=R) ⟨_,j4 _ X,X⟩ isSubtype_stop ?_);exact cy (hQ _ (((qU ..).extBut.push _).push _))
theorem Walks.QP(hh:A.handled=V)(I d:bU)(d9:d≠I)(es:T_ S_)(ep:a_) :
  Walks H w A I [I,d] [I] es.size (λi v=>∃ h:i<es.size,v=es[i].key) (λi h=>h.IsKeyIter I d i es.size ep/\gQ h d es ep) where
 sub:=λb hb=>by simp at hb;simp[hb]
 frame:=λO O O st hk=>⟨st.1.at λo e=>hk I (by exact aQ) o e,st.2.at λo e=>hk d (by exact bg _ aQ) o e⟩
 item:=λi s Q E hi st hQ=>by exact yM st.1 st.2 hi λh' A6 Fi=>hQ _ h' s.toks ⟨hi,X⟩ ⟨A6,st.2.at λo e=>Fi.extBut d o d9 e⟩ λb o hb e=>Fi.extBut b o (λh=>hb (by simp[h])) e
 done:=λs Q E st hQ=>A7 hh st.1 st.2 λh' QJ=>hQ h' s.toks λb o hb e=>QJ b o (λh=>hb (by simp[h])) e
 self:=λO O O O st hQ=>wpAny_pyIter_keyiter st.1 hQ
theorem QQ{Q:cM}(hd:(d==i_)=N')(hm:gQ s.heap d es ep)(VF:(es.size:G)<2^63)(h:∀ t tk,Q (.int es.size t) {s with toks:=tk}):b_ (c_ H w) A (call (.builtin "len") [.ref d]) Q E s:=by
 refine call_len_slot (n:=(es.size:G)) hm.typeIs F.slot_dict_len (λQ' yO=>?_) (by simp) (by lia) (h _ _);refine iE F.slot_dict_len hm.typeIs F.entry_dict_len ?_ (F.args_dict_len_1 _);refine bY (id hm) λo ho U' QO=>?_;show b_ _ _ (dictSize d >>= _) _ _ s;unfold dictSize;refine aU (aU (qA ho QO (cy ?_)));refine aU (wpAny_pendingCount_other hd (wpAny_ret_mkInt ?_));simpa using yO
end
section
variable{w:dc}{K:Type}[DecidableEq K]{A8:HeapKind H w K}{s:aJ}{A:da}{E:cM}
noncomputable def Dk (Z:d_ (K × bU × aY)) (k:K):d_ (K × bU × aY):=Z.eraseP λx=>decide (x.1=k)
theorem JK{α:Type}(p:α->e_):∀(Z:d_ α) (j:a_) (x:α),Z[j]?=f x->p x=R->(∀ i y,i<j->Z[i]?=f y->p y=N')->Z.eraseP p=Z.eraseIdx j:=λw'=>by induction w' with|nil=>intro O O h O O;exact nS h|cons y Z ih=>intro z1;cases z1 with|zero=>intro x h hp O;simp at h;subst h;simp[hp]|succ j=>intro x h hp hl;refine J eraseP_cons (J (hl 0 y (by exact rS _ _) X) ?_);simp only[List.eraseIdx_cons_succ,HK];exact J (ih j x (by simpa using h) hp λi z hi hz=>hl (i+1) z (by lia) (by simpa using hz)) X
theorem yP{α β:Type}(K':α->β):∀(Z:d_ α) (j:a_),(Z.map K').eraseIdx j=(Z.eraseIdx j).map K':=λw'=>by induction w' with|nil=>intro O;exact X|cons x Z ih=>intro z1;cases z1 with|zero=>exact X|succ j=>simp[ih j]
theorem A9{Q:af S_->aJ->Prop}(hu:A8.room A)(wR:A8.is s.heap k a)(hm:s.heap.DictOfH A8 d Z)(hp:b? Z k=f q)(QM:Z.length<=d?)(hQ:∀ e h' tk,e.val=q.2->h'.DictOfH A8 d (Dk Z k)->r_ d s.heap h'->Q (f e) {s with heap:=h',toks:=tk}):b_ (c_ H w) A (N_ d (.ref a)) Q E s:=by
 obtain⟨o,es,ep,ho,U',hd,he,JL,hn⟩:=hm;unfold N_;refine oj (aU (A8.pyHash hu wR (aU (wpAny_dictFind_heap (s:={s with toks:=s.toks+A8.draws k}) hu wR ho hd he JL hn (λLK=>?_) λj p hj=>?_))))
 .rw[atKey_none_of_get LK]at hp;exact nS hp
 .have hq:=atKey_of_get hn hj;rw[hp]at hq;obtain rfl:=aw hq;have hej:es[j]?=f (u? A8 (k,q)):=J (entry_at he _) (J hj X);have agd:j<es.size:=(tT1.mp hej).1;refine aU (qA (s:={s with toks:=s.toks+A8.draws k}) ho hd (J hej ?_));have hel:(es.eraseIdxIfInBounds j).toList=es.toList.eraseIdx j:=by obtain⟨l⟩:=es;simp
  refine aU (wpAny_updateDictKeysTo (s:={s with toks:=s.toks+A8.draws k}) ho hd ?_ ?_)
  .refine cy (hQ _ _ _ X ⟨_,_,ep+1,AJ _ ho (Obj.isFreed_of_dict (HD hd _)),U'.mapDictKeys _,HD hd _,?_,?_,?_⟩ (qU ..))
   .have hg:Dk Z k=Z.eraseIdx j:=by refine JK _ Z j (k,q) hj (by simp) λi y hi hy=>bT λe=>?_;obtain⟨y1,y2⟩:=y;simp only at e;clear wR hp hQ hej;subst e;exact g_ (idxH_unique hn hy hj) (by lia)
    simp only[hg,hel,he,yP]
   .intro x hx;exact A8.keeps (JL x (List.mem_of_mem_eraseP hx)) ho hd (qU ..)
   .exact hn.sublist ((List.eraseP_sublist).map _)
  .have Y:(es.eraseIdxIfInBounds j).size<=es.size:=by refine dR tT2 (J hel (dR tT2 ?_));exact List.length_eraseIdx_le ..
   have L:=zF he;lia
theorem Ba{Q:af S_->aJ->Prop}(hu:A8.room A)(wR:A8.is s.heap k a)(hm:s.heap.DictOfH A8 d Z)(hp:b? Z k=V)(hQ:∀ tk,Q V {s with toks:=tk}):b_ (c_ H w) A (N_ d (.ref a)) Q E s:=by
 obtain⟨o,es,ep,ho,U',hd,he,JL,hn⟩:=hm;unfold N_;refine oj (aU (A8.pyHash hu wR (aU (wpAny_dictFind_heap (s:={s with toks:=s.toks+A8.draws k}) hu wR ho hd he JL hn (λLK=>?_) λj p hj=>?_))))
 .exact cy (hQ _)
 .rw[atKey_of_get hn hj]at hp;exact sN hp
theorem Dl{Q:cM}(hu:A8.room A.in1)(hdS:(d==i_)=N')(wR:A8.is s.heap k a)(hm:s.heap.DictOfH A8 d Z)(QM:Z.length<=d?)(U':more=[]/\(b? Z k).isSome=R\/∃ x,more=[x])(hQ:∀ v h' tk,h'.DictOfH A8 d (Dk Z k)->r_ d s.heap h'->Q v {s with heap:=h',toks:=tk}) (hQ0:∀ v tk,b? Z k=V->Q v {s with toks:=tk}) :
  b_ (c_ H w) A (call (.builtin "dict.pop") (.ref d::.ref a::more)) Q E s:=by
 have hT:=hm.typeIs
 have fin:∀ dflt:af aY,((b? Z k).isSome=R\/dflt.isSome=R)->b_ (c_ H w) A.in1 (do
   let empty <-if (keyPart (F_ a)).isSome then pure N' else do pure (<-dictEntries d).isEmpty
   let old <-if empty then rule "dict.pop.empty";pure V else N_ d (.ref a)
   if old.isNone then Builtin.Dict.missedRemoval d (.ref a)
   match old,dflt with|f e,O=>letGo [e.key] [e.val];ret e.val|V,f x=>rule "dict.pop.default";ret x|V,V=>rule "dict.pop.keyerror";raiseNew (<-newExc (.type "KeyError") [.ref a])) (λK' s'=>∃ v,K'=.done (.ret v)/\Q v s') (λe s'=>E e s') s:=by
  intro dflt Zm;refine zK (id hm) λo es ep ho hcc hd he JL hn=>?_;refine J (X:(keyPart (F_ a)).isSome=N') ?_;simp -iota only [LI,kS];refine aU (qA ho hd (aU (cy ?_)))
  have TP:b? Z k=V->∀ s':aJ,(∀ v,Q v s')->b_ (c_ H w) A.in1 (do
    if (V:af S_).isNone then Builtin.Dict.missedRemoval d (.ref a)
    match (V:af S_),dflt with|f e,O=>letGo [e.key] [e.val];ret e.val|V,f x=>rule "dict.pop.default";ret x|V,V=>rule "dict.pop.keyerror";raiseNew (<-newExc (.type "KeyError") [.ref a])) (λK' s'=>∃ v,K'=.done (.ret v)/\Q v s') (λe s'=>E e s') s':=by
   intro LK s' hq
   have VD:dflt.isSome=R:=by
    rcases Zm with h|h
    .rw[LK]at h;exact fT h
    .exact h
   obtain⟨x,eE⟩:=wt.mp VD;clear Zm VD;subst eE;simp only[Option.isNone_none,gv];exact aU (wpAny_missedRemoval_other hdS (aU (qC (cy ⟨x,X,hq x⟩))))
  cases acN:es.isEmpty with
  |true=>
   have hx:Z=[]:=by have h0:es=#[]:=Array.isEmpty_iff.mp acN;have Y:=zF he;rw[h0]at Y;exact List.length_eq_zero_iff.mp Y.symm
   simp -iota only [gv];refine aU (aU (qC (cy (TP (by exact J hx X) s λv=>?_))));exact hQ0 v s.toks (by exact J hx X)
  |false=>simp -iota only [LI,kS];cases AX:b? Z k with|none=>exact aU (Ba hu wR hm AX λtk=>TP AX _ λv=>hQ0 v tk AX)|some q=>refine aU (A9 hu wR hm AX QM λe h' tk aN uW Fi=>?_);simp -iota only [Option.isNone_some,LI,kS];exact aU (wpAny_letGo (cy ⟨e.val,X,hQ _ _ _ uW Fi⟩))
 rcases U' with ⟨rfl,hs⟩|⟨x,rfl⟩
 .refine iE Qh hT F.entry_dict_pop ?_ (F.args_dict_pop_2 _ _);unfold Builtin.«dict.pop»;refine aU ?_;unfold Builtin.Dict.keyAndDefault;refine aU (HX hT ?_);exact cy (fin V (.inl hs))
 .refine iE Qh hT F.entry_dict_pop ?_ (F.args_dict_pop_3 _ _ _);unfold Builtin.«dict.pop»;refine aU ?_;unfold Builtin.Dict.keyAndDefault;refine aU (HX hT ?_);exact cy (fin (f x) (.inr X))
end
noncomputable def keyHash (k:aA):G:=reduceHash (Builtin.Tuple.tupleHashOf (k.map hashInt))
noncomputable def Iq:d_ (aA):=(y_ 6).flatMap λi=>(y_ 6).flatMap λj=>(y_ 6).map λk=>[.ofNat i,.ofNat j,.ofNat k]
noncomputable def Bb:aA->e_|[]=>R|x::Z=>Z.all (λy=>!decide (x=y))&&Bb Z
theorem JM:Bb (Iq.map keyHash)=R:=by decide +kernel
theorem sk(h:smallKey k=R):k∈Iq:=by dsimp only[smallKey]at h;revert h;refine Y7 (λi j l br h=>?_);subst br;simp only[jb,Nat.blt_eq]at h;exact J (propext UT) (aK i (UU.mpr h.1.1) (J (propext UT) (aK j (UU.mpr h.1.2) (J (propext eR) (aK l (UU.mpr h.2) X)))))
theorem JN{K':aA->G}:∀{l:d_ (aA)},Bb (l.map K')=R->∀{x y:aA},x∈l->y∈l->K' x=K' y->x=y:=by intro w';induction w' with|nil=>(intro O O O hx O O;exact nomatch hx)|cons z l ih=>
  intro h x y hx hy e;dsimp only[Gq,Bb]at h;simp only[jb,mG]at h;rcases aT.mp hx with Y|Y
  .rcases aT.mp hy with L|L
   .exact Y.trans L.symm
   .have:=h.1 (K' y) (eR.mpr ⟨y,L,X⟩)
    rw[<-Y]at this;simp[e]at this
  .rcases aT.mp hy with L|L
   .have:=h.1 (K' x) (eR.mpr ⟨x,Y,X⟩)
    rw[<-L]at this;simp[e]at this
   .exact ih h.2 Y L e
theorem zQ(hx:smallKey x=R)(hy:smallKey y=R)(e:keyHash x=keyHash y):x=y:=JN JM (sk hx) (sk hy) e
section
variable{w:dc}{b s:aJ}{D F':cc}{N T':St}{A:da}{E:cM}
theorem MZ:∀(Z:d_ (aA × bU × aY)),(∀ x∈Z,smallKey x.1=R)->(Z.map (·.1)).Nodup->∀ k:aA,smallKey k=R->(Z.filter λx=>keyHash x.1==keyHash k).length<=1:=λw'=>by induction w' with|nil=>intro O O O O;exact jP _|cons x Z ih=>
  intro h hn k hk;rw[bW,gw]at hn;refine J UI ?_;split
  .rename_i q
   have:Z.filter (λx=>keyHash x.1==keyHash k)=[]:=by refine J (propext List.filter_eq_nil_iff) ?_;intro y hy q2;exact hn.1 (eR.mpr ⟨y,hy,(zQ (h y (bg _ hy)) hk (by simpa using q2)).trans (zQ (h x aQ) hk (by simpa using q)).symm⟩)
   exact J this (iD _)
  .exact ih (λy hy=>h y (bg _ hy)) hn.2 k hk
theorem qY{id:String}{d:bU}{Z:d_ (aA × bU × aY)}{o:Obj}{es:T_ S_}{ep:a_}{Q:T_ S_->aJ->Prop}(ho:s.heap.get? d=f o)(hd:o.data=.dict es ep)(he:es.toList=Z.map (u? (tk H w)))(JL:∀ x∈Z,(tk H w).is s.heap x.1 x.2.1) (hn:(Z.map (·.1)).Nodup) (vC:∀ x∈Z,smallKey x.1=R) (h:Q es s) :
  b_ (c_ H w) A (Z? id d) Q E s:=by
 unfold Z?;refine aU (qA ho hd (aU (dR Array.forIn_toList (wpAny_forIn_list _ (λD' r s'=>s'=s/\∃ ys,D'=ys.map (u? (tk H w))/\∀ x∈ys,x∈Z) _ ?_ ?_ _ _ ⟨X,Z,he,λx hx=>hx⟩))))
 .rintro e D' r s' ⟨rfl,ys,hr,hy⟩;cases ys with|nil=>simp at hr|cons y ys=>
   rw[bW]at hr;injection hr with Y L;subst Y;have fC:=hy y aQ;show b_ _ _ (Builtin.Dict.quietEq (F_ y.2.1) >>= _) _ _ _;refine aU (aU (Mi (JL y fC).typeIs UC.lookup (cy (J (ai (by decide)) ?_))));have hle:(es.filter (·.hash==(u? (tk H w) y).hash)).size<=1:=by exact dR tT2 (J Array.toList_filter (J he (J List.filter_map (J (cw _) (MZ Z vC hn y.1 (vC y fC))))))
   exact J (ak (by omega)) (cy ⟨X,ys,L,λx hx=>hy x (bg _ hx)⟩)
 .rintro r s' ⟨rfl,_,_⟩;exact cy h
theorem nA(h:cE):(h.push {cls:=.type "dict",data:=.dict #[]}).DictOfH (tk H w) h.objs.size []:=
 ⟨_,_,0,j4 _ X,⟨X,X,X⟩,X,X,(λO hx=>nomatch hx),rV⟩
theorem Bc{o:bU}{Z:d_ (aA × bU × aY)}{Q:cM}(hoS:(o==i_)=N')(ho:s.heap.DictOfH (tk H w) o Z)(QM:Z.length<=d?)(vC:∀ x∈Z,smallKey x.1=R)(h:∀ h',h'.DictOfH (tk H w) s.heap.objs.size Z->(∀ c ob,s.heap.get? c=f ob->h'.get? c=f ob)->s.heap.objs.size<h'.objs.size->Q (.ref s.heap.objs.size) {s with heap:=h'}) :
  b_ (c_ H w) A (call (.type "dict") [.ref o]) Q E s:=by
 refine callType_codes (Q₁:=λobj cV=>obj=.ref s.heap.objs.size/\cV={s with heap:=s.heap.push {cls:=.type "dict",data:=.dict #[]}}) F.kt_called_dict (F.kt_typeCall_dict_1 _) F.entry_dict_init (kt_code_dict_new _ ⟨X,X⟩) ?_;rintro obj cV ⟨rfl,rfl⟩;have jo:(s.heap.push {cls:=.type "dict",data:=.dict #[]}).DictOfH (tk H w) s.heap.objs.size []:=nA _;have hk:∀ c ob,s.heap.get? c=f ob->(s.heap.push {cls:=.type "dict",data:=.dict #[]}).get? c=f ob:=λc ob e=>kC _ e;refine zK (id ho) λoo VG epo LL hco M5 VH JL LK=>?_
 have qw:(s.heap.push {cls:=.type "dict",data:=.dict #[]}).DictOfH (tk H w) o Z:=
  ⟨oo,VG,epo,hk _ _ LL,hco,M5,VH,λx hx=>jJ (λa B' ⟨ob,Y,L,n,h3⟩=>⟨ob,hk _ _ Y,L,n,h3⟩) (JL x hx),LK⟩
 have Zn:∀ x∈Z,(tk H w).is (s.heap.push {cls:=.type "dict",data:=.dict #[]}) x.1 x.2.1:=λx hx=>jJ (λa B' ⟨ob,Y,L,n,h3⟩=>⟨ob,hk _ _ Y,L,n,h3⟩) (JL x hx);have QR:=hk _ _ LL;have hdo:s.heap.objs.size≠o:=λe=>g_ (mF LL) (by exact J e (CL _));have hnt:Shared.TypeIs {s with heap:=s.heap.push {cls:=.type "dict",data:=.dict #[]}} (.ref s.heap.objs.size) "dict":=jo.typeIs (s:={s with heap:=s.heap.push {cls:=.type "dict",data:=.dict #[]}});have hot:Shared.TypeIs {s with heap:=s.heap.push {cls:=.type "dict",data:=.dict #[]}} (.ref o) "dict":=qw.typeIs (s:={s with heap:=s.heap.push {cls:=.type "dict",data:=.dict #[]}});refine⟨hnt,F.args_dict_init_2 _ _,?_⟩;unfold Builtin.«dict.__init__»;refine aU ?_;unfold Builtin.Dict.selfAndRest;refine aU (HX hnt ?_);refine cy ?_;show b_ _ _ (Builtin.Dict.updateFrom "dict.__init__" s.heap.objs.size (.ref o) [] .none) _ _ _;unfold Builtin.Dict.updateFrom;refine aU (H3 hot (J (ak (by decide)) (aU ?_)));unfold Builtin.Dict.merge;refine aU ?_;unfold Builtin.Dict.readDirectly;refine aU (wB hot isSubtype_dict_dict ?_);simp -iota only [Bool.not_true,LI,kS];refine aU (Mi hot Uz.lookup (cy ?_));simp -iota only [L9,gv];refine aU (cy ?_);obtain⟨od,P8,X6,MY⟩:∃ od,(s.heap.push {cls:=.type "dict",data:=.dict #[]}).get? s.heap.objs.size=f od/\od.ExactDict/\od.data=.dict #[] 0:=⟨_,j4 _ X,⟨X,X,X⟩,X⟩;unfold Builtin.Dict.mergeDict;refine J (ak (by simpa using hdo)) ?_;unfold y?;refine J (ak (by rw[hoS];exact Td)) ?_;refine aU (cy (aU (qA (s:={s with heap:=s.heap.push {cls:=.type "dict",data:=.dict #[]}}) QR M5 ?_)));have QT:s.heap.objs.size<(s.heap.push {cls:=.type "dict",data:=.dict #[]}).objs.size:=J (yB _ _) (lN _)
 cases Z with
 |nil=>
  have h0:VG=#[]:=by
   have:=zF VH
   exact Array.eq_empty_of_size_eq_zero (by simpa using this)
  clear VH;subst h0;exact J (ak (by simp)) (aU (HV (s:={s with heap:=s.heap.push {cls:=.type "dict",data:=.dict #[]}}) QR M5 (aU (qA (s:={s with heap:=s.heap.push {cls:=.type "dict",data:=.dict #[]}}) QR M5 (aU (J (Std.Legacy.Range.forIn_eq_forIn_range' _ _ _) (cy (cy (aU (cy (cy ⟨X,h _ jo hk QT⟩)))))))))))
 |cons x Z=>
  dsimp only;have hz:=zF VH
  have acQ:(decide (VG.size<=8)&&VG.all λe=>(keyPart e.key).isSome)=N':=by
   refine J (propext Bool.and_eq_false_iff) ?_;right;refine J (propext Array.all_eq_false) ⟨0,by refine J hz ?_;simp,?_⟩
   have:VG[0]?=f (u? (tk H w) x):=J (entry_at VH _) X
   rw[tT1]at this;obtain⟨Y,L⟩:=this;exact J L Td
  refine J acQ (J (ai (by decide)) (aU (qA (s:={s with heap:=s.heap.push {cls:=.type "dict",data:=.dict #[]}}) P8 MY (J (ai (show(#[]:T_ S_).isEmpty=R from X)) (aU (qY (s:={s with heap:=s.heap.push {cls:=.type "dict",data:=.dict #[]}}) QR M5 VH Zn LK vC ?_))))))
  rw[ai (by
   cases he:VG.isEmpty with|false=>rfl|true=>
    rw[Array.isEmpty_iff]at he;rw[he]at hz
    cases hz)]
  refine aU (wpAny_updateDictKeysTo (s:={s with heap:=s.heap.push {cls:=.type "dict",data:=.dict #[]}}) P8 MY (cy ?_) (by refine J hz ?_;lia));have hs:r_ s.heap.objs.size (s.heap.push {cls:=.type "dict",data:=.dict #[]}) ((s.heap.push {cls:=.type "dict",data:=.dict #[]}).update s.heap.objs.size (Obj.mapDictKeys λO=>VG)):=qU ..;refine aU (cy (cy ⟨X,h _ ⟨_,_,0+1,AJ _ P8 (Obj.isFreed_of_dict (HD MY _)),X6.mapDictKeys _,HD MY _,VH,λy hy=>?_,LK⟩ (λc ob e=>(hs.2 c λq=>?_).trans (hk c ob e)) (by exact J hs.1 QT)⟩))
  .exact(tk H w).keeps (Zn y hy) P8 MY hs
  .subst q;exact g_ (mF e) (CL _)
theorem cL.keys:∀{bJ:c9} {J' h:cE} {Z:d_ (aA × bU × aY)},cL J' h D bJ Z->Z.map (·.1)=bJ.map (·.1):=by intro w';cases w' with|nil=>intro O O O r;dsimp only[cL]at r;subst r;rfl|cons p bJ=>intro O O O r;dsimp only[cL]at r;obtain⟨a,v,P6,rfl,_,qs⟩:=r;simp[qs.keys]
theorem cL.del:∀{bJ:c9} {J' h:cE} {Z:d_ (aA × bU × aY)},cL J' h D bJ Z->∀ k,cL J' h D (lK bJ k) (Dk Z k):=by intro w';cases w' with|nil=>intro O O O r k;dsimp only[cL]at r;subst r;rfl|cons p bJ=>
  intro O O O r k;dsimp only[cL]at r;obtain⟨a,v,P6,rfl,q,qs⟩:=r;dsimp only[lK,Dk];by_cases e:p.1=k
  .simp[e,qs]
  .dsimp only[if_neg e,eraseP_cons,decide_eq_false e,cond_false,cL];simp only[ak e,eraseP_cons,bT e,HK];dsimp only[if_neg e,eraseP_cons,decide_eq_false e,cond_false,cL];exact C4 a v _ X q (qs.del k)
theorem JO:∀{bJ:c9} {k:aA},jR bJ k=V->lK bJ k=bJ:=by intro w';induction w' with|nil=>intro O O;exact X|cons p bJ ih=>intro k h;dsimp only[jR]at h;dsimp only[lK];revert h;refine C7 sN λe h=>?_;exact J (ak e) (J (ih h) X)
theorem FE{k:aA}:b? (p::Z) k=if p.1=k then f p.2 else b? Z k:=by unfold b?;by_cases e:p.1=k<;>simp[e]
theorem Bd{k:aA}{a:bU}(hn:k∉Z.map (·.1)\/p.1≠k) :
  storedH (p::Z) k a v=if p.1=k then(p.1,p.2.1,v)::Z else p::storedH Z k a v:=by
 unfold storedH;refine J FE ?_;by_cases e:p.1=k
 .simp only[ai e,L8,gv,bW];congr 1
  .simp[putAt,e]
  .rcases hn with hn|hn
   .rw[YD (g:=id)]
    .simp
    .intro x hx;unfold putAt;rw[ak]
     .rfl
     .intro q;exact hn (eR.mpr ⟨x,hx,q⟩)
   .exact g_ e hn
 .simp only[ak e];split
  .simp[putAt,e]
  .rfl
theorem cL.store:∀{bJ:c9} {J' h:cE} {Z:d_ (aA × bU × aY)},cL J' h D bJ Z->(Z.map (·.1)).Nodup->∀(k:aA) (a:bU) {x:AV} {v:aY},bB J' h D x v->cL J' h D (iI bJ k x) (storedH Z k a v):=by intro w';cases w' with|nil=>intro O O O r O k a x v rx;dsimp only[cL]at r;subst r;(dsimp only[iI,cL];simp only[storedH,b?,List.find?_nil,Option.map_none,Option.isSome_none]);exact C4 a v ([]) X rx X|cons p bJ=>
  intro O O O r hn k a x v rx;dsimp only[cL]at r;obtain⟨c,u,P6,rfl,q,qs⟩:=r;rw[bW,gw]at hn;rw[Bd]
  .unfold iI;by_cases e:p.1=k
   .dsimp only[if_pos e,cL];simp only[ai e];dsimp only[if_pos e,cL];exact C4 c v P6 X rx qs
   .dsimp only[if_neg e,cL];simp only[ak e];dsimp only[if_neg e,cL];exact C4 c u _ X q (qs.store hn.2 k a rx)
  .by_cases e:p.1=k
   .left;exact dR e hn.1
   .exact .inr e
theorem JP{Q:cM}(hA:Fy A)(I:Inv H w b s D N)(ex:N.get n=f (.dict bJ))(rx:bB b.heap s.heap D (.ref n) u)(QM:bJ.length<=lim)(vC:bJ.all (λp=>smallKey p.1)=R)(hp:N.push (.dict bJ)=f T') (k:fK H w b s D N T' (.ref N.n) Q):b_ (c_ H w) A (call (.type "dict") [u]) Q E s:=by
 refine bA (I.kG ex rx) λa Z aL Y L h3=>?_;clear rx;subst aL;have hl:=h3.length;refine Bc ((I.fresh a (dU Y)).2) L (by exact J hl (aR QM eJ)) (λx hx=>?_) λh' hd hk QT=>?_
 .have fC:x.1∈bJ.map (·.1):=dR h3.keys (eR.mpr ⟨x,hx,X⟩);exact ah (eR.mp fC) λy hy e=>dR e (mG.mp vC y hy)
 .refine zJ (id hd) λo es ep ho U' hr=>?_;have vs:=I.alloc (t:=s.toks) hk (dJ _) I.low (rT I.low QT) ⟨o,ho,.inr U'.1⟩ hp λht hq=>⟨Z,hd,h3.mono ht hq⟩;exact k _ _ _ vs.1 vs.2.1 (bB.ref vs.2.2)
end
noncomputable def FF:d_ String:=["enumerate","zip","dict_itemiterator","dict_reverseitemiterator","odict_iterator","itertools.zip_longest","itertools.pairwise"]
structure Turn(H:z_)(w:dc)(A:da)(target:av)(it:bU)(fp wr:cc)(n:a_)(P:a_->aY->cE->Prop)(St:a_->cE->Prop):Prop where
 sub:∀ b∈wr,b∈fp
 frame:∀ i h h',St i h->(∀ b∈fp,∀ o,h.get? b=f o->h'.get? b=f o)->St i h'
 turn:∀ i (s:aJ) (Q:af aY->aJ->Prop) (E:cM),i<n->St i s.heap ->
  (∀ v cV,(∀(Q':j?->aJ->Prop) (E':cM),(∀ h' tk,P i v h'->St (i+1) h'->(∀ b o,b∉wr->s.heap.get? b=f o->h'.get? b=f o)->Q' () {s with heap:=h',toks:=tk}) ->
   b_ (c_ H w) A (t_ target (.ref it) v) Q' E' cV)->Q (f v) cV)->b_ (c_ H w) A (K_ (.ref it)) Q E s
 done:∀(s:aJ) (Q:af aY->aJ->Prop) (E:cM),St n s.heap ->
  (∀ h' tk,(∀ b o,b∉wr->s.heap.get? b=f o->h'.get? b=f o)->Q V {s with heap:=h',toks:=tk})->b_ (c_ H w) A (K_ (.ref it)) Q E s
 self:∀ i (s:aJ) (Q:cM) (E:cM),St i s.heap->Q (.ref it) s->b_ (c_ H w) A (U_ (.ref it)) Q E s
section
variable{w:dc}{b s:aJ}{D F':cc}{N T':St}{A:da}{E:cM}
def pW(h:cE)(it:bU):Prop:=∃ o M T,h.get? it=f o/\o.cls=.type T/\o.data=.fields M/\FF.contains T=N'
theorem uX{Q:j?->aJ->Prop}(h:pW s.heap it)(hQ:Q () s):b_ (c_ H w) A (t_ target (.ref it) v) Q E s:=by
 obtain⟨o,M,T,ho,U',hd,hn⟩:=h
 have core:∀ a:bU,b_ (c_ H w) A (do
   let o <-load it
   match o.cls,o.data with
   |.type n,.fields M=>
    if ["enumerate","zip","dict_itemiterator","dict_reverseitemiterator","odict_iterator","itertools.zip_longest","itertools.pairwise"].contains n&&M[0]?==f (J_ a) then
     rule "for.unpacks-the-owned-tuple"
     updateField it 0 .none
   |O,O'=>pure ()) Q E s:=λa=>by
  refine aU (wpAny_load ho ?_);refine J U' (J hd ?_);have hn':(["enumerate","zip","dict_itemiterator","dict_reverseitemiterator","odict_iterator","itertools.zip_longest","itertools.pairwise"].contains T)=N':=hn;dsimp only;refine J (ak (by rw[hn',tT6];exact Td)) ?_;exact cy hQ
 cases target with|Tuple e c p=>(cases v with|ref a=>exact core a|_=>exact cy hQ)|List e p=>(cases v with|ref a=>exact core a|_=>exact cy hQ)|_=>exact cy hQ
theorem Walks.weaken{P P':a_->aY->Prop}{St:a_->cE->Prop}(W:Walks H w A I fp wr n P St)(h:∀ i v,P i v->P' i v):Walks H w A I fp wr n P' St where
 sub:=W.sub
 frame:=W.frame
 item:=λi s Q E hi st hQ=>W.item i s Q E hi st λv h' tk hp=>hQ v h' tk (h i v hp)
 done:=W.done
 self:=W.self
theorem Turn.Ir{P:a_->aY->Prop}{P':a_->aY->cE->Prop}{St:a_->cE->Prop}(W:Walks H w A I fp wr n P St)(hq:∀ i h,St i h->pW h I)(hP:∀ i v h,P i v->P' i v h) :
  Turn H w A target I fp wr n P' St where
 sub:=W.sub
 frame:=W.frame
 turn:=λi s Q E hi st hQ=>W.item i s Q E hi st λv h' tk hp oS hk=>hQ v _ λQ' E' yO=>uX (hq _ _ oS) (yO h' tk (hP i v h' hp) oS hk)
 done:=W.done
 self:=W.self
theorem Turn.M6{Pt:a_->T_ aY->Prop}{P':a_->aY->cE->Prop}{St:a_->cE->Prop}{Mid:a_->bU->cE->Prop}(W:WalksT H w A I fp wr n Pt St Mid)(hP:∀ i T vals h,Pt i vals->h.IsTuple T vals->P' i (.ref T) h):Turn H w A (.Tuple elts c pos) I fp wr n P' St where
 sub:=W.sub
 frame:=W.frame
 turn:=λi s Q E hi st hQ=>W.item i s Q E hi st λT vals h' tk hp O hT hm hk=>hQ (.ref T) _ λQ' E' yO=>W.go elts c pos i T _ Q' E' hm λh'' tI Zo=>
  yO h'' tk (hP i T vals h'' hp (hT.at λo e=>Zo T o (W.apart i T _ hm) e)) tI λb o hb e=>Zo b o hb (hk b o hb e)
 done:=W.done
 self:=W.self
def Be(J' hs:cE)(D:cc)(h:cE)(z:AV)(v:aY):Prop:=bB J' hs D z v\/∃ T M zs,z=.tup zs/\v=.ref T/\h.IsTuple T M.toArray/\aG J' hs D zs M
theorem Be.rep(x:Be J' hs D h z v)(ht:∀ a B',hs.IsTuple a B'->h.IsTuple a B')(hp:D <+: b9):bB J' h b9 z v:=by
 rcases x with r|⟨T,M,zs,rfl,rfl,t,r⟩
 .exact r.mono ht hp
 .exact bB.tup t (r.mono ht hp)
noncomputable def qZ (e:av):e_:=f_ e.ctorIdx 25
structure kY(H:z_)(w:dc)(tups:e_)(J' hs:cE)(D:cc)(lk:af a_)(Z:al)(it:bU)(Y:cE):Prop where
 go:∃(fp wr:cc) (St:a_->cE->Prop),
  (∀(A:da) (target:av),A.handled=V->(tups=R->qZ target=R)->Turn H w A target it fp wr Z.length (λi v h=>∃ x,Z[i]?=f x/\Be J' hs D h x v) St)/\St 0 Y /\
  (∀ a∈wr,hs.get? a=V/\∃ o,Y.get? a=f o)/\(∀ a∈fp,a∈wr\/(∃ B',hs.IsTuple a B')\/∃ n,lk=f n/\D[n]?=f a)/\(∀ i h,St i h->∀ a∈wr,∃ o M,h.get? a=f o/\o.data=.fields M)
 keep:∀ a o,hs.get? a=f o->Y.get? a=f o
 low:i_<Y.objs.size
theorem yQ{J' h:cE}{d:bU}{bJ:c9}{Z:d_ (aA × bU × aY)}{es:T_ S_}(hm:h.DictOfH (tk H w) d Z)(r:cL J' h D bJ Z)(he:es.toList=Z.map (u? (tk H w))){i:a_}(hi:i<es.size) :
  ∃ x,(bJ.map λp=>iH p.1)[i]?=f x/\bB J' h D x es[i].key:=by
 obtain⟨o,es',ep,_,_,_,_,JL,_⟩:=hm;have Y:es[i]?=f es[i]:=tT0 hi;rw[entry_at he]at Y;refine ah (HE.mp Y) λy hy e=>dR e ?_;have hk:(Z.map (·.1))[i]?=f y.1:=by(refine J mH ?_;refine J hy ?_);rfl
 rw[r.keys,mH]at hk;refine ah (HE.mp hk) λq hq e2=>aK (iH y.1) (by exact J mH (J hq (J (zD _ _) (J e2 X)))) ?_;exact FD (JL y (dU hy))
structure WalkAt(H:z_)(w:dc)(J' hs:cE)(D:cc)(lk:af a_)(Z:al)(it:bU)(Y:cE):Prop where
 go:∃(fp wr:cc) (St:a_->cE->Prop),
  (∀ A:da,A.handled=V->Walks H w A it fp wr Z.length (λi v=>∃ x,Z[i]?=f x/\bB J' hs D x v) St)/\St 0 Y/\(∀ i h,St i h->∀ a∈it::wr,pW h a) /\
  (∀ a∈wr,hs.get? a=V/\∃ o,Y.get? a=f o)/\(∀ a∈fp,a∈wr\/(∃ B',hs.IsTuple a B')\/∃ n,lk=f n/\D[n]?=f a)/\(∀ a∈fp,a<Y.objs.size)
 keep:∀ a o,hs.get? a=f o->Y.get? a=f o
 low:i_<Y.objs.size
theorem WalkAt.iter(x:WalkAt H w J' hs D lk Z it Y):kY H w N' J' hs D lk Z it Y:=by obtain⟨⟨fp,wr,St,hW,h0,hq,tJ,QU,_⟩,hk,hl⟩:=x;exact⟨⟨fp,wr,St,λA target hh O=>Turn.Ir (hW A hh) (λi h st=>hq i h st it aQ) λi v h ⟨x,Y,L⟩=>⟨x,Y,.inl L⟩,h0,tJ,QU,λi h st a B=>H7 (hq i h st a (bg _ B)) λo M O Y O L O=>⟨o,M,Y,L⟩⟩,hk,hl⟩
theorem wU(x:h.IsListIter I l i):pW h I:=bY x λo Y L h3=>⟨o,_,_,Y,L,h3,by decide⟩
theorem vD(x:h.IsTupleIter I l i):pW h I:=bY x λo Y L h3=>⟨o,_,_,Y,L,h3,by decide⟩
theorem yR(x:h.IsKeyIter I d i n ep):pW h I:=bY x λo Y L h3=>⟨o,_,_,Y,L,h3,by decide⟩
theorem JQ{Q:cM}(iN:i_<s.heap.objs.size)(hl:s.heap.IsList l M.toArray)(r:aG J' s.heap D Z M)(QV:∃ n,lk=f n/\D[n]?=f l)(k:∀ Y it,WalkAt H w J' s.heap D lk Z it Y->Q (.ref it) {s with heap:=Y}):b_ (c_ H w) A (U_ (.ref l)) Q E s:=by
 have iQ:l<s.heap.objs.size:=ah hl λo ho O=>mF ho;refine wpAny_pyIter_list hl (k _ _ ⟨⟨[s.heap.objs.size,l],[s.heap.objs.size],λi h=>h.IsListIter s.heap.objs.size l i/\h.IsList l M.toArray,λA hh=>?_,⟨⟨_,j4 _ X,X,X⟩,hl.at λo e=>kC _ e⟩,λi h st a B=>(show a=s.heap.objs.size by simpa using B)▸wU st.1,?_,?_,?_⟩,λa o e=>kC _ e,fL _ iN⟩)
 .have W:=Walks.list (prog:=H) (w:=w) hh s.heap.objs.size l (jg iQ) M.toArray;rw[show M.toArray.size=Z.length from dX.trans r.length]at W;exact Walks.weaken W λi v e=>r.get' (by simpa using e)
 .intro a B;rw[az]at B;subst B;exact⟨dJ _,_,j4 _ X⟩
 .intro a B;rcases aT.mp B with eE|B
  .clear B;subst eE;exact .inl (az.mpr X)
  .rw[az]at B;clear hl iQ;subst B;exact .inr (.inr QV)
 .intro a B;refine J (yB _ _) ?_;rcases aT.mp B with iA|B
  .clear B;subst iA;exact lN _
  .rw[az]at B;clear hl QV;subst B;exact wm iQ
theorem FG{Q:cM}(iN:i_<s.heap.objs.size)(hl:s.heap.IsTuple l M.toArray)(r:aG J' s.heap D Z M)(k:∀ Y it,WalkAt H w J' s.heap D lk Z it Y->Q (.ref it) {s with heap:=Y}):b_ (c_ H w) A (U_ (.ref l)) Q E s:=by
 have iQ:l<s.heap.objs.size:=ah hl λo ho O=>mF ho;refine wpAny_pyIter_tuple hl (k _ _ ⟨⟨[s.heap.objs.size,l],[s.heap.objs.size],λi h=>h.IsTupleIter s.heap.objs.size l i/\h.IsTuple l M.toArray,λA hh=>?_,⟨⟨_,j4 _ X,X,X⟩,hl.push _⟩,λi h st a B=>(show a=s.heap.objs.size by simpa using B)▸vD st.1,?_,?_,?_⟩,λa o e=>kC _ e,fL _ iN⟩)
 .have W:=Walks.tuple (prog:=H) (w:=w) hh s.heap.objs.size l (jg iQ) M.toArray;rw[show M.toArray.size=Z.length from dX.trans r.length]at W;exact Walks.weaken W λi v e=>r.get' (by simpa using e)
 .intro a B;rw[az]at B;subst B;exact⟨dJ _,_,j4 _ X⟩
 .intro a B;rcases aT.mp B with j5|B
  .clear B;subst j5;exact .inl (az.mpr X)
  .rw[az]at B;clear iQ;subst B;exact .inr (.inl ⟨_,hl⟩)
 .intro a B;refine J (yB _ _) ?_;rcases aT.mp B with mj|B
  .clear B;subst mj;exact lN _
  .rw[az]at B;clear hl;subst B;exact wm iQ
theorem JR{d:bU}{lk:af a_}{Q:cM}(iN:i_<s.heap.objs.size)(hs:(d==i_)=N')(hm:s.heap.DictOfH (tk H w) d Z)(r:cL J' s.heap D bJ Z)(QV:∃ n,lk=f n/\D[n]?=f d)(k:∀ Y it,WalkAt H w J' s.heap D lk (bJ.map λp=>iH p.1) it Y->Q (.ref it) {s with heap:=Y}):b_ (c_ H w) A (U_ (.ref d)) Q E s:=by
 refine zK (id hm) λo es ep ho hx hd he JL hn=>?_;have raw:gQ s.heap d es ep:=⟨o,ho,hx,hd⟩;have iQ:d<s.heap.objs.size:=mF ho;refine MX hs raw (k _ _ ⟨⟨[s.heap.objs.size,d],[s.heap.objs.size],λi h=>h.IsKeyIter s.heap.objs.size d i es.size ep/\gQ h d es ep,λA hh=>?_,⟨⟨_,j4 _ X,X,X⟩,raw.at λo e=>kC _ e⟩,λi h st a B=>(show a=s.heap.objs.size by simpa using B)▸yR st.1,?_,?_,?_⟩,λa o e=>kC _ e,fL _ iN⟩)
 .have W:=Walks.QP (w:=w) hh s.heap.objs.size d (jg iQ) es ep;have W2:=Walks.weaken (P':=λi v=>∃ x,(bJ.map λp=>iH p.1)[i]?=f x/\bB J' s.heap D x v) W λi v ⟨hi,e⟩=>by exact J e (yQ hm r he hi)
  exact dR (by exact J (zF he) (J r.length (J (cw _) X)):es.size=(bJ.map λp=>iH p.1).length) W2
 .intro a B;rw[az]at B;subst B;exact⟨dJ _,_,j4 _ X⟩
 .intro a B;rcases aT.mp B with oN|B
  .clear B;subst oN;exact .inl (az.mpr X)
  .rw[az]at B;clear hs hm ho raw iQ;subst B;exact .inr (.inr QV)
 .intro a B;refine J (yB _ _) ?_;rcases aT.mp B with qv|B
  .clear B;subst qv;exact lN _
  .rw[az]at B;clear hs hm QV ho raw;subst B;exact wm iQ
theorem kZ{Q:cM}(I:Inv H w b s D N)(rx:bB b.heap s.heap D x v)(e:jc N .plain x=f (Z,lk))(k:∀ Y it,WalkAt H w b.heap s.heap D lk Z it Y->Q (.ref it) {s with heap:=Y}):b_ (c_ H w) A (U_ v) Q E s:=by
 cases x with
 |tup ys=>dsimp only[jc]at e;rw[dN,rP]at e;obtain⟨vA,yD⟩:=e;subst vA;subst yD;refine aW (rx.bD) λa M aL t r=>?_;clear rx;subst aL;exact FG I.low t r k
 |ref n=>
  revert e;refine vT (λys ey e=>?_) (λys ey e=>?_)
  .revert k;refine gI e ?_;intro k;refine bA (I.cT ey rx) λa M aL Y L h3=>?_;clear rx;subst aL;exact JQ I.low L.isList h3 ⟨_,X,Y⟩ k
  .revert k;refine gI e ?_;intro k;refine bA (I.kG ey rx) λa M aL Y L h3=>?_;clear rx;subst aL;exact JR I.low (I.fresh a (dU Y)).2 L h3 ⟨_,X,Y⟩ k
 |_=>exact nS e
end
end Mine.Internal
end
section
open PySem PyProof.Rows
open AutoSeq1 (wpAny_loadPart')
set_option maxRecDepth 100000
namespace Mine.Internal
theorem M7{vs:Model}{A:da}{α:Type}{a:α}{Q:α->aJ->Prop}{E:cM}{s:aJ}(h:∀ b,Q b s):b_ vs A (pure a) Q E s:=cy (h a)
theorem wV(l:bU)(B':T_ aY)(n:a_)(dct:af bU)(C:T_ (af aY)) :
  Meets (Builtin.«enumerate.__new__» ⟨[.type "enumerate",.ref l],[]⟩) (λO hc s=>s.heap.get? l=f {cls:=.type "tuple",dict:=dct,data:=.seq B' n,slots:=C} /\
   hc (.ok (.ret (.ref (s.heap.push {cls:=.type "tuple_iterator",data:=.fields #[.ref l,.int 0 0]}).objs.size)))
    {s with heap:=(s.heap.push {cls:=.type "tuple_iterator",data:=.fields #[.ref l,.int 0 0]}).push {cls:=.type "enumerate",data:=.fields #[.none,.bool N',.ref s.heap.objs.size,J_ 0,.none,.none]}}):=
 .of_wp λH w A hc s h=>by
  obtain⟨hp,g,d,tk,os⟩:=s;obtain⟨hl,h⟩:=h;have wW:=sub_enumerate;have hT:Heap.IsTuple (Shared.heap ⟨hp,g,d,tk,os⟩) l B':=⟨_,hl,X,n,X⟩
  wp_walk using Ti hl
  refine wpAny_stack_any λst=>M7 λc=>?_;cases c <;>
  .wp_walk using Ti hl,wpAny_pyIter_tuple hT
   exact aK _ X h
section
variable{w:dc}{b s:aJ}{D F':cc}{N T':St}{A:da}{E:cM}
theorem vE{Q:cM}(hL:s.heap.IsTuple l B')(h:∀ h',IsEnum h' (s.heap.objs.size+1) s.heap.objs.size 0 .none->h'.IsTupleIter s.heap.objs.size l 0->h'.objs.size=s.heap.objs.size+2 ->
   (∀ b o,s.heap.get? b=f o->h'.get? b=f o)->Q (.ref (s.heap.objs.size+1)) {s with heap:=h'}) :
  b_ (c_ H w) A (call (.type "enumerate") [.ref l]) Q E s:=by
 refine ia λGq zq=>?_;obtain⟨⟨c,dct,dt,C⟩,hl,U',n,hd⟩:=hL;replace U':c=.type "tuple":=U';replace hd:dt=.seq B' n:=hd;subst U' hd;refine zq ?_;clear zq
 refine callType_new F.called_enumerate (by decide) (F.typeCall_enumerate_1 _) (F.newCall_enumerate_1 _) (λobj=>F.args_object_init_2 obj _) F.entry_enumerate_new
  (wV l B' n dct C) ⟨hl,?_⟩
 have hz:(s.heap.push {cls:=.type "tuple_iterator",data:=.fields #[.ref l,.int 0 0]}).objs.size=s.heap.objs.size+1:=yB ..;show _/\_;refine J hz ?_
 have he:IsEnum ((s.heap.push {cls:=.type "tuple_iterator",data:=.fields #[.ref l,.int 0 0]}).push
   {cls:=.type "enumerate",data:=.fields #[.none,.bool N',.ref s.heap.objs.size,J_ 0,.none,.none]}) (s.heap.objs.size+1) s.heap.objs.size 0 .none:=by
  have:=j4 (s.heap.push {cls:=.type "tuple_iterator",data:=.fields #[.ref l,.int 0 0]})
   (o:={cls:=.type "enumerate",data:=.fields #[.none,.bool N',.ref s.heap.objs.size,J_ 0,.none,.none]}) X
  rw[hz]at this;exact this
 exact⟨⟨_,he,X⟩,h _ he ⟨_,kC _ (j4 _ X),X,X⟩ (by exact J (yB _ _) (J hz X)) λb o x=>kC _ (kC _ x)⟩
theorem so{Q:cM}(j3:s.heap.IsTupleIter it l i)(hl:s.heap.IsTuple l B')(hx:B'[i]?=f x)(hQ:∀ h',h'.IsTupleIter it l (i+1)->r_ it s.heap h'->Q x {s with heap:=h'}):b_ (c_ H w) A (P_ (.ref it)) Q E s:=by
 refine ia λGq zq=>bY (id j3) λo ho U' hd=>?_;obtain⟨ol,Zp,_,nl,Zq⟩:=hl;refine zq ?_;clear zq;unfold P_
 refine aU (uO (name:=O_ "__next__") j3.typeIs Qi
  (iE Qi j3.typeIs Yt ?_ (Yq _)))
 show b_ _ _ (field (.ref it) 0 >>= _) _ _ s;refine aU (qB ho hd (x:=.ref l) X ?_);refine J (ak (show ¬ ((F_ l==C_)=R) from Td)) ?_;refine aU (qB ho hd (x:=.int i 0) X ?_);refine aU (Mh Zp Zq ?_);(refine J (CG _) ?_;try dsimp only;refine J hx ?_;try dsimp only);refine aU (CY ho hd (by exact fB _) (cy ⟨x,X,cy (hQ _ ?_ (qU ..))⟩))
 exact⟨_,AJ _ ho (L7 (zC hd _)),(L6 ..).trans U',by
  refine J (zC hd _) ?_;simp[J_]⟩
theorem tK{Q:cM}(hh:A.handled=V)(j3:s.heap.IsTupleIter it l i)(hl:s.heap.IsTuple l B')(hx:B'[i]?=V)(hE:∀ h' e,V? it s.heap h'->(∃ o,h'.get? e=f o/\o.cls=.type "StopIteration")->E (.ref e) {s with heap:=h'}):b_ (c_ H w) A (P_ (.ref it)) Q E s:=by
 refine bY (id j3) λo ho U' hd=>?_;obtain⟨ol,Zp,_,nl,Zq⟩:=hl;unfold P_
 refine aU (uO (name:=O_ "__next__") j3.typeIs Qi
  (iE Qi j3.typeIs Yt ?_ (Yq _)))
 show b_ _ _ (field (.ref it) 0 >>= _) _ _ s;refine aU (qB ho hd (x:=.ref l) X ?_);refine J (ak (show ¬ ((F_ l==C_)=R) from Td)) ?_;refine aU (qB ho hd (x:=.int i 0) X ?_);refine aU (Mh Zp Zq ?_);(refine J (CG _) ?_;try dsimp only;refine J hx ?_;try dsimp only);refine aU (qC (aU (CY ho hd (by exact iD _) ?_)));refine aU ?_;simp only[newExc,newTuple];refine aU (kU ?_ (by size_fits));refine aU (m:=V_ _ _) (rW (a:=C_) (by first|rfl|((rw[V_];try dsimp only);rfl)) (kU ?_ (by size_fits)));simp -iota only [raiseNew];refine aU (wpAny_handled ?_)
 first|rw[show A.in1.handled=V from hh]|rw[hh]
 exact aU (cy (wpAny_throw (hE _ _ (((qU ..).extBut.push _).push _) ⟨_,j4 _ X,X⟩)))
theorem Draws.tuple(hh:A.handled=V)(it l:bU)(d9:l≠it)(B':T_ aY):Draws H w A it [it,l] B'.size (λi v=>B'[i]?=f v) (λi h=>h.IsTupleIter it l i/\h.IsTuple l B') where
 live:=λO O st=>ah st.1 λo ho O=>⟨o,ho⟩
 frame:=λO O O st hk=>⟨ah st.1 λo ho r=>⟨o,hk it (by exact aQ) o ho,r⟩,st.2.at λo e=>hk l (by exact bg _ aQ) o e⟩
 item:=λi s Q E hi st hQ=>so st.1 st.2 (x:=B'[i]) (by simp[hi]) λh' A6 Fi=>hQ _ h' s.toks (by simp[hi]) ⟨A6,st.2.extBut Fi.extBut d9⟩ Fi
 done:=λs Q E st hE=>tK hh st.1 st.2 (by simp) hE
theorem JS:∀(Z:al) (n i:a_) (x:AV),Z[i]?=f x->(qG n Z)[i]?=f (.tup [.int ((n+i:a_):G),x]):=λw'=>by induction w' with|nil=>intro O O O h;exact nS h|cons y Z ih=>intro n z2;cases z2 with|zero=>intro x h;simp at h;subst h;rfl|succ i=>intro x h;dsimp only[qG];simp -iota only [UJ]at h ⊢;refine J (ih (n+1) i x h) ?_;congr 4;lia
theorem Bf:∀(Z:al) (n:a_),(qG n Z).length=Z.length:=λw'=>by induction w' with|nil=>intro O;exact X|cons O Z ih=>intro n;dsimp only[qG];simp only[fD,fD,ih]
theorem JT{Q:cM}(I:Inv H w b s D N)(rx:bB b.heap s.heap D x v)(e:jc N .enum x=f (Z,lk))(k:∀ Y it,kY H w R b.heap s.heap D lk Z it Y->Q (.ref it) {s with heap:=Y}):b_ (c_ H w) A (call (.type "enumerate") [v]) (λu cV=>b_ (c_ H w) A (U_ u) Q E cV) E s:=by
 have key:∀(l:bU) (M:dG) (ys:al) (h':cE) (St:a_->cE->Prop),aG b.heap s.heap D ys M->Z=qG 0 ys->l<s.heap.objs.size ->
   (∀ A':da,A'.handled=V->Draws H w A' s.heap.objs.size [s.heap.objs.size,l] M.toArray.size (λi v=>M.toArray[i]?=f v) St)->St 0 h' ->
   IsEnum h' (s.heap.objs.size+1) s.heap.objs.size 0 .none->h'.objs.size=s.heap.objs.size+2->(∀ b o,s.heap.get? b=f o->h'.get? b=f o)->(∀ i h,St i h->∃ o M,h.get? s.heap.objs.size=f o/\o.data=.fields M)->(∃ o,h'.get? s.heap.objs.size=f o) ->
   ((∃ B',s.heap.IsTuple l B')\/∃ n,lk=f n/\D[n]?=f l)->kY H w R b.heap s.heap D lk Z (s.heap.objs.size+1) h':=by
  intro l M ys h' St r hx iQ ρ st he hz hk hf ho QU;clear e k;subst hx;have hlen:M.toArray.size=(qG 0 ys).length:=J dX (J r.length (J (Bf _ _) X));refine⟨⟨[s.heap.objs.size+1,s.heap.objs.size,l],[s.heap.objs.size+1,s.heap.objs.size],λi h=>(∃ old,IsEnum h (s.heap.objs.size+1) s.heap.objs.size i old)/\St i h,λA' target hh ht=>?_,⟨⟨_,he⟩,st⟩,?_,?_,?_⟩,hk,?_⟩
  .have W:=WalksT.enumerateD (A:=A') (ρ A'.in1 hh) (s.heap.objs.size+1) (rU (lN _)) (by
    intro hm;rcases aT.mp hm with q|q
    .exact g_ q (rU (lN _))
    .rw[az]at q
     exact g_ (q▸iQ) (wo.mpr (CJ _))) (by exact aQ)
   rw[hlen]at W;cases target with|Tuple elts c pos=>(refine Turn.M6 W ?_;rintro i T vals h ⟨t,x,hx,rfl⟩ hT;refine ah (r.get' (i:=i) (v:=x) (by simpa using hx)) λz M8 M9=>aK _ (JS _ 0 i z M8) (.inr ⟨T,[.int i t,x],_,X,X,hT,aG.cons ?_ (aG.cons M9 aG.nil)⟩);exact J (wq _) (bB.int _ _))|_=>exact fT (ht X)
  .intro a B;rcases aT.mp B with eE|B
   .clear B;subst eE;refine⟨?_,_,he⟩;cases q:s.heap.get? (s.heap.objs.size+1) with|none=>rfl|some o=>exact g_ (mF q) (wo.mpr (CJ _))
   .rw[az]at B;subst B;exact⟨dJ _,ho⟩
  .intro a B;rcases aT.mp B with iA|B
   .clear B;subst iA;exact .inl (by exact aQ)
   .rcases aT.mp B with j5|B
    .clear B;subst j5;exact .inl (by exact bg _ aQ)
    .rw[az]at B;clear iQ ρ;subst B;exact .inr QU
  .rintro i h ⟨⟨old,Y⟩,L⟩ a B;rcases aT.mp B with mj|B
   .clear B;subst mj;exact uU _ _ Y X
   .rw[az]at B;subst B;exact hf i h L
  .exact J hz (rT I.low (by simp))
 cases x with|tup ys=>(dsimp only[jc]at e;rw[dN,rP]at e;obtain⟨e1,oN⟩:=e;subst oN;refine aW (rx.bD) λa M aL t r=>?_;clear rx;subst aL;have iQ:a<s.heap.objs.size:=ah t λo ho O=>mF ho;refine vE t λh' he j3 hz hk=>wpAny_pyIter_enum he (k h' _ (key a M ys h' _ r e1.symm iQ (λA' hh=>Draws.tuple hh _ a (jg iQ) M.toArray) ⟨j3,t.at λo e=>hk _ _ e⟩ he hz hk (λi h st=>bY st.1 λo Y O L=>⟨o,_,Y,L⟩) (ah j3 λo ho O=>⟨o,ho⟩) (.inl ⟨_,t⟩))))|ref n=>(revert e;refine lS (λys ey e=>?_);simp only[dN,rP]at e;obtain⟨e1,qv⟩:=e;subst qv;refine bA (I.cT ey rx) λa M aL Y L h3=>?_;clear rx;subst aL;have iQ:a<s.heap.objs.size:=cz L λO ho=>mF ho;refine call_enumerate_list L.isList λh' he j3 hz hk=>wpAny_pyIter_enum he (k h' _ (key a M ys h' _ h3 e1.symm iQ (λA' hh=>Draws.list hh _ a (jg iQ) M.toArray) ⟨j3,L.isList.at λo e=>hk _ _ e⟩ he hz hk (λi h st=>bY st.1 λo Y O L=>⟨o,_,Y,L⟩) (ah j3 λo ho O=>⟨o,ho⟩) (.inr ⟨_,X,Y⟩))))|_=>exact nS e
theorem yS(n:G):(gY n).length=n.toNat:=by(dsimp only[gY];simp)
theorem FH(h:i<n.toNat):(gY n)[i]?=f (.int i):=by dsimp only[gY];(refine J mH ?_;refine J (Yz h) ?_);rfl
theorem rangeSize_one(n:G):Builtin.Range.rangeSize 0 n 1=(n.toNat:G):=by unfold Builtin.Range.rangeSize;simp;grind
theorem FI{Q:cM}(I:Inv H w b s D N)(rx:bB b.heap s.heap D x v)(e:jc N .range x=f (Z,lk))(k:∀ Y it t,kY H w N' b.heap s.heap D lk Z it Y->Q (.ref it) {s with heap:=Y,toks:=t}):b_ (c_ H w) A (call (.type "range") [v]) (λu cV=>b_ (c_ H w) A (U_ u) Q E cV) E s:=by
 cases x with
 |int n=>
  revert e;refine aZ (λhn e=>?_) nS;revert k;refine gI e ?_;intro k;obtain⟨t,vA⟩:=rx.int_inv;clear rx;subst vA;refine call_range_1 ?_;obtain⟨h0,Y⟩:=hn;refine wpAny_pyIter_range (a:=0) (b:=n) (c:=1) (t:=s.toks) (u:=t) (v:=s.toks+1) (s:={s with heap:=_,toks:=_}) (j4 _ X) ?_ ?_
  .unfold Builtin.Range.small;refine J (rangeSize_one _) ?_
   have:(n.toNat:G)=n:=Int.toNat_of_nonneg h0
   refine J this ?_;simp[Builtin.Range.rangeFitsLong];grind
  .have hkp:∀ a o,s.heap.get? a=f o->(s.heap.push {cls:=.type "range",data:=.fields #[.int 0 s.toks,.int n t,.int 1 (s.toks+1)]}).get? a=f o:=λa o e=>kC _ e;have iN:i_<(s.heap.push {cls:=.type "range",data:=.fields #[.int 0 s.toks,.int n t,.int 1 (s.toks+1)]}).objs.size:=fL _ I.low;show Q (.ref (s.heap.push {cls:=.type "range",data:=.fields #[.int 0 s.toks,.int n t,.int 1 (s.toks+1)]}).objs.size) {s with heap:=(s.heap.push {cls:=.type "range",data:=.fields #[.int 0 s.toks,.int n t,.int 1 (s.toks+1)]}).push _,toks:=s.toks+1+1};generalize s.heap.push {cls:=.type "range",data:=.fields #[.int 0 s.toks,.int n t,.int 1 (s.toks+1)]}=hp at hkp iN ⊢;have jo:s.heap.get? hp.objs.size=V:=by cases q:s.heap.get? hp.objs.size with|none=>rfl|some o=>exact g_ (mF (hkp _ _ q)) (CL _)
   refine k _ _ _ ⟨⟨[hp.objs.size],[hp.objs.size],λi h=>IsRangeIter h hp.objs.size (0+(i:a_)*1) ((n.toNat:G)-(i:a_)) 1,λA' target hh O=>?_,?_,?_,?_,?_⟩,λa o e=>kC _ (hkp a o e),fL _ iN⟩
   .refine J (yS _) (Turn.Ir (P:=λi v=>i<n.toNat/\∃ t,v=.int (0+i*1) t) ?_ (λi h st=>⟨_,_,"range_iterator",st,X,X,by decide⟩) λi v h ⟨hi,t,e⟩=>?_)
    .have W:=Walks.range (prog:=H) (w:=w) hh hp.objs.size 0 1 n.toNat;exact⟨W.sub,W.frame,λi s' Q' E' hi st yO=>W.item i s' Q' E' hi st λv h' tk hv=>yO v h' tk ⟨hi,hv⟩,W.done,W.self⟩
    .refine aK _ (FH hi) (.inl (J e ?_))
     have:(0+(i:G)*1)=(i:G):=by simp
     exact J this (bB.int _ _)
   .show IsRangeIter _ _ _ _ _;unfold IsRangeIter;refine J (j4 _ X) (J (rangeSize_one _) ?_);rfl
   .intro a B;rw[az]at B;subst B;exact⟨jo,_,j4 _ X⟩
   .intro a B;exact .inl B
   .intro i h st a B;rw[az]at B;subst B;exact uU _ _ st X
 |_=>exact nS e
end
end Mine.Internal
end
section
open PySem PyProof.Rows
set_option maxRecDepth 100000
namespace Mine.Internal
noncomputable abbrev q0:String:="list_reverseiterator"
theorem zR:Manifest.owners.lookup (String.ofList ['r','o','t','a','r','e','t','i','e','s','r','e','v','e','r','_','t','s','i','l'].reverse)=f Manifest.sig_list_reverseiterator:=by kernel_rfl
theorem gM:Slot q0 "__next__" "list_reverseiterator.__next__":=
 .of (owner:=q0) (n:="__next__") (by refine J (Mc _ _) (J Ma ?_);kernel_rfl) (by decide +kernel) (by decide +kernel) (by decide +kernel) (.inl (by decide +kernel)) (by refine J (HO _ _) ?_;kernel_rfl)
theorem oU:entryFor table "list_reverseiterator.__next__"=f Builtin.«list_reverseiterator.__next__»:=entryFor_of_tree (by kernel_rfl)
theorem qL(a:aY):argsOk "list_reverseiterator.__next__" ⟨[a],[]⟩:=by unfold argsOk;refine J (signature?_of (id:="list_reverseiterator.__next__") (n:=['_','_','t','x','e','n','_','_']) (o:=['r','o','t','a','r','e','t','i','e','s','r','e','v','e','r','_','t','s','i','l']) (by kernel_rfl) zR) ?_;kernel_rfl
theorem qM:Slot q0 "__iter__" "list_reverseiterator.__iter__":=
 .of (owner:=q0) (n:="__iter__") (by refine J (Mc _ _) (J Ma ?_);kernel_rfl) (by decide +kernel) (by decide +kernel) (by decide +kernel) (.inl (by decide +kernel)) (by refine J (HO _ _) ?_;kernel_rfl)
theorem yT(a:aY):argsOk "list_reverseiterator.__iter__" ⟨[a],[]⟩:=by unfold argsOk;refine J (signature?_of (id:="list_reverseiterator.__iter__") (n:=['_','_','r','e','t','i','_','_']) (o:=['r','o','t','a','r','e','t','i','e','s','r','e','v','e','r','_','t','s','i','l']) (by kernel_rfl) zR) ?_;kernel_rfl
theorem wX:entryFor table "list_reverseiterator.__iter__"=f Builtin.«dict_keyiterator.__iter__»:=
 entryFor_alias (id':="dict_keyiterator.__iter__") (by kernel_rfl) (by first|rfl|decide +kernel|(unfold String.splitOn;simp +decide [String.splitOnAux])) (by decide +kernel) (by kernel_rfl)
theorem It:mroOf (.type "reversed")=pure [.type "reversed",.type "object"]:=by refine J (mroOf_type _) ?_;kernel_rfl
theorem QW:typeLookup (.type "reversed") "__new__"=pure (f (.builtin "reversed.__new__")):=by refine J (Mc _ _) (J Ma ?_);kernel_rfl
theorem Na:Bind.madeBy (.type "reversed")=pure (f "reversed.__new__"):=madeBy_type It QW (by decide +kernel)
theorem yU:entryFor table "reversed.__new__"=f Builtin.«reversed.__new__»:=entryFor_of_tree (by kernel_rfl)
theorem yV:plainId "reversed.__new__"=R:=by decide +kernel
theorem QX:isSubtype (.type "reversed") (.type "reversed")=pure R:=by refine J (HO _ _) ?_;kernel_rfl
theorem Dm:isSubtype (.type q0) (.type "reversed")=pure N':=by refine J (HO _ _) ?_;kernel_rfl
def uY(h:cE)(a l:bU)(i:G):Prop:=∃ o,h.get? a=f o/\o.cls=.type q0/\o.data=.fields #[.ref l,J_ i]
theorem uY.typeIs{s:aJ}{a l:bU}{i:G}(x:uY s.heap a l i):s.TypeIs (.ref a) q0:=bY x λo ho U' O=>⟨o,ho,U'⟩
section
variable{w:dc}{b s:aJ}{D F':cc}{N T':St}{A:da}{E:cM}
theorem Dn{Q:cM}(hl:s.heap.IsList l B')(h:Q (.ref s.heap.objs.size) {s with heap:=s.heap.push {cls:=.type q0,data:=.fields #[.ref l,J_ ((B'.size:G)-1)]}}) :
  b_ (c_ H w) A (call (.builtin "list.__reversed__") [.ref l]) Q E s:=by
 obtain⟨o,ho,U',n,hd⟩:=id hl;refine iE UB hl.typeIs F.entry_list_reversed ?_ (F.args_list_reversed_1 _);show b_ _ _ (Y_ (.ref l) >>= _) _ _ s;exact aU (HW ho hd (aU (kU (cy ⟨_,X,h⟩))))
theorem Bg{Q₁:cM}(hl:s.heap.IsList l B')(h:Q₁ (.ref s.heap.objs.size) {s with heap:=s.heap.push {cls:=.type q0,data:=.fields #[.ref l,J_ ((B'.size:G)-1)]}}) :
  R_ (c_ H w) A (.call (.builtin "reversed.__new__") ⟨[.type "reversed",.ref l],[]⟩) (wants Q₁ E) s:=by
 refine codeAny_call_builtin yV yU (rW (show checkBuiltinCall "reversed.__new__" ⟨[.type "reversed",.ref l],[]⟩=pure () by kernel_rfl) ?_);have wW:=QX;have hnc:Builtin.SmallTypes.newClass "reversed" ⟨[.type "reversed",.ref l],[]⟩=pure (.type "reversed",[.ref l]):=by unfold Builtin.SmallTypes.newClass;rfl
 unfold Builtin.«reversed.__new__»;refine aU (rW hnc ?_)
 try dsimp only
 refine aU (rW (a:=()) (by first|rfl|kernel_rfl) (aU (rW (a:=()) (by first|rfl|kernel_rfl) ?_)))
 try dsimp only
 refine aU (Mi hl.typeIs UB.lookup ?_);dsimp only;refine aU (rW (UB.bind _) ?_);dsimp only;exact J (ak (show ¬ ((Value.builtin "list.__reversed__"==C_)=R) from by decide)) (aU (qC (aU (m:=runValue (.call (.builtin "list.__reversed__") ⟨[.ref l],[]⟩)) (show b_ _ _ (call (.builtin "list.__reversed__") [.ref l]) _ _ _ from Dn hl (cy h)))))
theorem Nb{Q:cM}(hl:s.heap.IsList l B')(h:Q (.ref s.heap.objs.size) {s with heap:=s.heap.push {cls:=.type q0,data:=.fields #[.ref l,J_ ((B'.size:G)-1)]}}) :
  b_ (c_ H w) A (call (.type "reversed") [.ref l]) Q E s:=by
 have agk:=It;have ae7:=Na;have wW:=Dm;have hct:checkTypeCall "reversed" ⟨[.ref l],[]⟩=pure ():=by kernel_rfl
 have Y:(w? "reversed"==w? "type")=N':=by decide +kernel
 have L:((Manifest.find? "reversed").bind (·.mro.findSome? λt=>(Manifest.find? t).bind λb=>if b.noNew then f R else if b.attrs.any (·.1=="__new__") then f N' else V)).getD N'=N':=by decide +kernel
 refine wpAny_call (codeAny_of_tree ?_);refine cy ⟨Code.quiet_builtin _ (by decide +kernel),codeAny_builtin F.entry_type_call ?_⟩;refine J (Around.under_plain (weight_type_call_type "reversed" [.ref l] []) X) ?_;have jo:=Bg (w:=w) (A:=A.in1) (E:=E) (Q₁:=λobj cV=>obj=.ref s.heap.objs.size/\cV={s with heap:=s.heap.push {cls:=.type q0,data:=.fields #[.ref l,J_ ((B'.size:G)-1)]}}) hl ⟨X,X⟩
 repeat (any_goals (first|assumption|wp_step))
 refine codeAny_mono jo λr cV hr=>?_;cases r with|error e=>exact hr|ok fl=>
  cases fl with
  |ret obj=>
   obtain⟨eE,iA⟩:=hr;subst eE;subst iA;have hT:Shared.TypeIs {s with heap:=s.heap.push {cls:=.type q0,data:=.fields #[.ref l,J_ ((B'.size:G)-1)]}} (.ref s.heap.objs.size) q0:=⟨_,j4 _ X,X⟩
   repeat (any_goals (first|assumption|wp_step))
  |_=>exact hr.elim
theorem yW{it l:bU}{i:a_}{Q:af aY->aJ->Prop}(j3:uY s.heap it l (i:G))(hl:s.heap.IsList l B')(hx:B'[i]?=f x)(hQ:∀ h',uY h' it l ((i:G)-1)->r_ it s.heap h'->Q (f x) {s with heap:=h'}):b_ (c_ H w) A (K_ (.ref it)) Q E s:=by
 refine bY (id j3) λo ho U' hd=>?_;obtain⟨ol,Zp,_,nl,Zq⟩:=hl;unfold K_;refine aU (CX (uO (name:=O_ "__next__") j3.typeIs gM (iE gM j3.typeIs oU ?_ (qL _))));show b_ _ _ (field (.ref it) 1 >>= _) _ _ s;refine aU (qB ho hd (x:=J_ (i:G)) X ?_);show b_ _ _ (if (i:G)<0 then _ else _) _ _ s;refine J (ak (by simp)) ?_;refine aU (qB ho hd (x:=.ref l) X ?_);refine aU (Mh Zp Zq ?_);(refine J (CG _) ?_;try dsimp only;refine J hx ?_;try dsimp only);refine aU (CY ho hd (by exact fB _) (aU (cy (cy ⟨x,X,cy (hQ _ ?_ (qU ..))⟩))));exact kz _ (AJ _ ho (L7 (zC hd _))) ((L6 ..).trans U') (by exact J (zC hd _) X)
theorem Bh{Q:af aY->aJ->Prop}(hh:A.handled=V)(j3:uY s.heap it l (-1))(hQ:∀ h',V? it s.heap h'->Q V {s with heap:=h'}) :
  b_ (c_ H w) A (K_ (.ref it)) Q E s:=by
 refine bY (id j3) λo ho U' hd=>?_;unfold K_;refine aU (CX (uO (name:=O_ "__next__") j3.typeIs gM (iE gM j3.typeIs oU ?_ (qL _))));show b_ _ _ (field (.ref it) 1 >>= _) _ _ s;refine aU (qB ho hd (x:=J_ (-1)) X ?_);show b_ _ _ (if (-1:G)<0 then _ else _) _ _ s;refine J (ai (by decide)) ?_;refine aU (qC ?_);refine aU ?_;refine aU ?_;simp -iota only [newExc,newTuple];refine aU (kU ?_ (by size_fits));refine aU (m:=V_ _ _) (rW (a:=C_) (by first|rfl|((exact(V_).symm▸X);rfl)) ?_);refine kU ?_ (by size_fits);simp -iota only [raiseNew];refine aU (wpAny_handled ?_)
 first|rw[show A.in1.handled=V from hh]|rw[hh]
 refine aU (cy (wpAny_throw ?_));refine aU (wB (T:="StopIteration") (b:=R) ⟨_,j4 _ X,X⟩ isSubtype_stop ?_);exact cy (hQ _ (((Heap.ExtBut.refl _ _).push _).push _))
theorem Dp{Q:cM}(j3:uY s.heap it l i)(h:Q (.ref it) s):b_ (c_ H w) A (U_ (.ref it)) Q E s:=by refine wpAny_pyIter_slot j3.typeIs qM (iE qM j3.typeIs wX ?_ (yT _));exact cy ⟨_,X,q0,_,j3.typeIs,gM.lookup,h⟩
theorem Nc{Q:cM}(I:Inv H w b s D N)(rx:bB b.heap s.heap D x v)(e:jc N .rev x=f (Z,lk))(k:∀ Y it,kY H w N' b.heap s.heap D lk Z it Y->Q (.ref it) {s with heap:=Y}):b_ (c_ H w) A (call (.type "reversed") [v]) (λu cV=>b_ (c_ H w) A (U_ u) Q E cV) E s:=by
 cases x with
 |ref n=>
  revert e;refine lS (λys ey e=>?_);revert k;refine gI e ?_;intro k;refine bA (I.cT ey rx) λl M aL Y L h3=>?_;subst aL;have iQ:l<s.heap.objs.size:=cz L λO ho=>mF ho;have hlen:M.toArray.size=ys.length:=dX.trans h3.length;refine Nb L.isList ?_;have VJ:uY (s.heap.push {cls:=.type q0,data:=.fields #[.ref l,J_ ((M.toArray.size:G)-1)]}) s.heap.objs.size l ((M.toArray.size:G)-1):=⟨_,j4 _ X,X,X⟩;refine Dp (s:={s with heap:=_}) VJ (k _ _ ⟨⟨[s.heap.objs.size,l],[s.heap.objs.size],λi h=>i<=ys.length/\uY h s.heap.objs.size l ((ys.length:G)-1-(i:G))/\h.IsList l M.toArray,λA' target hh O=>?_,?_,?_,?_,?_⟩,λa o e=>kC _ e,fL _ I.low⟩)
  .refine J uM ⟨λb hb=>by simp at hb;simp[hb],λi h h' st hk=>⟨st.1,?_,st.2.2.at λo e=>hk l (by exact bg _ aQ) o e⟩,λi s' Q' E' hi st yO=>?_,λs' Q' E' st yO=>?_,λi s' Q' E' st yO=>Dp st.2.1 yO⟩
   .exact ah (st.2.1) λo ho r=>aK o (hk _ (by exact aQ) o ho) r
   .obtain⟨_,j3,hl⟩:=st;have hj:(ys.length:G)-1-(i:G)=((ys.length-1-i:a_):G):=U1 hi;rw[hj]at j3;have Zr:ys.length-1-i<ys.length:=Mm hi;refine ah (h3.get (i:=ys.length-1-i) (x:=ys[ys.length-1-i]) (lJ Zr)) λv hv1 hv2=>?_;refine yW j3 hl (x:=v) (by simpa using hv1) λh' A6 Fi=>yO v _ λQ2 E2 Zs=>uX ?_ (Zs h' s'.toks ⟨_,?_,.inl hv2⟩ ⟨hi,?_,hl.extBut Fi.extBut (jg iQ)⟩ λb o hb e=>Fi.extBut b o (λq=>hb (by simp[q])) e)
    .obtain⟨o,ho,U',hd⟩:=A6;exact C5 o _ _ ho U' hd (by decide)
    .refine J (Jz hi) ?_;exact lJ Zr
    .have:((ys.length-1-i:a_):G)-1=(ys.length:G)-1-((i+1:a_):G):=(c8 (·-1) hj.symm).trans (Int.sub_sub _ _ _)
     exact dR this A6
   .obtain⟨_,j3,hl⟩:=st;have hj:(ys.length:G)-1-(ys.length:G) = -1:=by lia
    rw[hj]at j3;exact Bh hh j3 λh' QJ=>yO h' s'.toks λb o hb e=>QJ b o (λq=>hb (by simp[q])) e
  .refine qH (jP _) ?_ (L.isList.at λo e=>kC _ e);refine dR hlen ?_
   have:((M.toArray.size:G)-1-((0:a_):G))=(M.toArray.size:G)-1:=by simp
   exact J this VJ
  .intro a B;rw[az]at B;subst B;exact⟨dJ _,_,j4 _ X⟩
  .intro a B;rcases aT.mp B with rfl|B
   .exact .inl (by exact aQ)
   .rw[az]at B;clear L rx iQ VJ;subst B;exact .inr (.inr ⟨_,X,Y⟩)
  .intro i h st a B;rw[az]at B;subst B;refine bY (st.2.1) λo g1 O g2=>?_;exact uU o _ g1 g2
 |_=>exact nS e
end
theorem Bi(K':a_->G):∀ n,S? K' (n+1)=K' 0+S? (λi=>K' (i+1)) n:=λw'=>by induction w' with|zero=>simp[S?]|succ n ih=>simp -iota only [S?,ih,S?];lia
noncomputable def intAt (Z:al) (i:a_):G:=match Z[i]? with|f (.int z)=>z|_=>0
noncomputable def tL (Z:al) (i:a_):e_:=match Z[i]? with|f (.bool z)=>z|_=>N'
theorem nB(x:AV)(Z:al)(i:a_):intAt (x::Z) (i+1)=intAt Z i:=by rfl
theorem FJ:∀(Z:al) (a z:G),sumInts Z a=f z->z=a+S? (intAt Z) Z.length/\∀(i:a_) x,Z[i]?=f x->x=.int (intAt Z i):=λw'=>by induction w' with|nil=>intro a z h;(dsimp only[sumInts]at h;rw[dN]at h);subst h;exact⟨by simp[S?],λi x h=>by simp at h⟩|cons x Z ih=>
  intro a z h
  cases x with
  |int i=>
   dsimp only[sumInts]at h;refine cC (ih _ _ h) λY L=>?_;refine⟨?_,λj y hy=>?_⟩
   .refine J fD (J (Bi _ _) (J Y ?_))
    have:(λj=>intAt (AV.int i::Z) (j+1))=intAt Z:=funext λj=>nB _ _ _
    refine J this ?_;dsimp only[intAt];simp only[Qp];lia
   .cases j with|zero=>simp at hy;subst hy;rfl|succ j=>exact J (nB _ _ _) (L j y (by simpa using hy))
  |_=>exact nS h
theorem Bj:∀(Z:al) (a z:G),iL Z a=f z->∀(i:a_) x,Z[i]?=f x->x=.int (intAt Z i):=λw'=>by induction w' with|nil=>intro O O O i x h;exact nS h|cons x Z ih=>intro a z h i y hy;cases x with|int k=>(dsimp only[iL]at h;cases i with|zero=>simp at hy;subst hy;rfl|succ j=>exact J (nB _ _ _) (ih _ _ h j y (by simpa using hy)))|_=>exact nS h
theorem FK(val:a_->G):∀(Z:al) (k:a_) (z:G),iL Z (val (E? (λi j=>decide (val i>val j)) k))=f z->(∀(i:a_) x,Z[i]?=f x->x=.int (val (k+1+i))) ->
  z=val (E? (λi j=>decide (val i>val j)) (k+Z.length)):=by
 intro w';induction w' with|nil=>intro k z h O;(dsimp only[iL]at h;rw[dN]at h);simp[h]|cons x Z ih=>
  intro k z h hx;have e0:=hx 0 x X;subst e0;dsimp only[iL]at h
  have e1:(if val (E? (λi j=>decide (val i>val j)) k)<val (k+1+0) then val (k+1+0) else val (E? (λi j=>decide (val i>val j)) k))=val (E? (λi j=>decide (val i>val j)) (k+1)):=by
   simp only[E?,Nat.add_zero];by_cases q:val (E? (λi j=>decide (val i>val j)) k)<val (k+1)
   .simp[q]
   .simp[q]
  rw[e1]at h
  have:=ih (k+1) z h λi y hy=>by
   have:=hx (i+1) y (by simpa using hy)
   refine J this ?_;congr 2;lia
  refine J fD (J this ?_);congr 2;lia
theorem wY:∀(Z:al) (l:d_ e_),boolsOf Z=f l->l=(y_ Z.length).map (tL Z)/\∀(i:a_) x,Z[i]?=f x->x=.bool (tL Z i):=λw'=>by induction w' with|nil=>intro l h;(dsimp only[boolsOf]at h;rw[dN]at h);subst h;exact⟨X,λi x h=>by simp at h⟩|cons x Z ih=>
  intro l h
  cases x with
  |bool c=>
   revert h;refine r8 (λl' hl h=>?_);simp only[dN]at h;subst h;obtain⟨Y,L⟩:=ih l' hl;refine⟨?_,λj y hy=>?_⟩
   .simp only[fD,List.range_succ_eq_map,bW,fE,Y];congr 1
   .cases j with|zero=>simp at hy;subst hy;rfl|succ j=>exact L j y (by simpa using hy)
  |_=>exact nS h
theorem nE(e:jI N x=f Z):∃ lk,jc N .plain x=f (Z,lk):=by cases x with|tup ys=>(dsimp only[jI]at e;rw[dN]at e);subst e;exact⟨_,X⟩|ref n=>(dsimp only[jI]at e;dsimp only[jc];cases q:N.get n with|none=>rw[q]at e;exact nS e|some o=>rw[q]at e;(clear q;cases o)<;>exact⟨f n,c8 (λx=>f (x,f n)) (aw e)⟩)|_=>exact nS e
noncomputable def k0:BI->aY
 | .abs=>.builtin "abs" | .len=>.builtin "len" | .list=>.type "list" | .tuple=>.type "tuple" | .dict=>.type "dict" | .sum=>.builtin "sum" | .yC=>.builtin "max" | .max2=>.builtin "max"
 | .min2=>.builtin "min" | .any=>.builtin "any" | .all=>.builtin "all" | .int=>.type "int"
section
variable{w:dc}{b s:aJ}{D F':cc}{N T':St}{A:da}{E:cM}
theorem WalkAt.after(I:Inv H w b s D N){Y h':cE}{lk:af a_}{Z:al}{it:bU}{wr:cc}(tJ:∀ a∈wr,s.heap.get? a=V/\∃ o,Y.get? a=f o)(hk:∀ a o,s.heap.get? a=f o->Y.get? a=f o)(Fj:∀ a o,a∉wr->Y.get? a=f o->h'.get? a=f o):(∀ a o,s.heap.get? a=f o->h'.get? a=f o)/\i_<h'.objs.size:=by
 have h:∀ a o,s.heap.get? a=f o->h'.get? a=f o:=λa o e=>Fj a o (λm=>by rw[(tJ a m).1]at e;exact nS e) (hk a o e);exact⟨h,I.gZ h⟩
theorem ou(r:aG J' h D [x] M):∃ v,M=[v]/\bB J' h D x v:=by dsimp only[aG]at r;obtain⟨v,r',eE,h,iA⟩:=r;subst eE;subst iA;exact aK v X h
theorem TQ(r:aG J' h D [x,y] M):∃ u v,M=[u,v]/\bB J' h D x u/\bB J' h D y v:=by refine C3 λGq kq=>?_;dsimp only[aG]at r;obtain⟨v,r',j5,h,u,r'',mj,L,oN⟩:=r;subst j5;subst mj;subst oN;exact kq v u X h L
theorem Zt{k:BI}{as:al}{M:dG}{z:AV}{Q:cM}(hA:Fy A)(I:Inv H w b s D N)(r:aG b.heap s.heap D as M)(e:jd N k as=f (T',z))(K:fK H w b s D N T' z Q) :
  b_ (c_ H w) A (call (k0 k) M) Q E s:=by
 cases k with
 |abs=>dsimp only[jd]at e;revert e;refine Tz (λO br e=>?_);subst br;revert K;refine gI e ?_;intro K;refine ah (ou r) λv bK r1=>?_;subst bK;refine cz (r1.int_inv) λt aL=>?_;clear r1 r;subst aL;exact call_abs_int λu tk=>K.tok I (bB.int _ _)
 |int=>dsimp only[jd]at e;revert e;refine Tz (λO br e=>?_);subst br;revert K;refine gI e ?_;intro K;refine ah (ou r) λv bK r1=>?_;subst bK;refine cz (r1.int_inv) λt aL=>?_;clear r1 r;subst aL;exact call_int_int (K.tE I (bB.int _ _))
 |len=>
  dsimp only[jd]at e;revert e;refine Y8 (λZ br e=>?_) (λn br e=>?_);subst br;rotate_left;subst br;rotate_left
  .revert e;refine aZ (λhz e=>?_) nS;revert K;refine gI e ?_;intro K;refine ah (ou r) λv bK r1=>?_;subst bK;refine aW (r1.bD) λa us aL t q=>?_;clear r1 r;subst aL;have hl:us.toArray.size=Z.length:=dX.trans q.length;refine len_tuple t (by refine J hl ?_;dsimp only[lim]at hz;lia) ?_;exact J hl (K.tok I (bB.int _ _))
  .revert e;refine vT (λZ ex e=>?_) (λZ ex e=>?_)
   .revert e;refine aZ (λhz e=>?_) nS;revert K;refine gI e ?_;intro K;refine ah (ou r) λv bK r1=>?_;subst bK;refine bA (I.cT ex r1) λa us aL O t q=>?_;clear r1 r;subst aL;have hl:us.toArray.size=Z.length:=dX.trans q.length;refine PySem.Calls.call_len_list t.isList (by refine J hl ?_;dsimp only[lim]at hz;omega) ?_;exact J hl (K.tok I (bB.int _ _))
   .revert e;refine aZ (λhz e=>?_) nS;revert K;refine gI e ?_;intro K;refine ah (ou r) λv bK r1=>?_;subst bK;refine bA (I.kG ex r1) λa us aL hm t q=>?_;clear r1 r;subst aL;obtain⟨o,es,ep,ho,hx,hd,he,_⟩:=t;have hl:es.size=Z.length:=(zF he).trans q.length;refine QQ (I.fresh a (dU hm)).2 ⟨o,ho,hx,hd⟩ (by refine J hl ?_;dsimp only[lim]at hz;lia) λt tk=>?_;exact J hl (K.tok I (bB.int _ _))
 |list=>
  dsimp only[jd]at e;revert e;refine My (λn br=>?_);subst br;refine lS (λZ ex=>aZ (λhz=>?_) nS);refine dv (λs' ep e=>?_);revert K;refine gI e ?_;intro K;refine ah (ou r) λv bK r1=>?_;subst bK;obtain⟨a,us,rfl,_,⟨n1,t⟩,q⟩:=I.cT ex r1;refine call_list_seq a (.inl X) t X X (λh' c' hk hn=>?_) ?_
  .exact fK.list (t:=s.toks) ep K I q hk (dJ _) I.low (I.gZ hk) ⟨_,hn⟩
  .refine J dX (J q.length ?_);exact aR hz eJ
 |tuple=>
  dsimp only[jd]at e;revert e;refine My (λn br=>?_);subst br;refine lS (λZ ex=>aZ (λhz e=>?_) nS);revert K;refine gI e ?_;intro K;refine ah (ou r) λv bK r1=>?_;subst bK;refine bA (I.cT ex r1) λa us aL O t q=>?_;clear r1 r;subst aL;refine call_tuple_list t.isList (λh' hk=>?_) ?_
  .have vs:=I.more (t:=s.toks) hk (I.gZ hk);have VL:∀ a o,s.heap.get? a=f o->(h'.push {cls:=.type "tuple",data:=.seq us.toArray}).get? a=f o:=λa o e=>kC _ (hk a o e);have M2:=I.more (t:=s.toks) VL (I.gZ VL);exact K _ _ _ M2.1 M2.2 (bB.tup (wK us) (I.Fx M2.2 aX.nil q))
  .refine J dX (J q.length ?_);exact aR hz eJ
 |dict=>dsimp only[jd]at e;revert e;refine My (λn br=>?_);subst br;refine Ib (λZ ex=>aZ (λhz=>?_) nS);refine dv (λs' ep e=>?_);revert K;refine gI e ?_;intro K;refine ah (ou r) λv bK r1=>?_;clear r;subst bK;exact JP hA I ex r1 hz.1 hz.2 ep K
 |sum=>
  dsimp only[jd]at e;revert e;refine Ic (λx br=>?_);subst br;refine dY (λZ ex=>gP (λz' ez e=>?_));revert K;refine gI e ?_;intro K;refine ah (ou r) λv bK r1=>?_;clear r;subst bK;obtain⟨lk,el⟩:=nE ex;refine cC (FJ Z 0 z' ez) λhz hint=>?_;refine call_sum_walkG (kZ I r1 el λY it W=>?_);obtain⟨⟨fp,wr,St,hW,h0,hq,tJ,QU,iQ⟩,hk,hl⟩:=W;refine Tw it fp wr Z.length _ St (intAt Z) X (hW A.in1 hA.hh) h0 iQ (λi v ⟨x,hx,rv⟩=>?_) (λh' tk t' Fj=>?_)
  .rw[hint i x hx]at rv;exact rv.int_inv
  .refine cC (WalkAt.after (Z:=Z) (lk:=lk) (it:=it) I tJ hk Fj) λa1 a2=>?_
   have:S? (intAt Z) Z.length=z':=by refine J hz ?_;simp
   exact J this (K.more I a1 a2 (bB.int _ _))
 |yC=>
  dsimp only[jd]at e;revert e;refine Ic (λx br=>?_);subst br;refine TB (λi Z ex=>gP (λz' ez e=>?_));revert K;refine gI e ?_;intro K;refine ah (ou r) λv bK r1=>?_;clear r;subst bK;obtain⟨lk,el⟩:=nE ex;have hint:∀(j:a_) y,(AV.int i::Z)[j]?=f y->y=.int (intAt (AV.int i::Z) j):=λj y hy=>by cases j with|zero=>simp at hy;subst hy;rfl|succ j=>exact J (nB _ _ _) (Bj Z _ _ ez j y (by simpa using hy))
  have hz:z'=intAt (AV.int i::Z) (E? (λp q=>decide (intAt (AV.int i::Z) p>intAt (AV.int i::Z) q)) Z.length):=by
   have:=FK (intAt (AV.int i::Z)) Z 0 z' ez λj y hy=>by exact J (show 0+1+j=j+1 by lia) (hint (j+1) y (by simpa using hy))
   rw[wq]at this;exact this
  refine call_max_walk (kZ I r1 el λY it W=>?_);obtain⟨⟨fp,wr,St,hW,h0,hq,tJ,QU,iQ⟩,hk,hl⟩:=W;refine YS it fp wr ((AV.int i::Z).length) _ St (λp q=>decide (intAt (AV.int i::Z) p>intAt (AV.int i::Z) q)) X (hW A.in1 hA.hh) h0 iQ (by exact iD _) (CmpOf.ints_gt (intAt (AV.int i::Z)) λj v ⟨x,hx,rv⟩=>?_) (λv h' tk hP Fj=>?_)
  .rw[hint j x hx]at rv;exact rv.int_inv
  .refine cC (WalkAt.after (Z:=Z) (lk:=lk) (it:=it) I tJ hk Fj) λa1 a2=>?_;obtain⟨x,hx,rv⟩:=hP;rw[hint _ x hx,fD,Nat.add_sub_cancel,<-hz]at rv;obtain⟨t,rfl⟩:=rv.int_inv;exact K.more I a1 a2 (bB.int _ _)
 |max2=>
  dsimp only[jd]at e;revert e;refine TG (λx y br e=>?_);subst br;revert K;refine gI e ?_;intro K;refine aW (TQ r) λu v aL r1 r2=>?_;subst aL;obtain⟨t,rfl⟩:=r1.int_inv;refine cz (r2.int_inv) λt' aL=>?_;clear r2 r;subst aL;refine max_two_ints hA.hh λh' tk hk=>?_;split
  .rename_i U';simp only[ai U']at K;exact K.more I hk (I.gZ hk) (bB.int _ _)
  .rename_i U';simp only[ak U']at K;exact K.more I hk (I.gZ hk) (bB.int _ _)
 |min2=>
  dsimp only[jd]at e;revert e;refine TG (λx y br e=>?_);subst br;revert K;refine gI e ?_;intro K;refine aW (TQ r) λu v aL r1 r2=>?_;subst aL;obtain⟨t,rfl⟩:=r1.int_inv;refine cz (r2.int_inv) λt' aL=>?_;clear r2 r;subst aL;refine min_two_ints hA.hh λh' tk hk=>?_;split
  .rename_i U';simp only[ai U']at K;exact K.more I hk (I.gZ hk) (bB.int _ _)
  .rename_i U';simp only[ak U']at K;exact K.more I hk (I.gZ hk) (bB.int _ _)
 |any=>
  dsimp only[jd]at e;revert e;refine Ic (λx br=>?_);subst br;refine dY (λZ ex=>r8 (λl el e=>?_));revert K;refine gI e ?_;intro K;refine ah (ou r) λv bK r1=>?_;clear r;subst bK;obtain⟨lk,ei⟩:=nE ex;refine cC (wY Z l el) λhz hb=>?_;refine call_any_walk (kZ I r1 ei λY it W=>?_);obtain⟨⟨fp,wr,St,hW,h0,hq,tJ,QU,iQ⟩,hk,hl⟩:=W;refine Tv it fp wr Z.length _ St (tL Z) X (hW A.in1 hA.hh) h0 (λi v s' Q' E' ⟨x,hx,rv⟩ yO=>?_) (λh' tk Fj=>?_)
  .rw[hb i x hx]at rv;refine(rv.bool_inv).symm▸?_;exact qD yO
  .refine cC (WalkAt.after (Z:=Z) (lk:=lk) (it:=it) I tJ hk Fj) λa1 a2=>?_
   have:(y_ Z.length).any (tL Z)=l.any id:=by rw[hz,List.any_map];rfl
   refine(this).symm▸?_;exact K.more I a1 a2 (bB.bool _)
 |all=>
  dsimp only[jd]at e;revert e;refine Ic (λx br=>?_);subst br;refine dY (λZ ex=>r8 (λl el e=>?_));revert K;refine gI e ?_;intro K;refine ah (ou r) λv bK r1=>?_;clear r;subst bK;obtain⟨lk,ei⟩:=nE ex;refine cC (wY Z l el) λhz hb=>?_;refine call_all_walk (kZ I r1 ei λY it W=>?_);obtain⟨⟨fp,wr,St,hW,h0,hq,tJ,QU,iQ⟩,hk,hl⟩:=W;refine Tv it fp wr Z.length _ St (tL Z) X (hW A.in1 hA.hh) h0 (λi v s' Q' E' ⟨x,hx,rv⟩ yO=>?_) (λh' tk Fj=>?_)
  .rw[hb i x hx]at rv;refine(rv.bool_inv).symm▸?_;exact qD yO
  .refine cC (WalkAt.after (Z:=Z) (lk:=lk) (it:=it) I tJ hk Fj) λa1 a2=>?_
   have:(y_ Z.length).all (tL Z)=l.all id:=by rw[hz,List.all_map];rfl
   refine(this).symm▸?_;exact K.more I a1 a2 (bB.bool _)
end
def wZ(s:St)(l:a_)(v:AV):af St:=match s.getM l with|f (.list Z)=>if Z.length<=lim then s.set l (.list (Z++[v])) else .none|_=>V
def w0(s:St)(l:a_)(v:AV):af St:=match s.getM l with|f (.list Z)=>(match v with|.ref m=>(match s.get m with|f (.list ys)=>if m≠l/\Z.length<=lim/\ys.length<=lim then s.set l (.list (Z++ys)) else .none|_=>V)|_=>V)|_=>V
def zS(two:e_)(s:St)(d:a_)(k:AV):af St:=match s.getM d with|f (.dict bJ)=>(match k with|.tup k=>(match keyOf k with|f k=>(if bJ.length<=lim then match two||(jR bJ k).isSome with|R=>s.set d (.dict (lK bJ k))|N'=>V else .none)|V=>V)|_=>V)|_=>V
section
variable{w:dc}{b s:aJ}{D F':cc}{N T':St}{A:da}{E:cM}
theorem Zu{Q:cM}(hA:Fy A)(I:Inv H w b s D N)(rx:bB b.heap s.heap D x u)(rc:bB b.heap s.heap D c v)(e:Ft N x c=f r)(K:∀ t,Q (.bool (r==y)) {s with toks:=t}) :
  b_ (c_ H w) A (D? (if y then .In else .NotIn) u v) Q E s:=by
 have hu:A.in1.units+3<zk:=by
  have:=hA.un
  show A.units+1+3<zk;lia
 cases c with
 |tup Z=>dsimp only[Ft]at e;refine aW (rc.bD) λa M aL t q=>?_;clear rc;subst aL;refine ah (Di hu rx Z r M e q) λK' Y L=>?_;have h3:M.toArray.any K'=r:=J List.any_toArray L;cases y with|true=>exact PySem.SeqAt.in_tupleAt K' t (λy hy=>Y y (by simpa using hy)) (by refine J h3 ?_;simpa using K s.toks)|false=>exact PySem.SeqAt.notIn_tupleAt K' t (λy hy=>Y y (by simpa using hy)) (by refine J h3 ?_;simpa using K s.toks)
 |ref n=>
  revert e;refine vT (λZ ex e=>?_) (λbJ ex e=>?_)
  .refine bA (I.cT ex rc) λa M aL O t q=>?_;clear rc;subst aL;refine ah (Di hu rx Z r M e q) λK' Y L=>?_;have h3:M.toArray.any K'=r:=J List.any_toArray L;cases y with|true=>exact PySem.SeqAt.in_listAt K' t.isList (λy hy=>Y y (by simpa using hy)) (by refine J h3 ?_;simpa using K s.toks)|false=>exact PySem.SeqAt.notIn_listAt K' t.isList (λy hy=>Y y (by simpa using hy)) (by refine J h3 ?_;simpa using K s.toks)
  .revert e;refine uV (λk br=>?_);subst br;refine fx (λks ek e=>?_);simp only[dN]at e;refine bA (I.kG ex rc) λd Z aL hm t q=>?_;clear rc;subst aL;rw[ic ek]at rx;refine ah (g7 (w:=w) rx) λa bK hk=>?_;clear rx;subst bK;have hd:=(I.fresh d (dU hm)).2
   have hr:(b? Z ks).isSome=r:=by
    rcases vW q ks with ⟨Y,L⟩|⟨x,p,Y,L,_⟩
    .exact J L (dR e (J Y X))
    .exact J L (dR e (J Y X))
   cases y with|true=>exact wpAny_in_heap (mN hA) hk hd t (by refine J hr ?_;simpa using K _)|false=>exact wpAny_notIn_heap (mN hA) hk hd t (by refine J hr ?_;simpa using K _)
 |_=>exact nS e
theorem yX{B':T_ aY}{n:a_}{k:G}{t:Tok}{v:aY}{Q:j?->aJ->Prop}(hl:s.heap.get? l=f {cls:=.type "list",data:=.seq B' n})(h0:0<=k)(VF:k<2^63)(hn:k<B'.size)(hQ:∀ h',h'.PlainList l (B'.setIfInBounds k.toNat v)->r_ l s.heap h'->Q () {s with heap:=h'}):b_ (c_ H w) A (setItem (.ref l) (.int k t) v) Q E s:=by
 have hT:s.TypeIs (.ref l) "list":=⟨_,hl,X⟩;unfold setItem;refine oj (aU (wpAny_sequenceKey hT (by decide) (aU (uO (name:=O_ "__setitem__") hT F.slot_list_setitem (iE F.slot_list_setitem hT F.entry_list_setitem ?_ (F.args_list_setitem_3 _ _ _))))));show b_ _ _ (Builtin.List.listSubscript? (.int k t) >>= _) _ _ s;refine aU (wpAny_listSubscript_int (fitsIndex_of h0 VF) ?_);clear VF;refine cz (Int.eq_ofNat_of_zero_le h0) λj aL=>?_;clear h0;subst aL;have hj:j<B'.size:=by lia
 have hx':B'[j]?=f B'[j]:=tT0 hj;refine aU (aU (wpAny_seqItemAt hl X (cy (J hx' ?_))));refine aU (wpAny_setSeqItemAt hl X ?_);have hp:(s.heap.update l (x_ (·.setIfInBounds j v))).PlainList l (B'.setIfInBounds j v):=⟨_,AJ _ hl X⟩
 first
  |exact aU (cy (cy ⟨.none,X,cy (hQ _ hp (qU ..))⟩))
  |exact cy ⟨.none,X,cy (hQ _ hp (qU ..))⟩
theorem PlainList.cls{h:cE}{a:bU}{B':T_ aY}(x:h.PlainList a B'):∃ ob,h.get? a=f ob/\(ob.cls=.type "list"\/ob.cls=.type "dict"):=cz x λn hn=>⟨_,hn,.inl X⟩
theorem DictOfH.cls{h:cE}{a:bU}{Z:d_ (aA × bU × aY)}(x:h.DictOfH (tk H w) a Z):∃ ob,h.get? a=f ob/\(ob.cls=.type "list"\/ob.cls=.type "dict"):=zJ x λo O O Y L O=>⟨_,Y,.inr L.1⟩
theorem Dq{a:a_}{M' v:AV}{o i u:aY}{Q:j?->aJ->Prop}(hA:Fy A)(I:Inv H w b s D N)(ra:bB b.heap s.heap D (.ref a) o)(ri:bB b.heap s.heap D M' i)(rv:bB b.heap s.heap D v u)(e:uS N a M' v=f T')(K:se H w b s D N T' (Q ())):b_ (c_ H w) A (setItem o i u) Q E s:=by
 revert e;refine vT (λZ ex e=>?_) (λbJ ex e=>?_)
 .revert e;refine TH (λj br=>?_);subst br;refine aZ (λhj e=>?_) nS;obtain⟨l,M,eE,hm,⟨n,t⟩,q⟩:=I.cT (mL ex) ra;clear ra;subst eE;obtain⟨t',iA⟩:=ri.int_inv;clear ri;subst iA;refine yX t (k:=w_ j) (Qm j) ?_ ?_ λh' hp hs=>?_
  .have Y:=hj.1;have L:=hj.2;dsimp only[lim]at L;show(j:G)<_;lia
  .refine J dX (J q.length ?_);exact UD.mpr hj.1
  .have vs:=I.upd (t:=s.toks) hm ex hs (PlainList.cls hp) e λht=>⟨M.set j u,by simpa using hp,(q.set j rv).mono ht eS⟩;exact K _ _ vs.1 vs.2
 .revert e;refine uV (λk br=>?_);subst br;refine fx (λks ek=>aZ (λhz e=>?_) nS);refine bA (I.kG (mL ex) ra) λd Z aL hm t q=>?_;clear ra;subst aL;rw[ic ek]at ri;refine ah (g7 (w:=w) ri) λc bK hk=>?_;clear ri;subst bK;have hn:(Z.map (·.1)).Nodup:=zK t λO O O O O O O O h=>h;refine wpAny_setItem_heap (mN hA) hk t (λh' hd hs=>?_) (by exact J q.length (aR hz eJ));have vs:=I.upd (t:=s.toks+(tk H w).draws ks) hm ex hs (DictOfH.cls hd) e λht=>⟨_,hd,(q.store hn ks c rv).mono ht eS⟩;exact K _ _ vs.1 vs.2
theorem JU{l:a_}{v:AV}{o u:aY}{Q:cM}(I:Inv H w b s D N)(ra:bB b.heap s.heap D (.ref l) o)(rv:bB b.heap s.heap D v u)(e:wZ N l v=f T')(K:se H w b s D N T' (Q .none)) :
  b_ (c_ H w) A (call (.builtin "list.append") [o,u]) Q E s:=by
 refine ia λGq zq=>?_;revert e;refine lS (λZ ex=>aZ (λhz e=>?_) nS);obtain⟨a,M,j5,hm,⟨n,t⟩,q⟩:=I.cT (mL ex) ra;clear ra;subst j5;refine zq ?_;clear zq;refine CP UA ⟨_,t,X⟩ F.entry_list_append (F.args_list_append_2 _ _) (list_append a M.toArray n u (by(refine J dX (J q.length ?_));exact aR hz eJ)) ⟨t,?_⟩;have hp:(s.heap.update a (x_ λx=>x.push u)).PlainList a (M++[u]).toArray:=⟨_,by refine J (AJ _ t X) ?_;simp[x_];rfl⟩;have vs:=I.upd (t:=s.toks) hm ex (qU ..) (PlainList.cls hp) e λht=>⟨_,hp,(q.append (aG.cons rv aG.nil)).mono ht eS⟩;exact K _ _ vs.1 vs.2
theorem JV{l:a_}{v:AV}{o u:aY}{Q:cM}(I:Inv H w b s D N)(ra:bB b.heap s.heap D (.ref l) o)(rv:bB b.heap s.heap D v u)(e:w0 N l v=f T')(K:se H w b s D N T' (Q .none)) :
  b_ (c_ H w) A (call (.builtin "list.extend") [o,u]) Q E s:=by
 refine ia λGq zq=>?_;revert e;refine lS (λZ ex=>Y9 (λm br=>?_));subst br;refine lS (λys ey=>aZ (λhz e=>?_) nS);obtain⟨h0,Y,L⟩:=hz;obtain⟨a,M,mj,hm,⟨n,t⟩,q⟩:=I.cT (mL ex) ra;clear ra;subst mj;obtain⟨c,us,oN,X7,⟨n2,t2⟩,q2⟩:=I.cT ey rv;clear rv;subst oN;have JW:M.toArray.size=Z.length:=dX.trans q.length;have hs2:us.toArray.size=ys.length:=dX.trans q2.length;have hl:=eJ;have mO:=wy;refine zq ?_;clear zq;refine CP F.slot_list_extend ⟨_,t,X⟩ F.entry_list_extend (F.args_list_extend_2 _ _) (AutoSeq1.list_extend_list_list_0 a M.toArray n c us.toArray n2 ?_ ?_ ?_) ⟨t,t2,?_⟩
 .refine J JW (J hs2 ?_);simp[Builtin.List.listTooLong,d?];unfold lim at *;lia
 .exact J JW (aR ‹_› ‹_›)
 .refine J JW (J hs2 ?_);unfold lim at *;lia
 .have hp:(s.heap.update a (x_ λx=>x++us.toArray)).PlainList a (M++us).toArray:=⟨_,by refine J (AJ _ t X) ?_;simp[x_];rfl⟩;have vs:=I.upd (t:=s.toks) hm ex (qU ..) (PlainList.cls hp) e λht=>⟨_,hp,(q.append q2).mono ht eS⟩;exact K _ _ vs.1 vs.2
theorem Nf{two:e_}{d:a_}{k:AV}{o u:aY}{more:dG}{Q:cM}(hA:Fy A)(I:Inv H w b s D N)(ra:bB b.heap s.heap D (.ref d) o)(rk:bB b.heap s.heap D k u)(TR:if two then more=[.none] else more=[])(e:zS two N d k=f T')(K:∀ v,se H w b s D N T' (Q v)):b_ (c_ H w) A (call (.builtin "dict.pop") (o::u::more)) Q E s:=by
 refine ia λGq zq=>?_;revert e;refine Ib (λbJ ex=>uV (λk br=>?_));subst br;refine fx (λks ek=>aZ (λhz=>?_) nS);refine cx (λU' e=>?_);refine bA (I.kG (mL ex) ra) λa Z aL hm t q=>?_;clear ra;subst aL;rw[ic ek]at rk;refine ah (g7 (w:=w) rk) λc bK hk=>?_;clear rk;subst bK;refine zq ?_;clear zq;have hn:(Z.map (·.1)).Nodup:=zK t λO O O O O O O O h=>h
 have Ng:(b? Z ks).isSome=(jR bJ ks).isSome:=by
  rcases vW q ks with ⟨Y,L⟩|⟨x,p,Y,L,_⟩
  ·(refine J Y (J L ?_));rfl
  ·(refine J Y (J L ?_));rfl
 refine Dl (mN hA) (I.fresh a (dU hm)).2 hk t (by exact J q.length (aR hz eJ)) ?_ (λv h' tk' hd hs=>?_) λv tk' LK=>?_
 .cases two with|true=>exact .inr ⟨_,TR⟩|false=>exact .inl ⟨TR,by refine J Ng ?_;simpa using U'⟩
 .have vs:=I.upd (t:=tk') hm ex hs (DictOfH.cls hd) e λht=>⟨_,hd,(q.del ks).mono ht eS⟩;exact K v _ _ vs.1 vs.2
 .have hd0:jR bJ ks=V:=by rw[LK]at Ng;exact Tf.mp (by simpa using Ng.symm)
  rw[JO hd0]at e;have hs0:r_ a s.heap s.heap:=Heap.SameBut.refl _ _;have vs:=I.upd (t:=tk') hm ex hs0 (DictOfH.cls t) e λht=>⟨_,t,q⟩;exact K v _ _ vs.1 vs.2
end
end Mine.Internal
end
section
open PySem PyProof.Rows PySem.SeqAt
set_option maxRecDepth 100000
namespace Mine.Internal
def w4:al->e_|[]=>N'|x::r=>match x with|.tup (p::O)=>(match r with|[]=>R|.tup (q::O)::O'=>(match fk 3 q p,kW N' 3 q p with|f N',f R=>R|_,_=>N')&&w4 r|_=>N')|_=>N'
noncomputable def sq:al->e_|[]=>R|x::r=>match x with|.tup (.tup O::O')=>sq r|_=>N'
def Iu(s:St)(l:a_):af St:=match s.getM l with|f (.list Z)=>(if 2<=Z.length/\Z.length<64 then match w4 Z&&sq Z with|R=>s.set l (.list Z.reverse)|N'=>V else .none)|_=>V
section
variable{w:dc}{A:da}{E:cM}{s:aJ}
theorem vF{st:SortSt}{n:a_}(L:2<=n)(lt:∀ i,i+1<n->∀ Q:af e_->SortSt->Prop,Q (f R) st->wpS (c_ H w) A E s (ltAt' (i+1) i) Q st){Q:af a_->SortSt->Prop}(h:Q (f n) (setArr st (mirror (B_ st) 0 n ((n-0)/2)))):wpS (c_ H w) A E s (countRun' 0 n) Q st:=by
 refine J (countRun0_eq _) (iG ?_)
 .unfold ascLoop;refine CZ (I:=λx c oS=>x=1/\c=(V,1)/\oS=st) ?_ ?_ ⟨X,X,X⟩
  .rintro i c oS hi P9 ⟨rfl,rfl,rfl⟩;refine iG (lt 0 (by omega) _ ?_);dsimp only[if_true];simp -iota only [gv];refine qE ?_;show wpS _ _ _ _ _ Q oS;dsimp only;refine J (ak (by simp;lia)) (J (ak (by decide)) ?_);unfold descPart;refine iG (wpS_lift (qC ⟨X,?_⟩));refine iG ?_;unfold descLoop;refine CZ (I:=λx c tI=>c=(V,x,0)/\tI=oS) ?_ ?_ ⟨X,X⟩
   .rintro i c tI hi P9 ⟨rfl,rfl⟩;obtain⟨j,rfl⟩:∃ j,i=j+1:=⟨i-1,by lia⟩;refine iG (lt j (by omega) _ ?_);simp only[gv];exact J (ak (by decide)) (qE ⟨X,X⟩)
   .rintro c tI ⟨rfl,rfl⟩;dsimp only;refine J (ak (by decide)) (J (show max (1+1) n=n by lia) ?_);unfold tail3;refine iG (wpS_reverse (iG ?_));unfold ascLoop;refine CZ (I:=λx c st3=>c=(V,n)/\st3=setArr tI (mirror (B_ tI) 0 n ((n-0)/2))) ?_ ?_ ⟨X,X⟩
    .intro i c st3 Y L;grind
    .rintro c st3 ⟨rfl,rfl⟩;exact qE h
  .rintro c oS ⟨hx,_,_⟩;omega
theorem w5{st:SortSt}(L:2<=(B_ st).size)(h64:(B_ st).size<64)(hp:pendingOf st=#[])(lt:∀ i,i+1<(B_ st).size->∀ Q:af e_->SortSt->Prop,Q (f R) st->wpS (c_ H w) A E s (ltAt' (i+1) i) Q st){Q:j?->SortSt->Prop}(h:∀ oS,B_ oS=mirror (B_ st) 0 (B_ st).size (((B_ st).size-0)/2)->failedOf oS=failedOf st->Q () oS):wpS (c_ H w) A E s sortRuns' Q st:=by
 refine J sortRuns'_eq (iG (wpS_get ?_));dsimp only
 have hmr:minRun' (B_ st).size (B_ st).size 0=(B_ st).size:=by
  obtain⟨K',hf⟩:∃ K',(B_ st).size=K'+1:=⟨(B_ st).size-1,by lia⟩
  have:minRun' (K'+1) (B_ st).size 0=(B_ st).size:=J (minRun'_succ _ _ _) (J (ai h64) X)
  rwa [<-hf]at this
 refine J hmr ?_
 refine iG (wpS_mono (CZ
  (I:=λx c oS=>(x=0/\c=(V,0)/\oS=st)\/(1<=x/\c=(V,(B_ st).size)/\oS=setPending (setArr st (mirror (B_ st) 0 (B_ st).size (((B_ st).size-0)/2))) #[(0,(B_ st).size,0)]))
  (Q:=λc oS=>c=(V,(B_ st).size)/\oS=setPending (setArr st (mirror (B_ st) 0 (B_ st).size (((B_ st).size-0)/2))) #[(0,(B_ st).size,0)]) ?step ?fin (.inl ⟨X,X,X⟩)) ?post)
 case fin=>
  rintro c oS (⟨hx,_,_⟩|⟨_,U',hD⟩)
  .lia
  .exact⟨U',hD⟩
 case step=>
  rintro x c oS _ hx (⟨rfl,rfl,rfl⟩|⟨hx1,rfl,hD⟩)
  .dsimp only;refine J (ak (by lia)) ?_;simp -iota only [Nat.sub_zero,wq];refine iG (vF L lt ?_);dsimp only;refine J (ak (by simp)) (iG (wpS_get ?_));have hb:(pendingOf (setArr oS (mirror (B_ oS) 0 (B_ oS).size (((B_ oS).size-0)/2)))).back?=V:=by exact J hp X
   refine J hb ?_;refine iG (wpS_modify (qE (.inr ⟨by exact rS _ _,X,?_⟩)));exact J hp X
  .exact J (ai (fB _)) (qE ⟨X,hD⟩)
 case post=>
  rintro c oS ⟨rfl,hD⟩;refine iG (wpS_mono (CZ (I:=λO c tI=>tI=oS/\c=(V,())) (Q:=λc tI=>tI=oS/\c=(V,())) ?_ (λO O hh=>hh) ⟨X,X⟩) ?_)
  .rintro x c tI _ _ ⟨rfl,rfl⟩;refine iG (wpS_get ?_);refine J (ai (by rw[hD];exact fB 1)) ?_;exact qE ⟨X,X⟩
  .rintro c tI ⟨rfl,rfl⟩;refine qE (h _ ?_ ?_)
   .exact J hD X
   .exact J hD X
theorem Bk(x y:aY):keyLt' (tuples' N') x y=(do
  let Z <-Y_ x;let ys <-Y_ y
  for ((p,q),i) in (Z.toList.zip ys.toList).zipIdx do
   if !(<-eqBool p q) then return <-oneLt' (N'&&i==0) p q
  return Z.size<ys.size):=rfl
theorem Dt{Q:e_->aJ->Prop}(B:s.heap.IsTuple a (p::Z).toArray)(U':s.heap.IsTuple c (q::ys).toArray)(he:EqAt A s p q N')(hl:jV .Lt A s p q R)(h:Q R s) :
  b_ (c_ H w) A (keyLt' (tuples' N') (.ref a) (.ref c)) Q E s:=by
 refine ia λGq zq=>?_;obtain⟨oa,Y,_,n1,d1⟩:=B;obtain⟨oc,h3,_,n3,d3⟩:=U';refine zq ?_;clear zq;refine J (Bk _ _) (aU (HW Y d1 (aU (HW h3 d3 (aU ?_)))));simp -iota only [List.toList_toArray,uQ,List.zipIdx_cons];refine J (CT _ _ _ _) (aU ?_);refine aU (he _ _ _ _ ?_);simp -iota only [Ux,gv];refine aU (J (oneLt'_eq _ _ _) ?_);simp -iota only [tT6,LI,kS];exact aU (hl _ _ _ _ (qD (cy (cy (cy h)))))
theorem Bl{st:SortSt}{i j:a_}{x y p q:aY}{Q:af e_->SortSt->Prop}(hk:kindOf st=tuples' N')(hi:(B_ st)[i]?=f (x,p))(hj:(B_ st)[j]?=f (y,q))(hl:∀ Q:e_->aJ->Prop,∀ E,Q R s->b_ (c_ H w) A (keyLt' (tuples' N') x y) Q E s) (h:Q (f R) st):wpS (c_ H w) A E s (ltAt' i j) Q st:=by
 refine J (ltAt'_eq _ _) (iG (wpS_get ?_));show wpS _ _ _ _ (do let x <-elem' (B_ st) i;let y <-elem' (B_ st) j;lt' x y) Q st;simp only[elem'_eq,elem'_eq,hi,hj];refine iG (qE (iG (qE (J (lt'_eq _ _) (iG (wpS_get (J hk (iG (wpS_lift (CX (hl _ _ ⟨X,?_⟩)))))))))));exact qE h
def FL(h:cE)(v:aY):Prop:=∃ a p Z,v=.ref a/\h.IsTuple a (p::Z).toArray/\∃ c B',p=.ref c/\h.IsTuple c B'
theorem JX:∀(M:dG) {Q:d_ (af aY)->aJ->Prop},(∀ v∈M,FL s.heap v)->(∀ fs:d_ (af aY),fs.length=M.length->(∀ K'∈fs,∃ c B',K'=f (.ref c)/\s.heap.IsTuple c B')->Q fs s) ->
  b_ (c_ H w) A (M.mapM firstOfTuple') Q E s:=by
 intro w';induction w' with|nil=>intro Q O h;simp only[List.mapM_nil];exact cy (h [] X λO m=>nomatch m)|cons v M ih=>
  intro Q hv h;refine J List.mapM_cons ?_;obtain⟨a,p,Z,eE,ht,c,B',iA,U'⟩:=hv v aQ;subst eE;subst iA;refine aU ?_
  show b_ _ _ (do
   if (<-typeOf (F_ a)) != .type "tuple" then return V
   return (<-Y_ (F_ a))[0]?) _ _ s
  refine aU (H3 ht.typeIs (J (ak (by decide)) ?_));obtain⟨o,ho,_,n,hd⟩:=ht;refine aU (HW ho hd (cy (aU (ih (λu hu=>hv u (bg _ hu)) λfs hl hf=>cy (h _ (by simp[hl]) λK' hm=>?_)))));rcases aT.mp hm with j5|hm
  .clear hm;subst j5;exact uU c B' (by rfl) U'
  .exact hf K' hm
theorem Nh:∀(M:dG) {Q:dG->aJ->Prop},(∀ v∈M,∃ c B',v=.ref c/\s.heap.IsTuple c B')->(∀ fs:dG,fs.length=M.length->(∀ K'∈fs,K'=.type "tuple")->Q fs s) ->
  b_ (c_ H w) A (M.mapM typeOf) Q E s:=by
 intro w';induction w' with|nil=>intro Q O h;simp only[List.mapM_nil];exact cy (h [] X λO m=>nomatch m)|cons v M ih=>
  intro Q hv h;refine J List.mapM_cons ?_;refine eD (hv v aQ) λc B' fJ U'=>?_;subst fJ;refine aU (H3 U'.typeIs (aU (ih (λu hu=>hv u (bg _ hu)) λfs hl hf=>cy (h _ (by simp[hl]) λK' hm=>?_))));rcases aT.mp hm with mj|hm
  .clear hm;subst mj;rfl
  .exact hf K' hm
theorem FN{M:dG}{Q:SortKind->aJ->Prop}(d9:0<M.length)(hv:∀ v∈M,FL s.heap v)(h:Q (tuples' N') s):b_ (c_ H w) A (keyKind' M.toArray) Q E s:=by
 refine J (keyKind'_eq _) (J List.mapM_toArray (aU (J (map_eq_pure_bind _ _) (aU (JX M hv λfs hl hf=>cy ?_)))));have acX:(fs.toArray.all (·.isSome))=R:=by refine J List.all_toArray (J (propext mG) ?_);intro K' hm;refine eD (hf K' hm) λc B' aL O=>?_;clear hm;subst aL;rfl
 refine J (ai acX) (aU (qC (aU ?_)));have hfm:∀ v∈fs.filterMap id,∃ c B',v=.ref c/\s.heap.IsTuple c B':=λv hm=>by refine ah (US.mp hm) λK' Y L=>?_;refine eD (hf K' Y) λc B' fJ h3=>?_;clear Y;subst fJ;simp at L;exact uU c B' L.symm h3
 have e1:fs.toArray.filterMap id=(fs.filterMap id).toArray:=by simp
 refine J e1 (J (oneTypeOnly'_eq _) (J List.mapM_toArray (aU (J (map_eq_pure_bind _ _) (aU (Nh _ hfm λts JY ht=>cy ?_))))));cases ts with|nil=>exact cy (cy (by simpa using h))|cons t ts=>
  have e0:t=.type "tuple":=ht t aQ;clear JY;subst e0;have e9:(w? "tuple"::ts).toArray[0]?=f (w? "tuple"):=X;refine J e9 ?_;dsimp only
  rw[ai (by
   rw[List.all_toArray,mG];intro K' hm;rw[ht K' hm]
   decide)]
  refine cy (cy ?_)
  have:(Option.any (λx=>x != w? "tuple") (f (w? "tuple")))=N':=by decide
  exact J this h
theorem Ni{α:Type}:∀ M:d_ α,M.zip M=M.map λv=>(v,v):=λw'=>by induction w' with|nil=>exact X|cons v M ih=>exact J uQ (J ih X)
theorem JZ{P:Fin->aJ->Prop}(ho:s.heap.get? a=f (i? "list" M.toArray n))(L:2<=M.length)(h64:M.length<64)(hT:∀ h':cE,(∀ c B',s.heap.IsTuple c B'->h'.IsTuple c B')->(∀ v∈M,FL h' v)/\∀ i x y,M[i]?=f x->M[i+1]?=f y->∀(Q:e_->aJ->Prop) (E:cM),Q R {s with heap:=h'}->b_ (c_ H w) A (keyLt' (tuples' N') y x) Q E {s with heap:=h'})(h:P (.done (.ret .none)) {s with heap:=sortedHeap s.heap a M M.reverse.toArray}):b_ (c_ H w) A (Builtin.«list.sort» ⟨[.ref a],[]⟩) P E s:=by
 refine J (list_sort_plain _) ?_;have B:a<s.heap.objs.size:=mF ho;have mO:=wy;refine aU (listItems_at ho X (aU (listUpdate_at ho X ?_ (by refine J dX ?_;lia))));obtain⟨e1,Zv⟩:∃ e1,(s.heap.update a (x_ λO=>#[])).get? a=f (i? "list" #[] e1):=⟨_,get?_update_seq ho (λO=>#[])⟩;refine aU (seqEpoch_at Zv X (aU (wpAny_newTuple (aU (wpAny_newList (oj ?_))))));have X8:(((s.heap.update a (x_ λO=>#[])).push (i? "tuple" M.toArray 0)).push (i? "list" #[] 0)).get? a=f (i? "list" #[] e1):=by refine J (Jx _ _ _ (by rw[size_push',Qj];exact jg (wm B))) (J (Jx _ _ _ (by rw[Qj];exact jg B)) ?_);exact Zv
 have Du:∀ c B',s.heap.IsTuple c B'->(((s.heap.update a (x_ λO=>#[])).push (i? "tuple" M.toArray 0)).push (i? "list" #[] 0)).IsTuple c B':=λc B' ht=>by
  have d9:c≠a:=λq=>by obtain⟨o,Y,L,_⟩:=ht;rw[q,ho]at Y;injection Y with Y;rw[<-Y]at L;exact g_ (HG L) (by decide)
  refine Heap.IsTuple.push (Heap.IsTuple.push ?_ _) _;obtain⟨o,Y,L⟩:=ht;exact aK o ((Heap.get?_update_ne _ _ _ _ d9).trans Y) L
 refine cC (hT _ Du) λht1 ht2=>?_;show b_ (c_ H w) A _ P E {s with heap:=((s.heap.update a (x_ λO=>#[])).push (i? "tuple" M.toArray 0)).push (i? "list" #[] 0)};dsimp only;have QM:M.toArray.size=M.length:=by rfl
 refine J (ak (by rw[QM];lia)) (J (ak (by rw[QM];omega)) ?_);refine J (by exact J (List.zip_toArray _ _) (J (Ni _) X):M.toArray.zip M.toArray=(M.map λv=>(v,v)).toArray) ?_;have hps:(M.map λv=>(v,v)).toArray.size=M.length:=by simp
 have QY:∀ i:a_,(M.map λv=>(v,v)).toArray[i]?=(M[i]?).map λv=>(v,v):=λi=>by simp
 refine aU (FN (by exact kD ‹_›) ht1 ?_)
 refine aU (om (w5 (st:=SortSt.mk' (tuples' N') (M.map λv=>(v,v)).toArray #[] 7 V)
  (Q:=λO oS=>B_ oS=mirror (M.map λv=>(v,v)).toArray 0 M.length ((M.length-0)/2)/\failedOf oS=V) (by show 2<=(M.map λv=>(v,v)).toArray.size;lia) (by show(M.map λv=>(v,v)).toArray.size<64;lia) X (λi hi Q' yO=>?_) λoS a1 a2=>⟨?_,a2⟩) ?_ λO O e=>e)
 .replace hi:i+1<(M.map λv=>(v,v)).toArray.size:=hi;rw[hps]at hi;have g1:M[i]?=f M[i]:=lJ (by exact kD ‹_›);have g2:M[i+1]?=f M[i+1]:=lJ hi
  exact Bl (x:=M[i+1]) (p:=M[i+1]) (y:=M[i]) (q:=M[i]) X (by exact J (QY _) (J g2 X)) (by exact J (QY _) (J g1 X))
   (λQ2 E2 Zs=>ht2 i _ _ g1 g2 Q2 E2 Zs) yO
 .refine J a1 ?_;exact J hps X
 .rintro⟨⟨⟩,oS⟩ s' ⟨rfl,hp,hf⟩;dsimp only
  have k8:(B_ oS).map (·.2)=M.reverse.toArray:=by
   refine J hp (Array.ext_getElem? λk=>J Array.getElem?_map (J (getElem?_mirror_all (by simp) _) ?_));by_cases hk:k<M.length
   .refine J (ai ⟨jP _,hk⟩) (J (QY _) (J (show 0+M.length-1-k=M.length-1-k by simp) (J YA (J (Jz hk) ?_))));cases M[M.length-1-k]?<;>rfl
   .refine J (ak (by lia)) (J (QY _) (J YA (J (LZ (by lia)) (J (LZ (by rw[uM];omega)) ?_))));rfl
  refine aU (seqEpoch_at X8 X (J k8 (aU (listUpdate_at X8 X ?_ (hsz2:=by(refine J dX (J uM ?_));lia)))));refine J hf ?_;simp only[bne_self_eq_false,LI,kS];exact cy h
end
section
variable{w:dc}{b s:aJ}{D F':cc}{N T':St}{A:da}{E:cM}
theorem Nj:∀(Z:al),w4 Z=R->(∀ x∈Z,∃ p r,x=.tup (p::r))/\∀(i:a_) x y,Z[i]?=f x->Z[i+1]?=f y->∃ p r q t,x=.tup (p::r)/\y=.tup (q::t)/\fk 3 q p=f N'/\kW N' 3 q p=f R:=λw'=>by induction w' with|nil=>intro h;exact fT h|cons x Z ih=>
  intro h;rcases x with _|_|_|_|_|(_|⟨p,r⟩)|_|_<;>first|exact fT h|skip
  dsimp only[w4]at h;revert h;refine Zb (λbr h=>?_) (λq t w6 br h=>?_);clear ih;subst br;rotate_left;subst br;rotate_left
  .refine⟨λx hx=>?_,λi x y Y L=>?_⟩
   .rw[az]at hx;exact uT _ _ hx
   .exact nS L
  .refine H9 h λY L=>cC (ih L) λf1 f2=>⟨λx hx=>?_,λi x y g1 g2=>?_⟩
   .rcases aT.mp hx with oN|hx
    .clear hx;subst oN;exact uT _ _ X
    .exact f1 x hx
   .cases i with|zero=>simp at g1 g2;subst g1 g2;refine gA _ _ _ _ X X ?_;revert Y;exact Za (λe1 e2 Y=>⟨e1,e2⟩)|succ i=>exact f2 i x y (by simpa using g1) (by simpa using g2)
theorem FO:∀(Z:al),sq Z=R->∀ x∈Z,∃ k r,x=.tup (.tup k::r):=λw'=>by induction w' with|nil=>(intro O O hx;exact nomatch hx)|cons x Z ih=>
  intro h y hy;rcases x with _|_|_|_|_|(_|⟨_|_|_|_|_|k|_|_,r⟩)|_|_<;>first|exact fT h|skip
  .rcases aT.mp hy with qv|hy
   .clear hy;subst qv;exact uT _ _ X
   .exact ih h y hy
theorem SameBut.TU(o:Obj)(ho:o.isFreed=N')(x:r_ a h h'):r_ a (h.push o) (h'.push o):=by
 refine⟨by exact J (yB _ _) (J (yB _ _) (J x.1 X)),λc U'=>?_⟩;by_cases e:c=h.objs.size
 .refine J e (J (j4 _ ho) ?_);exact dR x.1 (J (j4 _ ho) X)
 .refine J (Jx _ _ _ e) ?_;(refine J (Jx _ _ _ (by rw[x.1];exact e)) ?_);exact J (x.2 c U') X
theorem QZ{Q:cM}(hA:Fy A)(I:Inv H w b s D N)(ra:bB b.heap s.heap D (.ref l) o)(e:Iu N l=f T')(K:se H w b s D N T' (Q .none)) :
  b_ (c_ H w) A (call (.builtin "list.sort") [o]) Q E s:=by
 refine ia λGq zq=>?_;revert e;refine lS (λZ ex=>aZ (λhz=>?_) nS);refine cx (λhf e=>H9 hf λhf1 hf2=>?_);obtain⟨a,M,vA,hm,⟨n,t⟩,q⟩:=I.cT (mL ex) ra;clear ra;subst vA;have hlen:=q.length;refine cC (Nj Z hf1) λg1 g2=>?_;have g3:=FO Z hf2;refine zq ?_;clear zq
 have hu:A.in1.units+3<zk:=by
  have:=hA.un
  show A.units+1+3<zk;lia
 refine iE F.slot_list_sort ⟨_,t,X⟩ F.entry_list_sort (JZ t (by lia) (by lia) (λh' ht=>?_) ?_) (F.args_list_sort_1 _)
 .have q':aG b.heap h' D Z M:=q.mono ht eS;refine⟨λv hv=>?_,λi x y hx hy Q2 E2 Zs=>?_⟩
  .refine cz (L0 hv) λi hi=>?_;refine ah (q'.get' hi) λz M8 M9=>?_;refine gx (g3 z (dU M8)) λk r fJ=>?_;clear M8;subst fJ;refine aW (M9.bD) λc us aL ht1 ht2=>?_;clear hv hi M9;subst aL;dsimp only[aG]at ht2;obtain⟨p,us',yD,hp,_⟩:=ht2;subst yD;refine aW (hp.bD) λd ws aL hd O=>?_;clear hp;subst aL;exact⟨c,_,us',X,ht1,d,_,X,hd⟩
  .refine ia λGq zq=>ah (q'.get' hx) λz1 M8 rz1=>ah (q'.get' hy) λz2 M9 rz2=>?_;refine wC (g2 i z1 z2 M8 M9) λp r p2 r2 aL J0 e1 e2=>?_;clear M8;subst aL;clear M9;subst J0;refine aW (rz1.bD) λc1 us1 aL t1 u1=>?_;clear hx rz1;subst aL;refine aW (rz2.bD) λc2 us2 aL t2 u2=>?_;clear hy rz2;subst aL;dsimp only[aG]at u1 u2;obtain⟨v1,agq,Dc,rv1,_⟩:=u1;subst Dc;obtain⟨v2,agr,wI,rv2,_⟩:=u2;subst wI;refine zq ?_;clear zq;exact Dt (s:={s with heap:=h'}) t2 t1 (si (s:={s with heap:=h'}) 3 p2 p N' v2 v1 e1 rv2 rv1 hu) (FA (s:={s with heap:=h'}) N' X 3 p2 p R v2 v1 e2 rv2 rv1 hu) Zs
 .refine aK .none X ?_;have hk:∀ c ob,s.heap.get? c=f ob->((s.heap.push (i? "tuple" M.toArray 0)).push (i? "list" #[] 0)).get? c=f ob:=λc ob e=>kC _ (kC _ e);have M1:=I.more (t:=s.toks) hk (I.gZ hk)
  have hs:r_ a ((s.heap.push (i? "tuple" M.toArray 0)).push (i? "list" #[] 0)) (sortedHeap s.heap a M M.reverse.toArray):=
   Heap.SameBut.trans (SameBut.TU _ X (SameBut.TU _ X (qU ..))) (qU ..)
  have B:a<s.heap.objs.size:=mF t;have X8:∃ e1,(((s.heap.update a (x_ λO=>#[])).push (i? "tuple" M.toArray 0)).push (i? "list" #[] 0)).get? a=f (i? "list" #[] e1):=by refine⟨if (#[]:T_ aY).size==M.toArray.size then n else n+1,?_⟩;refine J (Jx _ _ _ (by rw[size_push',Qj];exact jg (wm B))) (J (Jx _ _ _ (by rw[Qj];exact jg B)) ?_);exact get?_update_seq t (λO=>#[])
  obtain⟨e1,X8⟩:=X8;have hp:(sortedHeap s.heap a M M.reverse.toArray).PlainList a M.reverse.toArray:=⟨_,get?_update_seq X8 λO=>M.reverse.toArray⟩;have M2:=M1.1.upd (t:=s.toks) hm ex hs (PlainList.cls hp) e λht=>⟨_,hp,(I.Fx M1.2 aX.nil q.reverse).mono ht eS⟩;exact K _ _ M2.1 (M1.2.trans M2.2)
end
end Mine.Internal
end
section
open PySem PyProof.Rows
namespace Mine.Internal
noncomputable def q7 (K':St->AV->af (St × al)):al->St->af (St × al)|[],s=>f (s,[])|x::Z,s=>match K' s x with|f (s1,ys)=>(match q7 K' Z s1 with|f (s2,zs)=>f (s2,ys++zs)|V=>V)|V=>V
def Bm(K':St->AV->af (St × aA × AV)):al->St->c9->af (St × c9)|[],s,G'=>f (s,G')|x::Z,s,G'=>match K' s x with|f (s1,k,v)=>Bm K' Z s1 (iI G' k v)|V=>V
noncomputable def lT (K':AV->St->al->af (St × al × Fl)):al->St->al->af (St × al × Fl)|[],s,C=>f (s,C,.next)|x::Z,s,C=>match K' x s C with|f (s1,k9,.ret v)=>f (s1,k9,.ret v)|f (s1,k9,O)=>lT K' Z s1 k9|V=>V
noncomputable def eX (t:St->al->jn) (K':St->al->af (St × al × Fl)):a_->St->al->af (St × al × Fl)|0,O,O'=>V|n+1,s,C=>match t s C with|f (s1,.bool R)=>(match K' s1 C with|f (s2,eF,.ret v)=>f (s2,eF,.ret v)|f (s2,eF,O)=>eX t K' n s2 eF|V=>V)|f (s1,.bool N')=>f (s1,C,.next)|_=>V
def j6{α:Type}(s:St)(lk:af a_)(K':St->af (St × α)):af (St × α):=
 match lR s lk with|f s1=>(match K' s1 with|f (s2,a)=>(match iK s2 (rZ s lk) lk with|f s3=>f (s3,a)|V=>V)|V=>V)|V=>V
def Nk(r:af (St × c9)):jn:=match r with|f (s1,bJ)=>if bJ.length<=lim then jj s1 (.dict bJ) else .none|V=>V
def Nl(r:af (St × al)):jn:=match r with|f (s1,Z)=>jj s1 (.list Z)|V=>V
noncomputable abbrev Zw:=St->al->jn
def lU(r:jn)(ik:tA)(K':St->AV->af (St × al)):jn:=match r with|f (s1,v)=>(match jc s1 ik v with|f (Z,lk)=>Nl (match j6 s1 lk (q7 K' Z) with|f (s9,ys)=>if ys.length<=lim then f (s9,ys) else .none|V=>V)|V=>V)|V=>V
def one(g:Zw)(C':cf)(C:al)(s:St)(x:AV):af (St × al):=match dr C' x C with|f eF=>(match g s eF with|f (s4,y)=>f (s4,[y])|V=>V)|V=>V
def zT(c g:Zw)(C':cf)(C:al)(s:St)(x:AV):af (St × al):=match dr C' x C with|f eF=>(match c s eF with|f (s3,.bool R)=>(match g s3 eF with|f (s4,y)=>f (s4,[y])|V=>V)|f (s3,.bool N')=>f (s3,[])|_=>V)|V=>V
def dS:cf->al->al|[],C=>C|i::is,C=>aE (dS is C) i .ub
def two(qF:Zw)(tB:tA)(g:Zw)(C' tgt2:cf)(C:al)(s:St)(x:AV):af (St × al):=match dr C' x (dS tgt2 C) with|f eF=>(match qF s eF with|f (s3,v2)=>(match jc s3 tB v2 with|f (Qa,Q0)=>j6 s3 Q0 (q7 (one g tgt2 eF) Qa)|V=>V)|V=>V)|V=>V
def Dv(r:jn)(ik:tA)(K':St->AV->af (St × aA × AV)):jn:=match r with|f (s1,v)=>(match jc s1 ik v with|f (Z,lk)=>if Z.length<=lim then Nk (j6 s1 lk (λs0=>Bm K' Z s0 [])) else .none|V=>V)|V=>V
def Q4(k g:Zw)(C':cf)(C:al)(s:St)(x:AV):af (St × aA × AV):=match dr C' x C with|f eF=>(match k s eF with|f (s3,.tup kt)=>(match g s3 eF with|f (s4,y)=>(match keyOf kt with|f ks=>f (s4,ks,y)|V=>V)|V=>V)|_=>V)|V=>V
def ev:CE->St->al->jn|.k v,s,O=>f (s,v)|.glob O v,s,O'=>f (s,v)|.var i,s,C=>(match ao C i with|.ub=>V|v=>f (s,v))|.bin o a b,s,C=>(match ev a s C with|f (s1,x)=>(match ev b s1 C with|f (s2,y)=>ot s2 o x y|V=>V)|V=>V)|.neg a,s,C=>(match ev a s C with|f (s1,.int i)=>f (s1,.int (-i))|_=>V)|.cmp o a b,s,C=>(match ev a s C with|f (s1,x)=>(match ev b s1 C with|f (s2,y)=>(match fw s2 o x y with|f r=>f (s2,.bool r)|V=>V)|V=>V)|V=>V)|.isNone y a,s,C=>(match ev a s C with|f (s1,x)=>f (s1,.bool (x.isNone==y))|V=>V)|.isin y a b,s,C=>(match ev a s C with|f (s1,x)=>(match ev b s1 C with|f (s2,c)=>(match Ft s2 x c with|f r=>f (s2,.bool (r==y))|V=>V)|V=>V)|V=>V)|.and a b,s,C=>(match ev a s C with|f (s1,.bool R)=>ev b s1 C|f (s1,.bool N')=>f (s1,.bool N')|_=>V)|.or a b,s,C=>(match ev a s C with|f (s1,.bool N')=>ev b s1 C|f (s1,.bool R)=>f (s1,.bool R)|_=>V)|.not a,s,C=>(match ev a s C with|f (s1,.bool b)=>f (s1,.bool (!b))|_=>V)|.ite t a b,s,C=>(match ev t s C with|f (s1,.bool R)=>ev a s1 C|f (s1,.bool N')=>ev b s1 C|_=>V)|.call O F O' as,s,C=>(match ev as s C with|f (s1,.tup Z)=>F s1 Z|_=>V)|.bi b as,s,C=>(match ev as s C with|f (s1,.tup Z)=>jd s1 b Z|_=>V)|.idx a i,s,C=>(match ev a s C with|f (s1,x)=>(match ev i s1 C with|f (s2,y)=>(match ib s2 x y with|f z=>f (s2,z)|V=>V)|V=>V)|V=>V)|.gJ a k,s,C=>(match ev a s C with|f (s1,x)=>(match ev k s1 C with|f (s2,y)=>tC s2 x y|V=>V)|V=>V)|.fq a k,s,C=>(match ev a s C with|f (s1,x)=>(match ev k s1 C with|f (s2,y)=>oJ s2 x y|V=>V)|V=>V)|.bc as,s,C=>(match ev as s C with|f (s1,.tup Z)=>f (s1,.tup Z)|_=>V)|.lst as,s,C=>(match ev as s C with|f (s1,.tup Z)=>jj s1 (.list Z)|_=>V)|.gz,s,O=>jj s (.dict [])|.kX k v,s,C=>(match ev k s C with|f (s1,.tup kt)=>(match ev v s1 C with|f (s2,y)=>(match keyOf kt with|f ks=>jj s2 (.dict [(ks,y)])|V=>V)|V=>V)|_=>V)|.bq e C' ik it,s,C=>lU (ev it s C) ik (one (ev e) C' C)|.bR e C' ik it c,s,C=>lU (ev it s C) ik (zT (ev c) (ev e) C' C)|.dH e C' ik it tgt2 tB qF,s,C=>lU (ev it s C) ik (two (ev qF) tB (ev e) C' tgt2 C)|.jT k e C' ik it,s,C=>Dv (ev it s C) ik (Q4 (ev k) (ev e) C' C)|.bad,O,O'=>V|.nil,s,O=>f (s,.tup [])|.cons e r,s,C=>match ev e s C with|f (s1,x)=>(match ev r s1 C with|f (s2,.tup Z)=>f (s2,.tup (x::Z))|_=>V)|V=>V
noncomputable def iR (r:af St) (C:al):af (St × al × Fl):=match r with|f s=>f (s,C,.next)|V=>V
def J1(r:jn)(ik:tA)(K':AV->St->al->af (St × al × Fl))(C:al):af (St × al × Fl):=match r with|f (s1,v)=>(match jc s1 ik v with|f (Z,lk)=>j6 s1 lk (λs2=>lT K' Z s2 C)|V=>V)|V=>V
def ox(g:St->al->af (St × al × Fl))(C':cf)(x:AV)(s:St)(C:al):af (St × al × Fl):=match dr C' x C with|f Q6=>g s Q6|V=>V
def Qb(s:St)(a:a_):e_:=match s.get a with|f (.list O)=>R|_=>N'
def Qc(s:St)(a:a_):e_:=match s.get a with|f (.dict O)=>R|_=>N'
def ex:CS->St->al->af (St × al × Fl)|.assign i e,s,C=>(match ev e s C with|f (s1,v)=>f (s1,aE C i v,.next)|V=>V)|.bj is e,s,C=>(match ev e s C with|f (s1,.tup Z)=>(match bindL is Z C with|f k9=>f (s1,k9,.next)|V=>V)|_=>V)|.dd o i e,s,C=>(match ev e s C with|f (s1,v)=>(match ev (.var o) s1 C with|f (s2,.ref a)=>(match ev i s2 C with|f (s3,M')=>iR (uS s3 a M' v) C|V=>V)|_=>V)|V=>V)|.aug k i e,s,C=>(match ao C i with|.int x=>(match ev e s C with|f (s1,.int y)=>(match cU k x y with|f z=>f (s1,aE C i (.int z),.next)|V=>V)|_=>V)|_=>V)|.iJ k o i e,s,C=>(match ev (.var o) s C with|f (s1,.ref a)=>(match ev i s1 C with|f (s2,M')=>(match ib s2 (.ref a) M' with|f (.int x)=>(match ev e s2 C with|f (s3,.int y)=>(match cU k x y with|f z=>iR (uS s3 a M' (.int z)) C|V=>V)|_=>V)|_=>V)|V=>V)|_=>V)|.ret e,s,C=>(match ev e s C with|f (s1,v)=>f (s1,C,.ret v)|V=>V)|.iff t a b,s,C=>(match ev t s C with|f (s1,.bool R)=>ex a s1 C|f (s1,.bool N')=>ex b s1 C|_=>V)|.kF t b,s,C=>eX (ev t) (ex b) 100000 s C|.gE C' ik it b,s,C=>J1 (ev it s C) ik (ox (ex b) C') C|.cont,s,C=>f (s,C,.cont)|.qt d k,s,C=>(match ev (.var d) s C with|f (s1,.ref a)=>(if Qc s1 a then match ev k s1 C with|f (s2,kv)=>iR (zS R s2 a kv) C|V=>V else .none)|_=>V)|.qu d k,s,C=>(match ev (.var d) s C with|f (s1,.ref a)=>(if Qc s1 a then match ev k s1 C with|f (s2,kv)=>iR (zS N' s2 a kv) C|V=>V else .none)|_=>V)|.append l e,s,C=>(match ev (.var l) s C with|f (s1,.ref a)=>(if Qb s1 a then match ev e s1 C with|f (s2,v)=>iR (wZ s2 a v) C|V=>V else .none)|_=>V)|.extend l e,s,C=>(match ev (.var l) s C with|f (s1,.ref a)=>(if Qb s1 a then match ev e s1 C with|f (s2,v)=>iR (w0 s2 a v) C|V=>V else .none)|_=>V)|.sort l,s,C=>(match ev (.var l) s C with|f (s1,.ref a)=>if Qb s1 a then iR (Iu s1 a) C else .none|_=>V)|.expr e,s,C=>(match ev e s C with|f (s1,O)=>f (s1,C,.next)|V=>V)|.raise,O,O'=>V|.skip,s,C=>f (s,C,.next)|.seq a b,s,C=>match ex a s C with|f (s1,k9,.next)=>ex b s1 k9|r=>r
noncomputable def q8:a_->al|0=>[]|n+1=>.ub::q8 n
def bt(np more:a_)(body:CS):Fn:=λs as=>if as.length=np then match ex body s (as++q8 more) with|f (s1,O,.ret v)=>f (s1,v)|f (s1,O,.next)=>f (s1,.none)|_=>V else .none
theorem Nm:ev (.ite t a b) s C=(match ev t s C with|f (s1,.bool R)=>ev a s1 C|f (s1,.bool N')=>ev b s1 C|_=>V):=rfl
theorem J2:ev (.call K' F P as) s C=(match ev as s C with|f (s1,.tup Z)=>F s1 Z|_=>V):=rfl
theorem mP:ev (.bin o a b) s C=(match ev a s C with|f (s1,x)=>(match ev b s1 C with|f (s2,y)=>ot s2 o x y|V=>V)|V=>V):=rfl
theorem Nn:ev (.cmp o a b) s C=(match ev a s C with|f (s1,x)=>(match ev b s1 C with|f (s2,y)=>(match fw s2 o x y with|f r=>f (s2,.bool r)|V=>V)|V=>V)|V=>V):=rfl
theorem Iv:ev (.bi b as) s C=(match ev as s C with|f (s1,.tup Z)=>jd s1 b Z|_=>V):=rfl
theorem xa:ev (.idx a i) s C=(match ev a s C with|f (s1,x)=>(match ev i s1 C with|f (s2,y)=>(match ib s2 x y with|f z=>f (s2,z)|V=>V)|V=>V)|V=>V):=rfl
theorem J3:ev (.bc as) s C=(match ev as s C with|f (s1,.tup Z)=>f (s1,.tup Z)|_=>V):=rfl
theorem Np:ev (.lst as) s C=(match ev as s C with|f (s1,.tup Z)=>jj s1 (.list Z)|_=>V):=rfl
theorem FP:ev (.bq e C' ik it) s C=(lU (ev it s C) ik (one (ev e) C' C)):=rfl
theorem pX:ev (.cons e r) s C=(match ev e s C with|f (s1,x)=>(match ev r s1 C with|f (s2,.tup Z)=>f (s2,.tup (x::Z))|_=>V)|V=>V):=rfl
theorem Dw:ex (.assign i e) s C=(match ev e s C with|f (s1,v)=>f (s1,aE C i v,.next)|V=>V):=rfl
theorem Dx:ex (.ret e) s C=(match ev e s C with|f (s1,v)=>f (s1,C,.ret v)|V=>V):=rfl
theorem J4:ex .skip s C=(f (s,C,.next)):=rfl
theorem sr:ex (.seq a b) s C=(match ex a s C with|f (s1,k9,.next)=>ex b s1 k9|r=>r):=rfl
noncomputable def AV.Dy:AV->e_|.ub=>R|_=>N'
theorem dh:∀(C:al) (i j:a_) (v:AV),ao (aE C i v) j=if i=j then(if i<C.length then v else .ub) else ao C j:=λw'=>by induction w' with|nil=>intro i j v;dsimp only[aE,ao];simp|cons x C ih=>intro z1;cases z1 with|zero=>(intro z2;cases z2 with|zero=>intro v;rfl|succ j=>intro v;rfl)|succ i=>intro z2;cases z2 with|zero=>intro v;rfl|succ j=>intro v;dsimp only[aE,ao];simp[ih i j v]
structure ER(b:aJ)(u':r?)(sc:d_ (o_ × a_))(C:al)(s:aJ)(D:cc):Prop where
 kind:u'.scope.kind=.function
 glob:u'.globals=A_
 bi:u'.builtins=M_
 ns:∃ m,s.heap.Ns u'.locals m/\∀ x i,(x,i)∈sc->u'.kindOf x=f .local->(ao C i).Dy=N'->∃ u,m x=f u/\bB b.heap s.heap D (ao C i) u
 cells:∀ x c,u'.cells.lookup x=f c->∃ u,s.heap.IsCell c u/\∀ i,(x,i)∈sc->u'.kindOf x=f .cell->(ao C i).Dy=N'->∃ w,u=f w/\bB b.heap s.heap D (ao C i) w
 kinds:∀ x i,(x,i)∈sc->u'.kindOf x=f .local\/(u'.kindOf x=f .cell/\∃ c,u'.cells.lookup x=f c)
 nG:u'.locals∉D/\b.heap.get? u'.locals=V
 rf:∀ x c,u'.cells.lookup x=f c->c∉D/\b.heap.get? c=V/\c≠u'.locals
 apart:∀ x y c,u'.cells.lookup x=f c->u'.cells.lookup y=f c->x=y
 slots:∀ x y i,(x,i)∈sc->(y,i)∈sc->x=y
 names:∀ x i j,(x,i)∈sc->(x,j)∈sc->i=j
 debug:∀ x i,(x,i)∈sc->(x==("__debug__":o_))=N'
theorem dB.weaken(S:dB F' s s' D b9 N T')(h:∀ a∈F',a∈Nq)(hr:∀ a∈Nq,a∉D):dB Nq s s' D b9 N T':=
 ⟨S.pre,S.new,λa o Y L h3=>S.fr a o Y (λm=>L (h a m)) h3,S.flags,S.lock,λa B o ho=>by
  classical
  by_cases m:a∈F'
  .exact S.Dd a m o ho
  .exact⟨o,S.fr a o (hr a B) m ho⟩⟩
theorem dB.forget(S:dB F' s s' D b9 N T')(h:∀ a∈F',s.heap.get? a=V):dB [] s s' D b9 N T':=
 ⟨S.pre,S.new,λa o Y O h3=>S.fr a o Y (λm=>by rw[h a m]at h3;exact nS h3) h3,S.flags,S.lock,λO m=>nomatch m⟩
section
variable{w:dc}{b s s':aJ}{D b9 F':cc}{N T':St}{A:da}{E:cM}{u':r?}{sc:d_ (o_ × a_)}{C:al}
theorem ER.uZ(hc:ER b u' sc C s D):∃ o,s.heap.get? u'.locals=f o/\∀ Z n,o.data≠.seq Z n:=by refine C1 λGq kq=>?_;obtain⟨m,⟨o,es,ep,ho,hd,_⟩,_⟩:=hc.ns;exact kq o ho (λZ n e=>by rw[hd]at e;cases e)
theorem ER.qN(hc:ER b u' sc C s D)(h:u'.cells.lookup x=f c):∃ o,s.heap.get? c=f o/\∀ Z n,o.data≠.seq Z n:=by refine C1 λGq kq=>?_;obtain⟨u,⟨o,ho,hd⟩,_⟩:=hc.cells x c h;exact kq o ho (λZ n e=>by rw[hd]at e;cases e)
theorem Ns.kept{h h':cE}{a:bU}{m:pS}(x:h.Ns a m)(e:∀ o,h.get? a=f o->h'.get? a=f o):h'.Ns a m:=uR x λo es ep ho r=>⟨o,es,ep,e _ ho,r⟩
theorem IsCell.kept{h h':cE}{c:bU}{u:af aY}(x:h.IsCell c u)(e:∀ o,h.get? c=f o->h'.get? c=f o):h'.IsCell c u:=ah x λo ho r=>⟨o,e _ ho,r⟩
theorem jK(S:dB F' s s' D b9 N T')(Y:a∉D)(L:s.heap.get? a=f o):a∉b9:=λm=>by
 rcases S.new a m with q|q
 .exact Y q
 .rw[L]at q;exact sN q
theorem ER.step(hc:ER b u' sc C s D)(I:Inv H w b s D N)(S:dB F' s s' D b9 N T')(ok:aX F' s.heap)(hL:u'.locals∉F')(hC:∀ x c,u'.cells.lookup x=f c->c∉F'):ER b u' sc C s' b9 where
 kind:=hc.kind
 glob:=hc.glob
 bi:=hc.bi
 ns:=by refine ah (hc.ns) λm hm h=>?_;refine aK m (Ns.kept hm λo e=>S.fr _ o hc.nG.1 hL e) (λx i Y L h3=>?_);exact ah (h x i Y L h3) λu h4 h5=>aK u h4 (I.rep S ok h5)
 cells:=λx c U'=>by refine ah (hc.cells x c U') λu hu h=>?_;refine aK u (IsCell.kept hu λo e=>S.fr _ o (hc.rf x c U').1 (hC x c U') e) (λi Y L h3=>?_);exact ah (h i Y L h3) λw h4 h5=>aK w h4 (I.rep S ok h5)
 kinds:=hc.kinds
 nG:=ah hc.uZ λo ho O=>⟨jK S hc.nG.1 ho,hc.nG.2⟩
 rf:=λx c U'=>ah (hc.qN U') λo ho O=>⟨jK S (hc.rf x c U').1 ho,(hc.rf x c U').2⟩
 apart:=hc.apart
 slots:=hc.slots
 names:=hc.names
 debug:=hc.debug
theorem ER.bl(hc:ER b u' sc C s D)(I:Inv H w b s D N)(S:dB [] s s' D b9 N T'):ER b u' sc C s' b9:=hc.step I S aX.nil (λm=>nomatch m) λO O O m=>nomatch m
theorem ER.load(hc:ER b u' sc C s D)(hx:(x,i)∈sc)(hu:(ao C i).Dy=N'){Q:cM}(k:∀ u,bB b.heap s.heap D (ao C i) u->Q u s) :
  b_ (c_ H w) A (H_ (.Name x pos) u') Q E s:=by
 refine wpAny_Name ?_ (hc.debug x i hx);rcases hc.kinds x i hx with h|⟨h,c,U'⟩
 .exact ah (hc.ns) λm hm hr=>ah (hr x i hx h hu) λu Y L=>wpAny_loadName_local hc.kind h hm Y (k u L)
 .refine ah (hc.cells x c U') λu Y L=>?_;refine ah (L i hx h hu) λv bK h3=>?_;clear L;subst bK;exact wpAny_loadName_cell hc.kind h U' Y (k v h3)
theorem FQ(h:u'.scope.kind=.function):(u'.scope.kind==.class||(u'.scope.kind==.module&&u'.locals != u'.globals))=N':=J h X
theorem ER.store(hc:ER b u' sc C s D)(I:Inv H w b s D N){x:o_}{i:a_}{v:AV}{u:aY}(hx:(x,i)∈sc)(rv:bB b.heap s.heap D v u)(yN:u'.locals∈F')(Dz:u'.kindOf x=f .cell->∀ c,u'.cells.lookup x=f c->c∈F')(Zm:∀ a∈F',a∉D){Q:j?->aJ->Prop} (k:∀ s',Inv H w b s' D N->ER b u' sc (aE C i v) s' D->dB F' s s' D D N N->(∀ a o,a∉F'->s.heap.get? a=f o->s'.heap.get? a=f o)->Q () s'):b_ (c_ H w) A (storeName u' x u) Q E s:=by
 refine ah (hc.ns) λm hm hr=>ah (hc.uZ) λoL hoL hnL=>?_;have slot:∀ y j,(y,j)∈sc->y≠x->ao (aE C i v) j=ao C j:=λy j hy d9=>by rw[dh,ak];intro q;subst q;exact d9 (hc.slots y x _ hy hx)
 have Iw:∀ j,(x,j)∈sc->(ao (aE C i v) j).Dy=N'->ao (aE C i v) j=v:=λj hj hu=>by
  obtain rfl:=hc.names x i j hx hj;rw[dh,ai X]at hu ⊢;split at hu
  rename_i q2
  rotate_left;exact tF hu;exact ai q2
 rcases hc.kinds x i hx with h|⟨h,c,U'⟩
 .refine wpAny_storeName_local h hm (λh' hn hs=>?_) (FQ hc.kind);have iN:i_<h'.objs.size:=J hs.1 I.low;have J5:aX [u'.locals] s.heap:=aX.of λa B o ho Z n=>by rw[az]at B;subst B;rw[hoL]at ho;obtain rfl:=aw ho;exact hnL Z n
  have vs:=I.quiet (F':=[u'.locals]) (h':=h') (t:=s.toks+1) (λa o Y L=>(hs.2 a λq=>Y (by simp[q])).trans L) J5 (λa B=>by rw[az]at B;subst B;exact hc.nG.1)
   (λa B=>by rw[az]at B;subst B;exact hc.nG.2) (λa B o O=>by
    rw[az]at B;subst B;obtain⟨o',_,_,qw,_⟩:=hn
    exact⟨o',qw⟩) iN
  refine k _ vs.1 ⟨hc.kind,hc.glob,hc.bi,⟨_,hn,λy j hy hk hu=>?_⟩,λy d hd=>?_,hc.kinds,hc.nG,hc.rf,hc.apart,hc.slots,hc.names,hc.debug⟩ (vs.2.weaken (λa B=>by rw[az]at B;subst B;exact yN) Zm) λa o Y L=>(hs.2 a λq=>Y (q▸yN)).trans L
  .by_cases q:y=x
   .clear hx Dz slot h hn;subst q;exact aK u (by simp) (J (Iw j hy hu) (I.rep vs.2 J5 rv))
   .rw[slot y j hy q]at hu ⊢;exact ah (hr y j hy hk hu) λz Y L=>aK z (by simpa [q]using Y) (I.rep vs.2 J5 L)
  .refine ah (hc.cells y d hd) λz hz L=>?_;refine aK z (IsCell.kept hz λo e=>(hs.2 d (hc.rf y d hd).2.2).trans e) (λj hy hk hu=>?_);have q:y≠x:=λq=>by clear hx Dz slot Iw hn;subst q;rw[h]at hk;cases hk
   rw[slot y j hy q]at hu ⊢;exact ah (L j hy hk hu) λz h3 h4=>aK z h3 (I.rep vs.2 J5 h4)
 .refine ah (hc.cells x c U') λz hz O=>?_;refine ah (hc.qN U') λoC Q7 hnC=>wpAny_storeName_cell hc.kind h U' hz λh' hn hs=>?_;have iN:i_<h'.objs.size:=J hs.1 I.low;have J5:aX [c] s.heap:=aX.of λa B o ho Z n=>by rw[az]at B;clear U' hz hn hs;subst B;rw[Q7]at ho;obtain rfl:=aw ho;exact hnC Z n
  have vs:=I.quiet (F':=[c]) (h':=h') (t:=s.toks) (λa o Y L=>(hs.2 a λq=>Y (by simp[q])).trans L) J5 (λa B=>by rw[az]at B;clear hz Q7 hn hs J5;subst B;exact(hc.rf x _ U').1)
   (λa B=>by rw[az]at B;clear hz Q7 hn hs J5;subst B;exact(hc.rf x _ U').2.1) (λa B o O=>by
    rw[az]at B;clear U' hz Q7 hs J5;subst B;obtain⟨o',qw,_⟩:=hn
    exact⟨o',qw⟩) iN
  have VM:=Dz h c U';refine k _ vs.1 ⟨hc.kind,hc.glob,hc.bi,⟨m,Ns.kept hm λo e=>(hs.2 _ (kx (hc.rf x c U').2.2)).trans e,λy j hy hk hu=>?_⟩,λy d hd=>?_,hc.kinds,hc.nG,hc.rf,hc.apart,hc.slots,hc.names,hc.debug⟩ (vs.2.weaken (λa B=>by rw[az]at B;clear U' hz Q7 hn hs J5 vs;subst B;exact VM) Zm) λa o Y L=>(hs.2 a λq=>Y (q▸VM)).trans L
  .have q:y≠x:=λq=>by clear hx Dz slot Iw U';subst q;rw[h]at hk;cases hk
   rw[slot y j hy q]at hu ⊢;exact ah (hr y j hy hk hu) λz h3 h4=>aK z h3 (I.rep vs.2 J5 h4)
  .by_cases q:y=x
   .clear hx Dz slot h;subst q;rw[U']at hd;obtain rfl:=aw hd;refine aK (f u) hn (λj hy hk hu=>⟨u,X,?_⟩);exact J (Iw j hy hu) (I.rep vs.2 J5 rv)
   .refine ah (hc.cells y d hd) λz hz L=>?_;have hdc:d≠c:=λe=>q (hc.apart y x c (e▸hd) U');refine aK z (IsCell.kept hz λo e=>(hs.2 d hdc).trans e) (λj hy hk hu=>?_);rw[slot y j hy q]at hu ⊢;exact ah (L j hy hk hu) λz h3 h4=>aK z h3 (I.rep vs.2 J5 h4)
end
set_option backward.match.sparseCases false
theorem vG{α:Type _}{P:α->Prop}{o:af {x // P x}}{x:α}(h:o.map l_=f x):P x:=by cases o with|none=>exact nS h|some y=>exact aw h▸y.2
theorem Zx{P:Prop}{o:af {_x:j? // P}}(h:o.isSome=R):P:=by cases o with|none=>exact fT h|some y=>exact y.2
noncomputable def Q8 (e:av):af {x:Const // ∃ k p,e=.Constant x k p}:=match e with|.Constant c k p=>f ⟨c,k,p,X⟩|_=>V
def Bn(e:av):af (Const):=(Q8 e).map l_
noncomputable def VN (e:av):af {x:o_ // ∃ p,e=.Name x p}:=match e with|.Name x p=>f ⟨x,p,X⟩|_=>V
def u5(e:av):af (o_):=(VN e).map l_
noncomputable def Zy (e:av):af {x:av × A? × av // ∃ p,e=.BinOp x.1 x.2.1 x.2.2 p}:=match e with|.BinOp l o r p=>f ⟨(l,o,r),p,X⟩|_=>V
def Zz(e:av):af (av × A? × av):=(Zy e).map l_
noncomputable def ac0 (e:av):af {x:UnaryOp × av // ∃ p,e=.UnaryOp x.1 x.2 p}:=match e with|.UnaryOp o x p=>f ⟨(o,x),p,X⟩|_=>V
def vUn(e:av):af (UnaryOp × av):=(ac0 e).map l_
noncomputable def ZA (e:av):af {x:av × CmpOp × av // ∃ p,e=.Compare x.1 [x.2.1] [x.2.2] p}:=match e with|.Compare l [o] [r] p=>f ⟨(l,o,r),p,X⟩|_=>V
def Q9(e:av):af (av × CmpOp × av):=(ZA e).map l_
noncomputable def VP (e:av):af {x:BoolOp × dD × Pos // e=.BoolOp x.1 x.2.1 x.2.2}:=match e with|.BoolOp o M p=>f ⟨(o,M,p),X⟩|_=>V
def vBool(e:av):af (BoolOp × dD × Pos):=(VP e).map l_
noncomputable def ac2 (e:av):af {x:av × av × av // ∃ p,e=.IfExp x.1 x.2.1 x.2.2 p}:=match e with|.IfExp t a b p=>f ⟨(t,a,b),p,X⟩|_=>V
def vIf(e:av):af (av × av × av):=(ac2 e).map l_
noncomputable def VQ (e:av):af {x:o_ × dD // ∃ np p a r,x.2=a::r/\e=.Call (.Name x.1 np) (a::r) [] p}:=match e with|.Call (.Name K' np) (a::r) [] p=>f ⟨(K',a::r),np,p,a,r,X,X⟩|_=>V
def Iy(e:av):af (o_ × dD):=(VQ e).map l_
noncomputable def ZB (e:av):af {x:av × av // ∃ p,e=.Subscript x.1 x.2 p}:=match e with|.Subscript v i p=>f ⟨(v,i),p,X⟩|_=>V
def J6(e:av):af (av × av):=(ZB e).map l_
noncomputable def ZC (e:av):af {x:dD // ∃ k p,e=.Tuple x k p}:=match e with|.Tuple es k p=>f ⟨es,k,p,X⟩|_=>V
def Rb(e:av):af (dD):=(ZC e).map l_
noncomputable def ZD (e:av):af {x:dD // ∃ p,e=.List x p}:=match e with|.List es p=>f ⟨es,p,X⟩|_=>V
def ZF(e:av):af (dD):=(ZD e).map l_
noncomputable def Rc (e:av):af {x:j? // ∃ p,e=.Dict [] [] p}:=match e with|.Dict [] [] p=>f ⟨(),p,X⟩|_=>V
def Nr(e:av):e_:=(Rc e).isSome
noncomputable def Rd (e:av):af {x:av × av // ∃ p,e=.Dict [f x.1] [x.2] p}:=match e with|.Dict [f k] [v] p=>f ⟨(k,v),p,X⟩|_=>V
def Nt(e:av):af (av × av):=(Rd e).map l_
noncomputable def ac3 (e:av):af {x:av // ∃ p,e=.Slice .none (f x) .none p}:=match e with|.Slice .none (f u) .none p=>f ⟨u,p,X⟩|_=>V
def vTo(e:av):af (av):=(ac3 e).map l_
noncomputable def VT (e:av):af {x:av // ∃ p,e=.Slice (f x) .none .none p}:=match e with|.Slice (f u) .none .none p=>f ⟨u,p,X⟩|_=>V
def TV(e:av):af (av):=(VT e).map l_
noncomputable def ac4 (e:av):af {x:av × av × av × dD × I_ // ∃ p,e=.ListComp x.1 [⟨x.2.1,x.2.2.1,x.2.2.2.1,0⟩] x.2.2.2.2 p}:=match e with|.ListComp x [⟨t,i,ifs,a⟩] sc p=>if q:a=0 then f ⟨(x,t,i,ifs,sc),p,by rw[q]⟩ else .none|_=>V
def vLC(e:av):af (av × av × av × dD × I_):=(ac4 e).map l_
noncomputable def ZG (e:av):af {x:av × av × av × av × av × I_ // ∃ p,e=.ListComp x.1 [⟨x.2.1,x.2.2.1,[],0⟩,⟨x.2.2.2.1,x.2.2.2.2.1,[],0⟩] x.2.2.2.2.2 p}:=match e with|.ListComp x [⟨t,i,[],a⟩,⟨t2,i2,[],a2⟩] sc p=>if q:a=0/\a2=0 then f ⟨(x,t,i,t2,i2,sc),p,by rw[q.1,q.2]⟩ else .none|_=>V
def ZH(e:av):af (av × av × av × av × av × I_):=(ZG e).map l_
noncomputable def ac6 (e:av):af {x:av × av × av × av × I_ // ∃ p,e=.DictComp x.1 x.2.1 [⟨x.2.2.1,x.2.2.2.1,[],0⟩] x.2.2.2.2 p}:=match e with|.DictComp k v [⟨t,i,[],a⟩] sc p=>if q:a=0 then f ⟨(k,v,t,i,sc),p,by rw[q]⟩ else .none|_=>V
def vDC(e:av):af (av × av × av × av × I_):=(ac6 e).map l_
noncomputable def gR (e:av):e_:=!(f_ e.ctorIdx 22)
def xb(e:av):e_:=!(isSlice e)
theorem tM(h:Bn e=f c):∃ k p,e=.Constant c k p:=(vG h :)
theorem lg(h:u5 e=f x):∃ p,e=.Name x p:=(vG h :)
theorem Rf(h:Zz e=f (l,o,r)):∃ p,e=.BinOp l o r p:=(vG h :)
theorem Nu(h:vUn e=f (o,x)):∃ p,e=.UnaryOp o x p:=(vG h :)
theorem Bo(h:Q9 e=f (l,o,r)):∃ p,e=.Compare l [o] [r] p:=(vG h :)
theorem DA(h:vBool e=f (o,M,p)):e=.BoolOp o M p:=(vG h :)
theorem VU(h:vIf e=f (t,a,b)):∃ p,e=.IfExp t a b p:=(vG h :)
theorem xc(h:Iy e=f (K',es)):∃ np p a r,es=a::r/\e=.Call (.Name K' np) (a::r) [] p:=(vG h :)
theorem su(h:J6 e=f (v,i)):∃ p,e=.Subscript v i p:=(vG h :)
theorem Iz(h:Rb e=f es):∃ k p,e=.Tuple es k p:=(vG h :)
theorem Rg(h:ZF e=f es):∃ p,e=.List es p:=(vG h :)
theorem J7(h:Nr e=R):∃ p,e=.Dict [] [] p:=(Zx h :)
theorem J8(h:Nt e=f (k,v)):∃ p,e=.Dict [f k] [v] p:=(vG h :)
theorem VV(h:vTo e=f u):∃ p,e=.Slice .none (f u) .none p:=(vG h :)
theorem Nv(h:TV e=f u):∃ p,e=.Slice (f u) .none .none p:=(vG h :)
theorem Bp(h:vLC e=f (x,t,i,ifs,sc)):∃ p,e=.ListComp x [⟨t,i,ifs,0⟩] sc p:=(vG h :)
theorem IA(h:ZH e=f (x,t,i,t2,i2,sc)):∃ p,e=.ListComp x [⟨t,i,[],0⟩,⟨t2,i2,[],0⟩] sc p:=(vG h :)
theorem VW(h:vDC e=f (k,v,t,i,sc)):∃ p,e=.DictComp k v [⟨t,i,[],0⟩] sc p:=(vG h :)
noncomputable abbrev NM:=d_ (o_ × s?)
noncomputable abbrev SC:=d_ (o_ × a_)
set_option backward.match.sparseCases true
def namesOf:dD->af (d_ o_)
 |[]=>f []
 |e::es=>match u5 e with
  |f x=>match namesOf es with|f r=>f (x::r) |V=>V
  |V=>V
def eK(e:av):af (d_ o_):=match u5 e with|f x=>f [x]|V=>match Rb e with|f es=>if 2<=es.length then namesOf es else .none|V=>V
noncomputable def iS (sn nm:NM):NM:=sn.map λp=>if p.2==.free&&nm.lookup p.1==f .cell then(p.1,.cell) else p
noncomputable def j7 {α:Type} [DecidableEq α]:d_ α->e_|[]=>R|x::Z=>!(Z.any λy=>decide (x=y))&&j7 Z
def pY(scope:I_)(nm:NM)(sc:SC)(tn:d_ o_):e_:=
 decide (scope.kind=.function)&&scope.names.all (λp=>decide (p.2≠.cell))&&scope.names.all (λp=>!(decide (p.2=.local))||decide (scope.names.lookup p.1=f .local)) &&
 tn.all (λx=>decide (scope.names.lookup x=f .local))&&j7 tn&&j7 (scope.names.map (·.1))&&scope.names.all (λp=>!(decide (p.2=.free))||decide (nm.lookup p.1=f .cell))&&tn.all (λx=>!(x==("__debug__":o_)))&&scope.names.all (λp=>!(decide (p.2=.free))||sc.any λq=>decide (q.1=p.1))
noncomputable def iU (scope:I_) (sc:SC) (tn:d_ o_) (C':cf):SC:=tn.zip C'++sc.filter (λp=>decide (scope.names.lookup p.1=f .free))
def zU(tn:d_ o_)(C':cf)(sc:SC):e_:=decide (tn.length=C'.length)&&j7 C'&&C'.all (λi=>sc.all λp=>!(decide (p.2=i)))
noncomputable def FT:tA->af o_|.plain=>V| .range=>f "range" | .enum=>f "enumerate" | .rev=>f "reversed"
noncomputable def Bq:BI->o_| .abs=>"abs" | .len=>"len" | .list=>"list" | .tuple=>"tuple" | .dict=>"dict" | .sum=>"sum" | .yC=>"max" | .max2=>"max" | .min2=>"min" | .any=>"any" | .all=>"all" | .int=>"int"
noncomputable def oV (nm:NM) (x:o_):e_:=decide (nm.lookup x=f .globalImplicit)&&!(x==("__debug__":o_))
def IB(v:AV)(c:Const):e_:=match v,c with|.none,.none=>R|.bool a,.bool b=>decide (a=b)|.int a,.int b=>decide (a=b)|.str n,.str x=>s_ n 3&&decide (strTab n=x)|O,O'=>N'
def nH(nm:NM)(ik:tA)(e:av):af av:=match FT ik with|V=>f e|f K'=>match Iy e with|f (g,[a])=>if g==K'&&oV nm K'&&gR a then f a else .none|_=>V
def u6(ik:tA)(t:av):e_:=match ik with|.enum=>qZ t|_=>R
noncomputable def fM (e:av):e_:=!(f_ e.ctorIdx 7)
def eH:CE->NM->SC->av ⊕ dD->e_
 |.k v,O,O',q=>match q with|.inr _=>N' | .inl e=>match Bn e with|f c=>IB v c|V=>N'
 |.glob x O,nm,O',q=>match q with|.inr _=>N' | .inl e=>match u5 e with|f y=>decide (x=y)&&oV nm x|V=>N'
 |.var i,O,sc,q=>match q with|.inr _=>N' | .inl e=>match u5 e with|f y=>sc.any λp=>decide (p=(y,i))|V=>N'
 |.bin o a b,nm,sc,q=>match q with|.inr _=>N' | .inl e=>match Zz e with|f (l,op,r)=>decide (op=binOp o)&&eH a nm sc (.inl l)&&eH b nm sc (.inl r)|V=>N'
 |.neg a,nm,sc,q=>match q with|.inr _=>N' | .inl e=>match vUn e with|f (o,x)=>decide (o=.USub)&&eH a nm sc (.inl x)|V=>N'
 |.not a,nm,sc,q=>match q with|.inr _=>N' | .inl e=>match vUn e with|f (o,x)=>decide (o=.Not)&&eH a nm sc (.inl x)|V=>N'
 |.cmp o a b,nm,sc,q=>match q with|.inr _=>N' | .inl e=>match Q9 e with|f (l,op,r)=>decide (op=MU o)&&fM r&&eH a nm sc (.inl l)&&eH b nm sc (.inl r)|V=>N'
 |.isNone y a,nm,sc,q=>match q with|.inr _=>N' | .inl e=>match Q9 e with|f (l,op,r)=>decide (op=if y then .Is else .IsNot)&&decide (Bn r=f .none)&&eH a nm sc (.inl l)|V=>N'
 |.isin y a b,nm,sc,q=>match q with|.inr _=>N' | .inl e=>match Q9 e with|f (l,op,r)=>decide (op=if y then .In else .NotIn)&&fM r&&eH a nm sc (.inl l)&&eH b nm sc (.inl r)|V=>N'
 |.and a b,nm,sc,q=>match q with|.inr _=>N' | .inl e=>match vBool e with|f (.And,v1::v2::r,p)=>eH a nm sc (.inl v1)&&(match r with|[]=>eH b nm sc (.inl v2)|v3::r=>eH b nm sc (.inl (.BoolOp .And (v2::v3::r) p)))|_=>N'
 |.or a b,nm,sc,q=>match q with|.inr _=>N' | .inl e=>match vBool e with|f (.Or,v1::v2::r,p)=>eH a nm sc (.inl v1)&&(match r with|[]=>eH b nm sc (.inl v2)|v3::r=>eH b nm sc (.inl (.BoolOp .Or (v2::v3::r) p)))|_=>N'
 |.ite t a b,nm,sc,q=>match q with|.inr _=>N' | .inl e=>match vIf e with|f (x,y,z)=>eH t nm sc (.inl x)&&eH a nm sc (.inl y)&&eH b nm sc (.inl z)|V=>N'
 |.call K' O O' as,nm,sc,q=>match q with|.inr _=>N' | .inl e=>match Iy e with|f (g,es)=>decide (K'=g)&&oV nm K'&&eH as nm sc (.inr es)|V=>N'
 |.bi k as,nm,sc,q=>match q with|.inr _=>N' | .inl e=>match Iy e with|f (g,es)=>decide (Bq k=g)&&oV nm (Bq k)&&eH as nm sc (.inr es)|V=>N'
 |.idx a i,nm,sc,q=>match q with|.inr _=>N' | .inl e=>match J6 e with|f (v,s)=>xb s&&eH a nm sc (.inl v)&&eH i nm sc (.inl s)|V=>N'
 |.gJ a k,nm,sc,q=>match q with|.inr _=>N' | .inl e=>match J6 e with|f (v,s)=>(match vTo s with|f u=>eH a nm sc (.inl v)&&eH k nm sc (.inl u)|V=>N')|V=>N'
 |.fq a k,nm,sc,q=>match q with|.inr _=>N' | .inl e=>match J6 e with|f (v,s)=>(match TV s with|f u=>eH a nm sc (.inl v)&&eH k nm sc (.inl u)|V=>N')|V=>N'
 |.bc as,nm,sc,q=>match q with|.inr _=>N' | .inl e=>match Rb e with|f es=>m_ es.length 1000&&eH as nm sc (.inr es)|V=>N'
 |.lst as,nm,sc,q=>match q with|.inr _=>N' | .inl e=>match ZF e with|f es=>m_ es.length 1000&&eH as nm sc (.inr es)|V=>N'
 |.gz,O,O',q=>match q with|.inr _=>N' | .inl e=>Nr e
 |.kX k v,nm,sc,q=>match q with|.inr _=>N' | .inl e=>match Nt e with|f (a,b)=>eH k nm sc (.inl a)&&eH v nm sc (.inl b)|V=>N'
 |.bq x C' ik it,nm,sc,q=>match q with|.inr _=>N' | .inl e=>match vLC e with|f (el,t,i,[],scope)=>(match eK t with|f tn=>(match nH nm ik i with|f i'=>fM i&&u6 ik t&&pY scope nm sc tn&&zU tn C' sc&&eH it nm sc (.inl i')&&eH x (iS scope.names nm) (iU scope sc tn C') (.inl el)|V=>N')|V=>N')|_=>N'
 |.bR x C' ik it c,nm,sc,q=>match q with|.inr _=>N' | .inl e=>match vLC e with|f (el,t,i,[q],scope)=>(match eK t with|f tn=>(match nH nm ik i with|f i'=>fM i&&u6 ik t&&pY scope nm sc tn&&zU tn C' sc&&eH it nm sc (.inl i')&&eH x (iS scope.names nm) (iU scope sc tn C') (.inl el)&&eH c (iS scope.names nm) (iU scope sc tn C') (.inl q)|V=>N')|V=>N')|_=>N'
 |.dH x C' ik it tgt2 tB qF,nm,sc,q=>match q with|.inr _=>N' | .inl e=>match ZH e with
  |f (el,t,i,t2,i2,scope)=>match eK t with
   |f tn=>match nH nm ik i with
    |f i'=>match eK t2 with
     |f tn2=>match nH (iS scope.names nm) tB i2 with
      |f i2'=>fM i&&fM i2&&u6 ik t&&u6 tB t2&&pY scope nm sc (tn++tn2)&&zU (tn++tn2) (C'++tgt2) sc&&decide (tn.length=C'.length)&&eH it nm sc (.inl i') &&
        eH qF (iS scope.names nm) (iU scope sc (tn++tn2) (C'++tgt2)) (.inl i2')&&eH x (iS scope.names nm) (iU scope sc (tn++tn2) (C'++tgt2)) (.inl el)
      |V=>N'
     |V=>N'
    |V=>N'
   |V=>N'
  |V=>N'
 |.jT k v C' ik it,nm,sc,q=>match q with|.inr _=>N' | .inl e=>match vDC e with|f (ke,ve,t,i,scope)=>(match eK t with|f tn=>(match nH nm ik i with|f i'=>fM i&&u6 ik t&&pY scope nm sc tn&&zU tn C' sc&&eH it nm sc (.inl i')&&eH k (iS scope.names nm) (iU scope sc tn C') (.inl ke)&&eH v (iS scope.names nm) (iU scope sc tn C') (.inl ve)|V=>N')|V=>N')|V=>N'
 |.bad,O,O',q=>match q with|.inr _=>N' | .inl _=>R
 |.nil,O,O',q=>match q with|.inl _=>N' | .inr es=>es.isEmpty
 |.cons x r,nm,sc,q=>match q with|.inl _=>N' | .inr es=>match es with|e::es=>gR e&&eH x nm sc (.inl e)&&eH r nm sc (.inr es)|[]=>N'
end Mine.Internal
end
section
open PySem PyProof.Rows
namespace Mine.Internal
structure DB(n:a_)(A:da):Prop where
 hh:A.handled=V
 un:A.units+200+20*n<zk
 dp:A.depth+n<recursionLimit
theorem DB.a(h:DB n A):Fy A:=⟨h.hh,by have:=h.un;lia⟩
theorem DB.mono(h:DB n A)(hm:m<=n):DB m A:=⟨h.hh,by have:=h.un;lia,by have:=h.dp;lia⟩
section
variable(H:z_)(w:dc)(b:aJ)(mg mb:pS)
def gh(n:a_)(K':o_)(F:Fn):Prop:=∃ a o fd,mg K'=f (.ref a)/\b.heap.get? a=f o/\o.data=.func fd /\
 ∀(A:da) (E:cM) (s:aJ) (D:cc) (N T':St) (as:al) (M:dG) (z:AV) (Q:cM),DB n A->Inv H w b s D N->aG b.heap s.heap D as M->F N as=f (T',z) ->
  fK H w b s D N T' z Q->b_ (c_ H w) A (call (.ref a) M) Q E s
def DC(x:o_)(v:aY):Prop:=mg x=V/\mb x=f v
def u7(x:o_)(v:AV):Prop:=∃ u,mg x=f u/\∀ D,bB b.heap b.heap D v u
noncomputable def ZI:tA->aY|.plain=>C_| .range=>.type "range" | .enum=>.type "enumerate" | .rev=>.type "reversed"
def sv(k:tA):Prop:=match FT k with|V=>f?|f K'=>DC mg mb K' (ZI k)
def Ok(n:a_):CE->Prop|.k O=>f?|.glob x v=>u7 b mg x v|.var O=>f?|.bin O a c=>Ok n a/\Ok n c|.neg a=>Ok n a|.not a=>Ok n a|.cmp O a c=>Ok n a/\Ok n c|.isNone O a=>Ok n a|.isin O a c=>Ok n a/\Ok n c|.and a c=>Ok n a/\Ok n c|.or a c=>Ok n a/\Ok n c|.ite t a c=>Ok n t/\Ok n a/\Ok n c|.call K' F O as=>gh H w b mg n K' F/\Ok n as|.bi k as=>DC mg mb (Bq k) (k0 k)/\Ok n as|.idx a i=>Ok n a/\Ok n i|.gJ a i=>Ok n a/\Ok n i|.fq a i=>Ok n a/\Ok n i|.bc as=>Ok n as|.lst as=>Ok n as|.gz=>f?|.kX a c=>Ok n a/\Ok n c|.bq e O ik it=>Ok n e/\sv mg mb ik/\Ok n it|.bR e O ik it c=>Ok n e/\sv mg mb ik/\Ok n it/\Ok n c|.dH e O ik it O' tB qF=>Ok n e/\sv mg mb ik/\Ok n it/\sv mg mb tB/\Ok n qF|.jT k v O ik it=>Ok n k/\Ok n v/\sv mg mb ik/\Ok n it|.bad=>f?|.nil=>f?|.cons e r=>Ok n e/\Ok n r
structure Gx:Prop where
 g:b.heap.Ns A_ mg
 bu:b.heap.Ns M_ mb
 nl:b.heap.NoLimit
def VS(n:a_)(u':r?)(sc:SC)(c:CE)(e:av):Prop:=
 ∀(A:da) (E:cM) (s:aJ) (D:cc) (N T':St) (C:al) (z:AV) (Q:cM),DB n A->Inv H w b s D N->ER b u' sc C s D->ev c N C=f (T',z) ->
  fK H w b s D N T' z Q->b_ (c_ H w) A (H_ e u') Q E s
def TS(n:a_)(u':r?)(sc:SC)(c:CE)(e:av):Prop:=
 ∀(A:da) (E:cM) (s:aJ) (D:cc) (N T':St) (C:al) (t:e_) (Q:e_->aJ->Prop),DB n A->Inv H w b s D N->ER b u' sc C s D->ev c N C=f (T',.bool t) ->
  se H w b s D N T' (Q t)->b_ (c_ H w) A (L_ e u' (H_ e u')) Q E s
def LS(n:a_)(u':r?)(sc:SC)(c:CE)(es:dD):Prop:=
 ∀(A:da) (E:cM) (s:aJ) (D:cc) (N T':St) (C:al) (Z:al) (pos:Pos) (Q:dG->aJ->Prop),DB n A->Inv H w b s D N->ER b u' sc C s D->ev c N C=f (T',.tup Z) ->
  (∀ M s' b9,Inv H w b s' b9 T'->dB [] s s' D b9 N T'->aG b.heap s'.heap b9 Z M->Q M s')->b_ (c_ H w) A (spliced (T? pos (mc es u'))) Q E s
def Sound(n:a_)(c:CE):Prop:=∀(u':r?) (nm:NM) (sc:SC) (arg:av ⊕ dD),eH c nm sc arg=R->Ok H w b mg mb n c->(∀ x,u'.kindOf x=nm.lookup x)->u'.scope.kind=.function->u'.globals=A_->u'.builtins=M_->match arg with|.inl e=>VS H w b n u' sc c e/\TS H w b n u' sc c e|.inr es=>LS H w b n u' sc c es
end
section
variable{w:dc}{b s s':aJ}{mg mb:pS}{D b9 F':cc}{N T' ae:St}{A:da}{E:cM}{u':r?}{nm:NM}{sc:SC}{C:al}{n:a_}
theorem Sound.inl{c:CE}(h:∀(u':r?) (nm:NM) (sc:SC) (e:av),eH c nm sc (.inl e)=R->Ok H w b mg mb n c->(∀ x,u'.kindOf x=nm.lookup x)->u'.scope.kind=.function->u'.globals=A_->u'.builtins=M_->VS H w b n u' sc c e/\TS H w b n u' sc c e)(hr:∀ nm sc es,eH c nm sc (.inr es)=N'):Sound H w b mg mb n c:=λu' nm sc arg=>match arg with|.inl e=>h u' nm sc e|.inr es=>λU'=>fT ((hr nm sc es).symm.trans U')
theorem se.after{Q:aJ->Prop}(k:se H w b s D N T' Q)(S:dB [] s cV D MW N ae):se H w b cV MW ae T' Q:=
 λs' b9 I S'=>k s' b9 I (S.trans S')
theorem Inv.ns(I:Inv H w b s D N){m:pS}(h:b.heap.Ns a m):s.heap.Ns a m:=Ns.kept h λo e=>I.keep a o e
theorem Nw(I:Inv H w b s D N)(h:∀ D,bB b.heap b.heap D v u):bB b.heap s.heap D v u:=
 (h D).mono (λa B' ⟨o,Y,L⟩=>⟨o,I.keep a o Y,L⟩) eS
theorem IC(Y':Gx b mg mb)(hk:u'.scope.kind=.function)(hg:u'.globals=A_)(I:Inv H w b s D N)(hx:oV nm x=R)(bV:∀ x,u'.kindOf x=nm.lookup x)(hv:mg x=f v){Q:cM}(k:Q v s) :
  b_ (c_ H w) A (H_ (.Name x pos) u') Q E s:=by
 dsimp only[oV]at hx;rw[jb]at hx;refine wpAny_Name ?_ (by simpa using hx.2);exact J (loadName_read hk ((bV x).trans (dW hx.1))) (Calls.loadGlobal_global (mg:=mg) (by exact J hg (I.ns Y'.g)) hv k)
theorem TX(Y':Gx b mg mb)(hk:u'.scope.kind=.function)(hg:u'.globals=A_)(hb:u'.builtins=M_)(I:Inv H w b s D N)(hx:oV nm x=R)(bV:∀ x,u'.kindOf x=nm.lookup x)(hv:DC mg mb x v){Q:cM}(k:Q v s) :
  b_ (c_ H w) A (H_ (.Name x pos) u') Q E s:=by
 dsimp only[oV]at hx;rw[jb]at hx;refine wpAny_Name ?_ (by simpa using hx.2);exact J (loadName_read hk ((bV x).trans (dW hx.1))) (Calls.loadGlobal_builtin (mg:=mg) (mb:=mb) (by exact J hg (I.ns Y'.g)) hv.1 (by exact J hb (I.ns Y'.bu)) hv.2 k)
theorem TS.qx(h:VS H w b n u' sc c e)(he:L_ e u' (H_ e u')=(do let v <-H_ e u';u0 e.pos;t? [v] (truthy v))):TS H w b n u' sc c e:=by intro A E s D N T' C t Q hA I hc aN K;refine wpAny_isTrue_value (h A E s D N T' C _ _ hA I hc aN λv s' b9 I' S' rv=>?_) he;exact J rv.bool_inv (qD (K s' b9 I' S'))
theorem Rh(Y':Gx b mg mb)(v:AV):Sound H w b mg mb n (.k v):=by
 refine Sound.inl (λu' nm sc e U' cm bV hk hg hb=>?_) λO O O=>X;revert U';refine Qu (λc hv U'=>?_);refine gx (tM hv) λkk p fJ=>?_;subst fJ
 have iv:VS H w b n u' sc (.k v) (.Constant c kk p):=by
  intro A E s D N T' C z Q hA I hc aN K;dsimp only[ev]at aN;rw[dN,rP]at aN;obtain⟨rfl,rfl⟩:=aN;dsimp only[IB]at U';revert U';refine Zc (λbr bK U'=>?_) (λx y br bK U'=>?_) (λx y br bK U'=>?_) (λm x br bK U'=>?_);clear cm;subst br;clear hv;subst bK;rotate_left;clear cm;subst br;clear hv;subst bK;rotate_left;clear cm;subst br;clear hv;subst bK;rotate_left;clear cm;subst br;clear hv;subst bK;rotate_left
  .exact Md (K.tE I bB.none)
  .rw[dW U']at K;exact wpAny_Constant_bool (K.tE I (bB.bool _))
  .rw[dW U']at K;exact wpAny_Constant_int (K.tok I (bB.int _ _))
  .rw[jb,Nat.blt_eq]at U';refine dR (dW U'.2) (wpAny_Constant_str (K.tok I ?_));exact⟨U'.1,_,X⟩
 exact⟨iv,TS.qx iv X⟩
theorem FU(Y':Gx b mg mb)(x:o_)(v:AV):Sound H w b mg mb n (.glob x v):=by
 refine Sound.inl (λu' nm sc e U' cm bV hk hg hb=>?_) λO O O=>X;revert U';refine vU (λy hv U'=>?_);obtain⟨p,rfl⟩:=lg hv;rw[jb]at U';clear hv;obtain rfl:=dW U'.1;have iv:VS H w b n u' sc (.glob x v) (.Name x p):=by intro A E s D N T' C z Q hA I hc aN K;refine ia λGq zq=>?_;dsimp only[ev]at aN;rw[dN,rP]at aN;obtain⟨rfl,rfl⟩:=aN;obtain⟨u,Y,L⟩:=cm;refine zq ?_;clear zq;exact IC Y' hk hg I U'.2 bV Y (K.tE I (Nw I L))
 exact⟨iv,TS.qx iv X⟩
theorem Ri{x z:AV}{N T':St}(e:(match x with|.ub=>Option.none|v=>f (N,v))=f (T',z)):N=T'/\x=z/\x≠.ub:=by
 have h:N=T'/\x=z:=by cases x<;>first|exact nS e|exact oP e
 exact⟨h.1,h.2,λq=>by rw[q]at e;exact nS e⟩
theorem J9(i:a_):Sound H w b mg mb n (.var i):=by
 refine Sound.inl (λu' nm sc e U' cm bV hk hg hb=>?_) λO O O=>X;revert U';refine vU (λy hv U'=>?_);obtain⟨p,qv⟩:=lg hv;clear hv;subst qv;have fC:(y,i)∈sc:=by refine ah (LX.mp U') λq Y L=>?_;exact dR (dW L) Y
 have iv:VS H w b n u' sc (.var i) (.Name y p):=by intro A E s D N T' C z Q hA I hc aN K;obtain⟨vA,yD,d9⟩:=Ri aN;subst vA;clear aN;subst yD;refine hc.load fC ?_ λu ru=>K.tE I ru;cases hv:ao C i with|ub=>exact g_ hv d9|_=>rfl
 exact⟨iv,TS.qx iv X⟩
theorem Ka(hx:Sound H w b mg mb n x)(hy:Sound H w b mg mb n y):Sound H w b mg mb n (.bin o x y):=by
 refine Sound.inl (λu' nm sc e U' cm bV hk hg hb=>?_) λO O O=>X;revert U';refine AQ (λl op r hv U'=>?_);obtain⟨p,rfl⟩:=Rf hv;refine JB U' λh0 Y L=>?_;clear hv;obtain rfl:=dW h0;have iv:VS H w b n u' sc (.bin o x y) (.BinOp l (binOp o) r p):=by intro A E s D N T' C z Q hA I hc aN K;revert aN;exact aM (λs1 a e1=>aM (λs2 c e2 aN=>wpAny_BinOp (((hx u' nm sc (.inl l) Y cm.1 bV hk hg hb).1) A E s D N s1 C a _ hA I hc e1 λu t1 cR I1 S1 r1=>((hy u' nm sc (.inl r) L cm.2 bV hk hg hb).1) A E t1 cR s1 s2 C c _ hA I1 (hc.bl I S1) e2 λu2 t2 gH I2 S2 r2=>Vp I2 (I1.rep S2 aX.nil r1) r2 aN (K.after (S1.trans S2)))))
 exact⟨iv,TS.qx iv X⟩
theorem Kc(hx:Sound H w b mg mb n x):Sound H w b mg mb n (.neg x):=by
 refine Sound.inl (λu' nm sc e U' cm bV hk hg hb=>?_) λO O O=>X;revert U';refine Ig (λop l hv U'=>?_);refine cz (Nu hv) λp aL=>?_;subst aL;rw[jb]at U';clear hv;obtain rfl:=dW U'.1;have iv:VS H w b n u' sc (.neg x) (.UnaryOp .USub l p):=by intro A E s D N T' C z Q hA I hc aN K;revert aN;refine C6 (λs1 i e1 aN=>?_);revert K;refine gI aN ?_;intro K;refine wpAny_UnaryOp (((hx u' nm sc (.inl l) U'.2 cm bV hk hg hb).1) A E s D N s1 C _ _ hA I hc e1 λu t1 cR I1 S1 r1=>?_);obtain⟨t,rfl⟩:=r1.int_inv;exact PyProof.Rows.neg_int ((K.after S1).tok I1 (bB.int _ _))
 exact⟨iv,TS.qx iv X⟩
theorem Kd(hx:Sound H w b mg mb n x):Sound H w b mg mb n (.not x):=by
 refine Sound.inl (λu' nm sc e U' cm bV hk hg hb=>?_) λO O O=>X;revert U';refine Ig (λop l hv U'=>?_);refine cz (Nu hv) λp aL=>?_;subst aL;rw[jb]at U';clear hv;obtain rfl:=dW U'.1;refine cC (hx u' nm sc (.inl l) U'.2 cm bV hk hg hb) λaj XT=>⟨?_,?_⟩
 .intro A E s D N T' C z Q hA I hc aN K;revert aN;refine TK (λs1 i e1 aN=>?_);revert K;refine gI aN ?_;intro K;exact wpAny_UnaryOp (aj A E s D N s1 C _ _ hA I hc e1 λu t1 cR I1 S1 r1=>J r1.bool_inv (not_of (qD ((K.after S1).tE I1 (bB.bool _)))))
 .intro A E s D N T' C t Q hA I hc aN K;revert aN;refine TK (λs1 i e1 aN=>?_);simp only[dN,rP,AV.bool.injEq]at aN;obtain⟨rfl,rfl⟩:=aN;exact wpAny_isTrue_Not (XT A E s D N s1 C i _ hA I hc e1 K)
theorem oW(h:fM r=R):behindInMarks op r=N':=by cases r<;>first|rfl|(exact fT h)
theorem rg(hm:behindInMarks op r=N')(h:∀(A:da) (E:cM) (s:aJ) (D:cc) (N T':St) (C:al) (z:AV) (Q:cM),DB n A->Inv H w b s D N->ER b u' sc C s D->ev c N C=f (T',z)->fK H w b s D N T' z Q ->
   b_ (c_ H w) A (H_ l u') (λa cV=>b_ (c_ H w) A (H_ r u') (λd oR=>b_ (c_ H w) A (D? op a d) Q E oR) E cV) E s) :
  VS H w b n u' sc c (.Compare l [op] [r] p)/\TS H w b n u' sc c (.Compare l [op] [r] p):=by
 refine⟨λA E s D N T' C z Q hA I hc aN K=>wpAny_Compare1 (h A E s D N T' C z Q hA I hc aN K) hm,λA E s D N T' C t Q hA I hc aN K=>?_⟩;refine wpAny_isTrue_Compare1 (h A E s D N T' C _ _ hA I hc aN λv s' b9 I' S' rv=>?_) hm;exact J rv.bool_inv (qD (K s' b9 I' S'))
theorem Ke(hx:Sound H w b mg mb n x)(hy:Sound H w b mg mb n y):Sound H w b mg mb n (.cmp o x y):=by refine Sound.inl (λu' nm sc e U' cm bV hk hg hb=>?_) λO O O=>X;revert U';refine wF (λl op r hv U'=>?_);obtain⟨p,rfl⟩:=Bo hv;refine bn4 U' λh0 hp Y L=>?_;clear hv;obtain rfl:=dW h0;refine rg (oW hp) λA E s D N T' C z Q hA I hc aN K=>ia λGq zq=>?_;revert aN;refine aM (λs1 a e1=>aM (λs2 c e2=>eG (λq eq aN=>?_)));refine zq ?_;clear zq;revert K;refine gI aN ?_;intro K;exact((hx u' nm sc (.inl l) Y cm.1 bV hk hg hb).1) A E s D N s1 C a _ hA I hc e1 λu t1 cR I1 S1 r1=>((hy u' nm sc (.inl r) L cm.2 bV hk hg hb).1) A E t1 cR s1 s2 C c _ hA I1 (hc.bl I S1) e2 λu2 t2 gH I2 S2 r2=>Vx hA.a I2 (I1.rep S2 aX.nil r1) r2 eq ((K.after (S1.trans S2)).tE I2 (bB.bool _))
theorem Br(hx:Sound H w b mg mb n x):Sound H w b mg mb n (.isNone y x):=by refine Sound.inl (λu' nm sc e U' cm bV hk hg hb=>?_) λO O O=>X;revert U';refine wF (λl op r hv U'=>?_);obtain⟨p,rfl⟩:=Bo hv;refine JB U' λh0 hp Y=>?_;obtain rfl:=dW h0;refine gx (tM (dW hp)) λk1 p1 fJ=>?_;clear hp hv;subst fJ;refine rg X λA E s D N T' C z Q hA I hc aN K=>?_;revert aN;refine aM (λs1 a e1 aN=>?_);revert K;refine gI aN ?_;intro K;exact((hx u' nm sc (.inl l) Y cm bV hk hg hb).1) A E s D N s1 C a _ hA I hc e1 λu t1 cR I1 S1 r1=>Md (JH r1 ((K.after S1).tE I1 (bB.bool _)))
theorem FV(hx:Sound H w b mg mb n x)(hy:Sound H w b mg mb n d):Sound H w b mg mb n (.isin y x d):=by refine Sound.inl (λu' nm sc e U' cm bV hk hg hb=>?_) λO O O=>X;revert U';refine wF (λl op r hv U'=>?_);obtain⟨p,rfl⟩:=Bo hv;refine bn4 U' λh0 hp Y L=>?_;clear hv;obtain rfl:=dW h0;refine rg (oW hp) λA E s D N T' C z Q hA I hc aN K=>ia λGq zq=>?_;revert aN;refine aM (λs1 a e1=>aM (λs2 c e2=>eG (λq eq aN=>?_)));refine zq ?_;clear zq;revert K;refine gI aN ?_;intro K;exact((hx u' nm sc (.inl l) Y cm.1 bV hk hg hb).1) A E s D N s1 C a _ hA I hc e1 λu t1 cR I1 S1 r1=>((hy u' nm sc (.inl r) L cm.2 bV hk hg hb).1) A E t1 cR s1 s2 C c _ hA I1 (hc.bl I S1) e2 λu2 t2 gH I2 S2 r2=>Zu hA.a I2 (I1.rep S2 aX.nil r1) r2 eq λt=>(K.after (S1.trans S2)).tok I2 (bB.bool _)
end
section
variable{w:dc}{b s s' Kf:aJ}{mg mb:pS}{D b9 Nx F':cc}{N T' ae c7:St}{A:da}{E:cM}{u':r?}{nm:NM}{sc:SC}{C:al}{n:a_}
theorem Inv.adopt(I:Inv H w b s D N)(U':∃ ob,s.heap.get? a=f ob/\(ob.cls=.type "list"\/ob.cls=.type "dict"))(TL:a∉D)(QC:b.heap.get? a=V)(P7:(a==i_)=N')(hp:N.push o=f T') (ho:yE H w b.heap s.heap D a o):Inv H w b s (D++[a]) T'/\(D++[a])[N.n]?=f a:=by
 obtain⟨hn,he⟩:=wJ hp;have qX:D <+: D++[a]:=UY _ _;have AX:(D++[a])[N.n]?=f a:=by refine dR I.len ?_;simp
 refine⟨⟨I.same,I.keep,I.low,I.yF,by exact J oi (J I.len (J hn X)),?_,λc m=>?_,λc m=>?_,λi e Y=>?_⟩,AX⟩
 .refine J (propext UW) ⟨I.nodup,(by simp),λx hx y hy=>?_⟩;rw[az]at hy;subst hy;rintro rfl;exact TL hx
 .rcases fG.mp m with m|m
  .exact I.fresh c m
  .rw[az]at m;clear U' TL ho qX AX;subst m;exact⟨QC,P7⟩
 .rcases fG.mp m with m|m
  .exact I.cls c m
  .rw[az]at m;clear TL QC P7 ho qX AX;subst m;exact U'
 .rw[he]at Y;split at Y
  rename_i q
  rotate_left;rotate_left
  .subst q;obtain rfl:=aw Y;exact aK a AX (ho.keeps (λO O t=>t) qX λO e=>e)
  .refine ah (I.obj i e Y) λc L h3=>?_;exact aK c (vV qX L) (h3.keeps (λO O t=>t) qX λO e=>e)
theorem dB.adopt(S:dB F' Kf s Nx D c7 N)(agw:Inv H w b Kf Nx c7)(I:Inv H w b s D N)(jo:Kf.heap.get? a=V)(hp:N.push o=f T'):dB F' Kf s Nx (D++[a]) c7 T':=by
 obtain⟨hn,he⟩:=wJ hp;refine⟨S.pre.trans (UY _ _),λc U'=>?_,S.fr,λi hi=>(sd ?_).trans (S.flags i hi),S.lock,S.Dd⟩
 .rcases fG.mp U' with m|m
  .exact S.new c m
  .rw[az]at m;clear U';subst m;exact .inr jo
 .rw[he,ak]
  have:=S.pre.length_le
  refine dR I.len ?_;lia
theorem Kg:Sound H w b mg mb n .bad:=by
 refine Sound.inl (λu' nm sc e U' cm bV hk hg hb=>?_) λO O O=>X;refine⟨?_,?_⟩
 .intro A E s D N T' C z Q hA I hc aN K;exact nS aN
 .intro A E s D N T' C z Q hA I hc aN K;exact nS aN
theorem Kh:Sound H w b mg mb n .nil:=by intro u' nm sc arg U' cm bV hk hg hb;cases arg with|inl e=>exact fT U'|inr es=>
  dsimp only[eH]at U'
  have:es=[]:=UM.mp U'
  clear U';subst this;intro A E s D N T' C Z pos Q hA I hc aN K;dsimp only[ev]at aN;rw[dN,rP,AV.tup.injEq]at aN;obtain⟨eE,iA⟩:=aN;subst eE;subst iA;exact zG (K [] s D I (dB.refl _ _ _ _) aG.nil)
theorem aH(h:gR e=R):mc (e::es) u'=(N',H_ e u')::mc es u':=by cases e<;>first|rfl|(exact fT h)
theorem FW(hx:Sound H w b mg mb n x)(hr:Sound H w b mg mb n r):Sound H w b mg mb n (.cons x r):=by intro u' nm sc arg U' cm bV hk hg hb;cases arg with|inl e=>exact fT U'|inr es=>cases es with|nil=>exact fT U'|cons e es=>dsimp only[eH]at U';refine JB U' λh0 Y L=>?_;have R':=hr u' nm sc (.inr es) L cm.2 bV hk hg hb;intro A E s D N T' C Z pos Q hA I hc aN K;revert aN;refine aM (λs1 a e1=>qK (λs2 ys e2 aN=>?_));simp only[dN,rP,AV.tup.injEq]at aN;obtain⟨j5,mj⟩:=aN;subst j5;subst mj;refine wz (((hx u' nm sc (.inl e) Y cm.1 bV hk hg hb).1) A E s D N s1 C a _ hA I hc e1 λu t1 cR I1 S1 r1=>?_) (aH h0);exact R' A E t1 cR s1 s2 C ys pos _ hA I1 (hc.bl I S1) e2 λM t2 gH I2 S2 r2=>K _ _ _ I2 (S1.trans S2) (aG.cons (I1.rep S2 aX.nil r1) r2)
theorem sx(op:BoolOp)(M:dD)(p:Pos)(a c:Sem aY):L_ (.BoolOp op M p) u' a=L_ (.BoolOp op M p) u' c:=rfl
theorem Ki(hx:Sound H w b mg mb n x)(hy:Sound H w b mg mb n y):Sound H w b mg mb n (.and x y):=by
 refine Sound.inl (λu' nm sc e U' cm bV hk hg hb=>?_) λO O O=>X;revert U';refine Zd (λv1 v2 r p hv U'=>?_);obtain rfl:=DA hv;refine H9 U' λY L=>cC (hx u' nm sc (.inl v1) Y cm.1 bV hk hg hb) λaj XT=>?_;have h1:VS H w b n u' sc y (.BoolOp .And (v2::r) p)/\TS H w b n u' sc y (.BoolOp .And (v2::r) p):=by cases r with|nil=>(refine cC (hy u' nm sc (.inl v2) L cm.2 bV hk hg hb) λh1 YT=>⟨λA E s D N T' C z Q hA I hc aN K=>BoolOp_one (h1 A E s D N T' C z Q hA I hc aN K),λA E s D N T' C t Q hA I hc aN K=>?_⟩;refine isTrue_and (YT A E s D N T' C t _ hA I hc aN λs' b9 I' S'=>?_);cases t with|true=>exact isTrue_and_nil (K s' b9 I' S')|false=>exact K s' b9 I' S')|cons v3 r=>exact hy u' nm sc (.inl (.BoolOp .And (v2::v3::r) p)) L cm.2 bV hk hg hb
 obtain⟨h1,YT⟩:=h1;refine⟨?_,?_⟩
 .intro A E s D N T' C z Q hA I hc aN K;revert aN;refine r7 (λs1 e1 aN=>?_) (λs1 e1 aN=>?_)
  .exact BoolOp_and (aj A E s D N s1 C _ _ hA I hc e1 λu t1 cR I1 S1 r1=>J r1.bool_inv (qD (h1 A E t1 cR s1 T' C z _ hA I1 (hc.bl I S1) aN (K.after S1))))
  .revert K;refine gI aN ?_;intro K;exact BoolOp_and (aj A E s D N s1 C _ _ hA I hc e1 λu t1 cR I1 S1 r1=>J r1.bool_inv (qD ((K.after S1).tE I1 (bB.bool _))))
 .intro A E s D N T' C t Q hA I hc aN K;revert aN;refine r7 (λs1 e1 aN=>?_) (λs1 e1 aN=>?_)
  .exact isTrue_and (XT A E s D N s1 C R _ hA I hc e1 λt1 cR I1 S1=>J (sx .And (v2::r) p _ (H_ (.BoolOp .And (v2::r) p) u')) (YT A E t1 cR s1 T' C t _ hA I1 (hc.bl I S1) aN (K.after S1)))
  .simp only[dN,rP,AV.bool.injEq]at aN;obtain⟨oN,qv⟩:=aN;subst oN;subst qv;exact isTrue_and (XT A E s D N s1 C N' _ hA I hc e1 λt1 cR I1 S1=>K t1 cR I1 S1)
theorem Ny(hx:Sound H w b mg mb n x)(hy:Sound H w b mg mb n y):Sound H w b mg mb n (.or x y):=by
 refine Sound.inl (λu' nm sc e U' cm bV hk hg hb=>?_) λO O O=>X;revert U';refine U2 (λv1 v2 r p hv U'=>?_);obtain rfl:=DA hv;refine H9 U' λY L=>cC (hx u' nm sc (.inl v1) Y cm.1 bV hk hg hb) λaj XT=>?_;have h1:VS H w b n u' sc y (.BoolOp .Or (v2::r) p)/\TS H w b n u' sc y (.BoolOp .Or (v2::r) p):=by cases r with|nil=>(refine cC (hy u' nm sc (.inl v2) L cm.2 bV hk hg hb) λh1 YT=>⟨λA E s D N T' C z Q hA I hc aN K=>BoolOp_one (h1 A E s D N T' C z Q hA I hc aN K),λA E s D N T' C t Q hA I hc aN K=>?_⟩;refine isTrue_or (YT A E s D N T' C t _ hA I hc aN λs' b9 I' S'=>?_);cases t with|false=>exact isTrue_or_nil (K s' b9 I' S')|true=>exact K s' b9 I' S')|cons v3 r=>exact hy u' nm sc (.inl (.BoolOp .Or (v2::v3::r) p)) L cm.2 bV hk hg hb
 obtain⟨h1,YT⟩:=h1;refine⟨?_,?_⟩
 .intro A E s D N T' C z Q hA I hc aN K;revert aN;refine TJ (λs1 e1 aN=>?_) (λs1 e1 aN=>?_)
  .exact BoolOp_or (aj A E s D N s1 C _ _ hA I hc e1 λu t1 cR I1 S1 r1=>J r1.bool_inv (qD (h1 A E t1 cR s1 T' C z _ hA I1 (hc.bl I S1) aN (K.after S1))))
  .revert K;refine gI aN ?_;intro K;exact BoolOp_or (aj A E s D N s1 C _ _ hA I hc e1 λu t1 cR I1 S1 r1=>J r1.bool_inv (qD ((K.after S1).tE I1 (bB.bool _))))
 .intro A E s D N T' C t Q hA I hc aN K;revert aN;refine TJ (λs1 e1 aN=>?_) (λs1 e1 aN=>?_)
  .exact isTrue_or (XT A E s D N s1 C N' _ hA I hc e1 λt1 cR I1 S1=>J (sx .Or (v2::r) p _ (H_ (.BoolOp .Or (v2::r) p) u')) (YT A E t1 cR s1 T' C t _ hA I1 (hc.bl I S1) aN (K.after S1)))
  .simp only[dN,rP,AV.bool.injEq]at aN;obtain⟨vA,yD⟩:=aN;subst vA;subst yD;exact isTrue_or (XT A E s D N s1 C R _ hA I hc e1 λt1 cR I1 S1=>K t1 cR I1 S1)
theorem isTrue_IfExp{Q:e_->aJ->Prop}(h:b_ (c_ H w) A (L_ t u' (H_ t u')) (λc cV=>if c then b_ (c_ H w) A (L_ x u' (H_ x u')) Q E cV else b_ (c_ H w) A (L_ y u' (H_ y u')) Q E cV) E s) :
  b_ (c_ H w) A (L_ (.IfExp t x y p) u' whole) Q E s:=by
 simp only[arm_isTrue_IfExp];refine aU (om h (λc cV sj=>?_) λO O e=>e);cases c with|true=>exact sj|false=>exact sj
theorem Kj(ht:Sound H w b mg mb n t)(hx:Sound H w b mg mb n x)(hy:Sound H w b mg mb n y):Sound H w b mg mb n (.ite t x y):=by
 refine Sound.inl (λu' nm sc e U' cm bV hk hg hb=>?_) λO O O=>X;refine ia λGq zq=>?_;revert U';refine Qw (λe1 e2 e3 hv U'=>?_);refine cz (VU hv) λp aL=>?_;clear hv;subst aL;refine JB U' λY L h3=>cC (ht u' nm sc (.inl e1) Y cm.1 bV hk hg hb) λT TT=>cC (hx u' nm sc (.inl e2) L cm.2.1 bV hk hg hb) λaj XT=>cC (hy u' nm sc (.inl e3) h3 cm.2.2 bV hk hg hb) λh1 YT=>?_;refine zq ?_;clear zq;refine⟨?_,?_⟩
 .intro A E s D N T' C z Q hA I hc aN K;revert aN;refine r7 (λs1 e1 aN=>?_) (λs1 e1 aN=>?_)
  .exact wpAny_IfExp (TT A E s D N s1 C R _ hA I hc e1 λt1 cR I1 S1=>aj A E t1 cR s1 T' C z _ hA I1 (hc.bl I S1) aN (K.after S1))
  .exact wpAny_IfExp (TT A E s D N s1 C N' _ hA I hc e1 λt1 cR I1 S1=>h1 A E t1 cR s1 T' C z _ hA I1 (hc.bl I S1) aN (K.after S1))
 .intro A E s D N T' C z Q hA I hc aN K;revert aN;refine r7 (λs1 e1 aN=>?_) (λs1 e1 aN=>?_)
  .exact isTrue_IfExp (TT A E s D N s1 C R _ hA I hc e1 λt1 cR I1 S1=>XT A E t1 cR s1 T' C z _ hA I1 (hc.bl I S1) aN (K.after S1))
  .exact isTrue_IfExp (TT A E s D N s1 C N' _ hA I hc e1 λt1 cR I1 S1=>YT A E t1 cR s1 T' C z _ hA I1 (hc.bl I S1) aN (K.after S1))
theorem DD:∀(es:dD) (as:CE),eH as nm sc (.inr es)=R->(∀ e∈es,gR e=R):=λw'=>by induction w' with|nil=>(intro O O;exact λO m=>nomatch m)|cons e es ih=>
  intro as h
  cases as with
  |cons x r=>
   dsimp only[eH]at h;simp only[jb]at h;intro e' m;rcases aT.mp m with Dc|m
   .clear m;subst Dc;exact h.1.1
   .exact ih r h.2 e' m
  |_=>exact fT h
theorem xd:∀(es:dD),(∀ e∈es,gR e=R)->(T? pos (mc es u')).any (·.1)=N':=λw'=>by induction w' with|nil=>intro O;exact X|cons e es ih=>intro h;refine J (aH (h e aQ)) ?_;show(N'||(T? pos (mc es u')).any (·.1))=N';refine J (ih λe' m=>h e' (bg _ m)) ?_;rfl
theorem FX(Y':Gx b mg mb)(B:Sound H w b mg mb n as):Sound H w b mg mb n (.call K' F P as):=by
 refine Sound.inl (λu' nm sc e U' cm bV hk hg hb=>?_) λO O O=>X;revert U';refine Ih (λg es hv U'=>?_);refine Ml (xc hv) λnp p a0 r0 ZJ VX=>?_;subst ZJ;subst VX;refine JB U' λh0 Y L=>?_;clear hv;obtain rfl:=dW h0;refine H7 (cm.1) λa o fd m1 m2 m3 gS=>?_;have iv:VS H w b n u' sc (.call K' F P as) (.Call (.Name K' np) (a0::r0) [] p):=by intro A E s D N T' C z Q hA I hc aN K;revert aN;refine qK (λs1 Z e1 aN=>Call_Name X (IC Y' hk hg I Y bV m1 (callWith_def m3 ?_ (aH (DD _ _ L a0 aQ)))));refine(B u' nm sc (.inr (a0::r0)) L cm.2 bV hk hg hb) A E s D N s1 C Z p _ hA I hc e1 λM t1 cR I1 S1 r1=>⟨I1.keep a o m2,?_⟩;exact gS A E t1 cR s1 T' Z M z Q hA I1 r1 aN (K.after S1)
 exact⟨iv,TS.qx iv X⟩
theorem Nz(Y':Gx b mg mb)(B:Sound H w b mg mb n as):Sound H w b mg mb n (.bi k as):=by
 refine Sound.inl (λu' nm sc e U' cm bV hk hg hb=>?_) λO O O=>X;revert U';refine Ih (λg es hv U'=>?_);refine Ml (xc hv) λnp p a0 r0 ZJ VX=>?_;subst ZJ;clear hv;subst VX;refine JB U' λh0 Y L=>?_;have h0:=dW h0;have h2:=B u' nm sc (.inr (a0::r0)) L cm.2 bV hk hg hb;have ZK:=DD _ _ L;have vH:gR a0=R:=ZK a0 aQ;have zV:(T? p (mc r0 u')).any (·.1)=N':=xd r0 λe m=>ZK e (bg _ m)
 have iv:VS H w b n u' sc (.bi k as) (.Call (.Name g np) (a0::r0) [] p):=by
  intro A E s D N T' C z Q hA I hc aN K;revert aN;refine qK (λs1 Z e1 aN=>Call_Name X (TX Y' hk hg hb I (h0▸Y) bV (h0▸cm.1) ?_))
  have core:b_ (c_ H w) A (spliced (T? p (mc (a0::r0) u'))) (λM cV=>b_ (c_ H w) A (call (k0 k) M) Q E cV) E s:=
   h2 A E s D N s1 C Z p _ hA I hc e1 λM t1 cR I1 S1 r1=>Zt hA.a I1 r1 aN (K.after S1)
  cases k with|list=>exact CO core (aH vH) zV|tuple=>exact CO core (aH vH) zV|dict=>exact CO core (aH vH) zV|int=>exact CO core (aH vH) zV|abs=>exact uH core (aH vH) zV|len=>exact uH core (aH vH) zV|sum=>exact uH core (aH vH) zV|yC=>exact uH core (aH vH) zV|max2=>exact uH core (aH vH) zV|min2=>exact uH core (aH vH) zV|any=>exact uH core (aH vH) zV|all=>exact uH core (aH vH) zV
 exact⟨iv,TS.qx iv X⟩
theorem DF(h:xb e=R):isSlice e=N':=(rR _).mp h
theorem Kk(hx:Sound H w b mg mb n x)(hy:Sound H w b mg mb n y):Sound H w b mg mb n (.idx x y):=by
 refine Sound.inl (λu' nm sc e U' cm bV hk hg hb=>?_) λO O O=>X;revert U';refine pU (λl r hv U'=>?_);obtain⟨p,wI⟩:=su hv;clear hv;subst wI;refine JB U' λh0 Y L=>?_;have iv:VS H w b n u' sc (.idx x y) (.Subscript l r p):=by intro A E s D N T' C z Q hA I hc aN K;refine ia λGq zq=>?_;revert aN;refine aM (λs1 a e1=>aM (λs2 c e2=>AS (λv ez aN=>?_)));refine zq ?_;clear zq;revert K;refine gI aN ?_;intro K;exact Subscript_ (((hx u' nm sc (.inl l) Y cm.1 bV hk hg hb).1) A E s D N s1 C a _ hA I hc e1 λu t1 cR I1 S1 r1=>((hy u' nm sc (.inl r) L cm.2 bV hk hg hb).1) A E t1 cR s1 s2 C c _ hA I1 (hc.bl I S1) e2 λu2 t2 gH I2 S2 r2=>VB hA.a I2 (I1.rep S2 aX.nil r1) r2 ez (DF h0) (K.after (S1.trans S2)))
 exact⟨iv,TS.qx iv X⟩
theorem FY(hx:Sound H w b mg mb n x)(hy:Sound H w b mg mb n y):Sound H w b mg mb n (.gJ x y):=by
 refine Sound.inl (λu' nm sc e U' cm bV hk hg hb=>?_) λO O O=>X;revert U';refine pU (λl r hv U'=>?_);obtain⟨p,rfl⟩:=su hv;revert U';refine dI (λu hu U'=>?_);refine cz (VV hu) λp2 aL=>?_;clear hv hu;subst aL;refine H9 U' λY L=>?_;have h1:=(hy u' nm sc (.inl u) L cm.2 bV hk hg hb).1;have iv:VS H w b n u' sc (.gJ x y) (.Subscript l (.Slice V (f u) V p2) p):=by intro A E s D N T' C z Q hA I hc aN K;revert aN;exact aM (λs1 a e1=>aM (λs2 c e2 aN=>Subscript_ (((hx u' nm sc (.inl l) Y cm.1 bV hk hg hb).1) A E s D N s1 C a _ hA I hc e1 λu t1 cR I1 S1 r1=>zO (cy (h1 A E t1 cR s1 s2 C c _ hA I1 (hc.bl I S1) e2 λu2 t2 gH I2 S2 r2=>QN hA.a I2 (I1.rep S2 aX.nil r1) r2 aN (K.after (S1.trans S2)))))))
 exact⟨iv,TS.qx iv X⟩
theorem Bt(hx:Sound H w b mg mb n x)(hy:Sound H w b mg mb n y):Sound H w b mg mb n (.fq x y):=by
 refine Sound.inl (λu' nm sc e U' cm bV hk hg hb=>?_) λO O O=>X;revert U';refine pU (λl r hv U'=>?_);obtain⟨p,rfl⟩:=su hv;revert U';refine dI (λu hu U'=>?_);refine cz (Nv hu) λp2 aL=>?_;clear hv hu;subst aL;refine H9 U' λY L=>?_;have h1:=(hy u' nm sc (.inl u) L cm.2 bV hk hg hb).1;have iv:VS H w b n u' sc (.fq x y) (.Subscript l (.Slice (f u) V V p2) p):=by intro A E s D N T' C z Q hA I hc aN K;revert aN;exact aM (λs1 a e1=>aM (λs2 c e2 aN=>Subscript_ (((hx u' nm sc (.inl l) Y cm.1 bV hk hg hb).1) A E s D N s1 C a _ hA I hc e1 λu t1 cR I1 S1 r1=>zO (h1 A E t1 cR s1 s2 C c _ hA I1 (hc.bl I S1) e2 λu2 t2 gH I2 S2 r2=>cy (JJ hA.a I2 (I1.rep S2 aX.nil r1) r2 aN (K.after (S1.trans S2)))))))
 exact⟨iv,TS.qx iv X⟩
theorem NA:∀(es:dD) (as:CE) (N T':St) (C Z:al),eH as nm sc (.inr es)=R->ev as N C=f (T',.tup Z)->Z.length=es.length:=λw'=>by induction w' with|nil=>(intro as N T' C Z h he;cases as with|nil=>dsimp only[ev]at he;rw[dN,rP,AV.tup.injEq]at he;exact dR he.2 X|_=>exact fT h)|cons e es ih=>intro as N T' C Z h he;cases as with|cons x r=>dsimp only[eH]at h;simp only[jb]at h;revert he;refine aM (λs1 a e1=>qK (λs2 ys e2 he=>?_));simp only[dN,rP,AV.tup.injEq]at he;simp only[<-he.2,fD,fD,ih r s1 s2 C ys h.2 e2]|_=>exact fT h
theorem FZ(B:Sound H w b mg mb n as):Sound H w b mg mb n (.bc as):=by
 refine Sound.inl (λu' nm sc e U' cm bV hk hg hb=>?_) λO O O=>X;revert U';refine Ij (λes hv U'=>?_);refine gx (Iz hv) λk p fJ=>?_;clear hv;subst fJ;rw[jb,CH]at U';have iv:VS H w b n u' sc (.bc as) (.Tuple es k p):=by intro A E s D N T' C z Q hA I hc aN K;revert aN;refine qK (λs1 Z e1 aN=>?_);revert K;refine gI aN ?_;intro K;refine wpAny_Tuple ((B u' nm sc (.inr es) U'.2 cm bV hk hg hb) A E s D N s1 C Z p _ hA I hc e1 λM t1 cR I1 S1 r1=>⟨?_,(K.after S1).tuple I1 r1⟩);refine J r1.length (J (NA es as N s1 C Z U'.2 e1) (J wy ?_));lia
 exact⟨iv,TS.qx iv X⟩
theorem oX(h:jj N o=f (T',z)):N.push o=f T'/\z=.ref N.n:=by revert h;exact dv (λs' e h=>gI h ⟨e,X⟩)
theorem Kl(B:Sound H w b mg mb n as):Sound H w b mg mb n (.lst as):=by
 refine Sound.inl (λu' nm sc e U' cm bV hk hg hb=>?_) λO O O=>X;revert U';refine Ij (λes hv U'=>?_);refine cz (Rg hv) λp aL=>?_;clear hv;subst aL;rw[jb,CH]at U';have iv:VS H w b n u' sc (.lst as) (.List es p):=by intro A E s D N T' C z Q hA I hc aN K;revert aN;refine qK (λs1 Z e1 aN=>?_);obtain⟨hp,Vy⟩:=oX aN;clear aN;subst Vy;refine wpAny_List ((B u' nm sc (.inr es) U'.2 cm bV hk hg hb) A E s D N s1 C Z p _ hA I hc e1 λM t1 cR I1 S1 r1=>⟨?_,(K.after S1).mM hp I1 r1 X⟩);refine J r1.length (J (NA es as N s1 C Z U'.2 e1) (J wy ?_));lia
 exact⟨iv,TS.qx iv X⟩
theorem DG:Sound H w b mg mb n .gz:=by
 refine Sound.inl (λu' nm sc e U' cm bV hk hg hb=>?_) λO O O=>X;dsimp only[eH]at U';refine cz (J7 U') λp aL=>?_;clear U';subst aL;have iv:VS H w b n u' sc .gz (.Dict [] [] p):=by intro A E s D N T' C z Q hA I hc aN K;dsimp only[ev]at aN;obtain⟨hp,Vz⟩:=oX aN;clear aN;subst Vz;refine wpAny_Dict_empty ?_;have hd:=nA (w:=w) s.heap;have vs:=I.alloc (t:=s.toks) (λc ob e=>kC _ e) (dJ _) I.low (fL _ I.low) (DictOfH.cls hd) hp λht hq=>⟨[],hd,X⟩;exact K _ _ _ vs.1 vs.2.1 (bB.ref vs.2.2)
 exact⟨iv,TS.qx iv X⟩
theorem DH(hx:Sound H w b mg mb n x)(hy:Sound H w b mg mb n y):Sound H w b mg mb n (.kX x y):=by
 refine Sound.inl (λu' nm sc e U' cm bV hk hg hb=>?_) λO O O=>X;revert U';refine pU (λl r hv U'=>?_);obtain⟨p,ac7⟩:=J8 hv;clear hv;subst ac7;refine H9 U' λY L=>?_;have aj:=(hx u' nm sc (.inl l) Y cm.1 bV hk hg hb).1;have h1:=(hy u' nm sc (.inl r) L cm.2 bV hk hg hb).1
 have iv:VS H w b n u' sc (.kX x y) (.Dict [f l] [r] p):=by
  intro A E s D N T' C z Q hA I hc aN K;refine ia λGq zq=>?_;revert aN;refine qK (λs1 kt e1=>aM (λs2 c e2=>fx (λks ek aN=>?_)));obtain⟨hp,VA⟩:=oX aN;clear aN;subst VA;have hd:=nA (w:=w) s.heap;refine zq ?_;clear zq;have M0:=I.more (h':=s.heap.push {cls:=.type "dict",data:=.dict #[]}) (t:=s.toks) (λc ob e=>kC _ e) (fL _ I.low);have jo:=dJ s.heap;have hD0:s.heap.objs.size∉D:=λm=>by refine ah (I.cls _ m) λob Dg O=>?_;rw[jo]at Dg;exact nS Dg
  have QC:b.heap.get? s.heap.objs.size=V:=by cases q:b.heap.get? s.heap.objs.size with|none=>rfl|some o=>rw[I.keep _ _ q]at jo;exact sN jo
  refine wpAny_Dict_any X X (by simp) (by exact iD _) (evalPairs_cons (aj A E _ D N s1 C _ _ hA M0.1 (hc.bl I M0.2) e1 λu t1 cR I1 S1 r1=>aU (h1 A E t1 cR s1 s2 C c _ hA I1 ((hc.bl I M0.2).bl M0.1 S1) e2 λu2 t2 gH I2 S2 r2=>aU (zH (cy (evalPairs_nil ?_))))));have S02:=S1.trans S2;refine ah (DictOfH.cls hd) λob Dg O=>?_;have hD2:s.heap.objs.size∉gH:=jK S02 hD0 Dg;have hd2:t2.heap.DictOfH (tk H w) s.heap.objs.size []:=by obtain⟨o,es,ep,g1,g2,g3,g4,g5,g6⟩:=hd;exact YN o es ep (S02.fr _ o hD0 (λm=>nomatch m) g1) g2 g3 g4 (λx hx=>nomatch hx) g6
  have r1':=I1.rep S2 aX.nil r1;rw[ic ek]at r1';refine ah (g7 (w:=w) r1') λka bK hka=>?_;clear r1 r1';subst bK;show b_ _ _ (forIn [(F_ ka,u2)] PUnit.unit λ(x:aY × aY) (_:PUnit)=>(do dictSet s.heap.objs.size x.1 x.2;pure (n_ PUnit.unit):Sem (ForInStep PUnit))) _ _ t2;refine J (CT _ _ _ _) (aU (aU (wpAny_dictSet_heap (Ip hA.a) hka hd2 (λh' uW Fi=>?_) (by refine J wy ?_;exact jP _))));refine cy ?_;dsimp only;refine J HM (cy ?_);have ZL:aX [s.heap.objs.size] t2.heap:=aX.of λa B o ho Z n=>by rw[az]at B;subst B;obtain⟨o',_,_,g1,_,g3,_⟩:=hd2;rw[g1]at ho;obtain rfl:=aw ho;exact J g3 (λe=>nomatch e)
  have M3:=I2.quiet (F':=[s.heap.objs.size]) (h':=h') (t:=t2.toks+(tk H w).draws ks) (λa o Y L=>(Fi.2 a λq=>Y (by simp[q])).trans L) ZL (λa B=>by rw[az]at B;subst B;exact hD2)
   (λa B=>by rw[az]at B;subst B;exact QC) (λa B o O=>by
    rw[az]at B;subst B;refine ah (DictOfH.cls uW) λob' h' O=>?_
    exact⟨ob',h'⟩) (by exact J Fi.1 I2.low)
  have hkv:cL b.heap h' gH [(ks,c)] (storedH [] ks ka u2):=by
   have:cL b.heap t2.heap gH [] []:=X
   exact(this.store rV ks ka r2).mono (I2.gK M3.2 ZL) eS
  have M4:=M3.1.adopt (DictOfH.cls uW) hD2 QC (uJ (rU I.low)) hp ⟨_,uW,hkv⟩;exact K _ _ _ M4.1 (((((M0.2.trans S02).weaken (λO m=>nomatch m) (λa B=>by rw[az]at B;subst B;exact hD0)).trans M3.2).forget λa B=>by rw[az]at B;subst B;exact jo).adopt I M3.1 jo hp) (bB.ref M4.2)
 exact⟨iv,TS.qx iv X⟩
end
theorem lh:∀(C:al) (i:a_) (v:AV),(aE C i v).length=C.length:=λw'=>by induction w' with|nil=>intro O O;exact X|cons x C ih=>intro z1;cases z1 with|zero=>intro O;exact X|succ i=>intro v;dsimp only[aE];simp[ih i v]
theorem fi:∀(is:cf) (Z C bh:al),bindL is Z C=f bh->bh.length=C.length/\Z.length=is.length/\∀ j,j∉is->ao bh j=ao C j:=λw'=>by induction w' with|nil=>(intro z1;cases z1 with|nil=>intro C bh h;(dsimp only[bindL]at h;rw[dN]at h);subst h;simp|cons O O=>intro C bh h;exact nS h)|cons i is ih=>intro z1;cases z1 with|nil=>intro C bh h;exact nS h|cons x Z=>intro C bh h;dsimp only[bindL]at h;refine dF (ih Z _ bh h) λY L h3=>?_;refine qH (Y.trans (lh _ _ _)) (by simp[L]) (λj hj=>?_);rw[aT,wx]at hj;exact J (h3 j hj.2) (J (dh _ _ _ _) (J (ak (kx hj.1)) X))
theorem mQ:∀(is:cf) (Z C bh:al),bindL is Z C=f bh->is.Nodup->∀(k i:a_) (x:AV),is[k]?=f i->Z[k]?=f x->ao bh i=if i<C.length then x else .ub:=λw'=>by induction w' with|nil=>intro O O O O O k i x h O;exact nS h|cons i is ih=>intro z1;cases z1 with|nil=>intro O O O O k i x O h;exact nS h|cons x Z=>intro C bh h hn k j y Y L;dsimp only[bindL]at h;rw[gw]at hn;refine dF (fi is Z _ bh h) λg1 g2 g3=>?_;cases k with|zero=>simp at Y L;subst Y L;exact J (g3 i hn.1) (J (dh _ _ _ _) (J (ai X) X))|succ k=>exact J (ih Z _ bh h hn.2 k j y (by simpa using Y) (by simpa using L)) (J (lh _ _ _) X)
def zW(a c:al):Prop:=∀ j,ao a j=ao c j
theorem yY(Y:bindL is Z C=f a)(L:bindL is.reverse Z.reverse C=f c)(hn:is.Nodup):zW a c:=by
 intro j;refine dF (fi _ _ _ _ Y) λg1 g2 g3=>dF (fi _ _ _ _ L) λk1 k2 k3=>?_;by_cases hj:j∈is
 .obtain⟨k,hk⟩:=L0 hj;have iQ:k<is.length:=(mi.mp hk).1;have hx:Z[k]?=f Z[k]:=lJ (J g2 iQ);refine J (mQ _ _ _ _ Y hn k j _ hk hx) ((mQ _ _ _ _ L ((List.reverse_perm is).nodup_iff.mpr hn) (is.length-1-k) j Z[k] ?_ ?_).symm)
  .refine J (Jz (Mm iQ)) ?_;exact J (Tn iQ) hk
  .rw[Jz (J g2 (Mm iQ))];exact J (show Z.length-1-(is.length-1-k)=k from J g2 (Tn iQ)) hx
 .exact J (g3 j hj) (J (k3 j (by simpa using hj)) X)
theorem xe:∀(is:cf) (Z C:al),Z.length=is.length->∃ a,bindL is Z C=f a:=λw'=>by induction w' with|nil=>(intro z1;cases z1 with|nil=>intro C O;exact⟨C,X⟩|cons O O=>intro O h;cases h)|cons i is ih=>intro z1;cases z1 with|nil=>(intro O h;cases h)|cons x Z=>intro C h;exact ih Z (aE C i x) (by simpa using h)
section
variable{w:dc}{b s s':aJ}{D b9 F':cc}{N T':St}{A:da}{E:cM}{u':r?}{sc:SC}{C bh:al}
theorem ER.weaken(hc:ER b u' sc C s D)(h:∀ x i,(x,i)∈sc->(ao bh i).Dy=N'->ao bh i=ao C i):ER b u' sc bh s D:=
 ⟨hc.kind,hc.glob,hc.bi,by
  refine ah (hc.ns) λm hm hr=>?_;refine aK m hm (λx i Y L h3=>?_);have e:=h x i Y h3;rw[e]at h3 ⊢
  exact hr x i Y L h3,λx c U'=>by
  refine ah (hc.cells x c U') λu hu hr=>?_;refine aK u hu (λi Y L h3=>?_);have e:=h x i Y h3;rw[e]at h3 ⊢
  exact hr i Y L h3,hc.kinds,hc.nG,hc.rf,hc.apart,hc.slots,hc.names,hc.debug⟩
theorem ER.same(hc:ER b u' sc C s D)(h:zW bh C):ER b u' sc bh s D:=hc.weaken λx i O O=>h i
structure DI(u':r?)(F':cc)(ns:d_ o_):Prop where
 sub:∀ a∈F',a=u'.locals\/∃ x,u'.cells.lookup x=f a
 loc:u'.locals∈F'
 VY:∀ n∈ns,u'.kindOf n=f .cell->∀ c,u'.cells.lookup n=f c->c∈F'
theorem DI.ok(W:DI u' F' ns)(hc:ER b u' sc C s D):aX F' s.heap:=aX.of λa B o ho Z n=>by
 rcases W.sub a B with rfl|⟨x,hx⟩
 .refine ah (hc.uZ) λo' Y L=>?_;rw[Y]at ho;obtain rfl:=aw ho;exact L Z n
 .refine ah (hc.qN hx) λo' Y L=>?_;rw[Y]at ho;obtain rfl:=aw ho;exact L Z n
theorem DI.out(W:DI u' F' ns)(hc:ER b u' sc C s D):∀ a∈F',a∉D:=λa B=>by
 rcases W.sub a B with rfl|⟨x,hx⟩
 .exact hc.nG.1
 .exact(hc.rf x a hx).1
def DJ(u':r?)(K':aY->Sem j?)(n:o_):Prop:=∀(vs:Model) (A:da) (E:cM) (s:aJ) (v:aY) (Q:j?->aJ->Prop),b_ vs A (storeName u' n v) Q E s->b_ vs A (K' v) Q E s
theorem zX:∀(fs:d_ (aY->Sem j?)) (ns:d_ o_) (is:cf) (Z:al) (M:dG) (s:aJ) (C bh:al),fs.length=ns.length->(∀ p∈fs.zip ns,DJ u' p.1 p.2)->(∀ p∈ns.zip is,p∈sc)->ns.length=is.length->DI u' F' ns ->
  aG b.heap s.heap D Z M->bindL is Z C=f bh->Inv H w b s D N->ER b u' sc C s D->∀(Q:j?->aJ->Prop),(∀ s',Inv H w b s' D N->ER b u' sc bh s' D->dB F' s s' D D N N->(∀ a o,a∉F'->s.heap.get? a=f o->s'.heap.get? a=f o)->Q () s') ->
  b_ (c_ H w) A (assignInOrder fs M) Q E s:=by
 intro w';induction w' with|nil=>(intro ns is Z M s C bh Y O O L O hr hb I hc Q K;cases ns with|cons n ns=>(cases Y)|nil=>cases is with|cons i is=>(cases L)|nil=>cases Z with|cons x Z=>exact nS hb|nil=>dsimp only[aG]at hr;subst hr;dsimp only[bindL]at hb;rw[dN]at hb;subst hb;exact cy (K s I hc (dB.refl _ _ _ _) λO O O e=>e))|cons K' fs ih=>intro ns is Z M s C bh Y hf hm L W hr hb I hc Q K;cases ns with|nil=>simp at Y|cons n ns=>cases is with|nil=>simp at L|cons i is=>cases Z with|nil=>exact nS hb|cons x Z=>dsimp only[aG]at hr;obtain⟨v,r,eE,hv,hrs⟩:=hr;subst eE;dsimp only[bindL]at hb;exact aU (oj (hf (K',n) (by exact aQ) _ _ _ _ _ _ (hc.store I (hm (n,i) (by exact aQ)) hv W.loc (λhk c U'=>W.VY n aQ hk c U') (W.out hc) λs1 I1 R1 S1 ZM=>ih ns is Z r s1 (aE C i x) bh (by simpa using Y) (λp hp=>hf p (by simp[hp])) (λp hp=>hm p (by simp[hp])) (by simpa using L) ⟨W.sub,W.loc,λm hm'=>W.VY m (bg _ hm')⟩ (I.Fx S1 (W.ok hc) hrs) hb I1 R1 Q λs2 I2 R2 S2 ZN=>K s2 I2 R2 (S1.trans S2) λa o Y L=>ZN a o Y (ZM a o Y L))))
theorem oY:∀(es:dD) (ns:d_ o_),namesOf es=f ns->((v? es u').map (·.2)).length=ns.length/\(∀ p∈((v? es u').map (·.2)).zip ns,DJ u' p.1 p.2)/\(v? es u').findIdx? (·.1)=V/\(v? es u').length=es.length/\ns.length=es.length:=λw'=>by induction w' with|nil=>intro ns h;(dsimp only[namesOf]at h;rw[dN]at h);subst h;(exact Tq X (λO m=>nomatch m) X X X)|cons e es ih=>
  intro ns h;revert h
  .refine Il (λx hx=>Ii (λr hr h=>?_));obtain⟨p,iA⟩:=lg hx;clear hx;subst iA;simp only[dN]at h;subst h;refine Tj (ih r hr) λY L h3 h4 h5=>?_;have e:v? (.Name x p::es) u'=(N',assign (.Name x p) u')::v? es u':=X;refine J e ?_;refine Tq (by simp[<-Y]) (λq hq=>?_) ?_ (by simp[h4]) (by simp[h5])
   .simp only[bW,uQ]at hq;rcases aT.mp hq with j5|hq
    .clear hq;subst j5;exact λvs A E s v Q h=>Me h
    .exact L q hq
   .refine J List.findIdx?_cons ?_;simp[h3]
theorem u9(I:Inv H w b s D N)(hx:V? s.heap.objs.size s.heap h'):∀ a o,s.heap.get? a=f o->h'.get? a=f o:=λa o e=>hx a o (jg (mF e)) e
theorem tN(h:dr is v C=f bh):(∃ i,is=[i]/\bh=aE C i v)\/∃ Z,v=.tup Z/\bindL is Z C=f bh/\∀ t,dr is v t=bindL is Z t:=by
 rcases is with _|⟨i,_|⟨j,is⟩⟩
 .cases v<;>first|exact nS h|exact .inr ⟨_,X,h,λO=>X⟩
 .exact .inl ⟨i,X,(aw h).symm⟩
 .cases v<;>first|exact nS h|exact .inr ⟨_,X,h,λO=>X⟩
theorem tO(hh:A.handled=V)(ht:eK t=f tn)(hl:tn.length=C'.length)(hm:∀ p∈tn.zip C',p∈sc)(W:DI u' F' tn)(hb:dr C' x C=f bh)(I:Inv H w b s D N)(hc:ER b u' sc C s D)(rv:bB b.heap s.heap D x v) {Q:j?->aJ->Prop} (K:∀ s',Inv H w b s' D N->ER b u' sc bh s' D->dB F' s s' D D N N->(∀ a o,a∉F'->s.heap.get? a=f o->s'.heap.get? a=f o)->Q () s'):b_ (c_ H w) A (assign t u' v) Q E s:=by
 dsimp only[eK]at ht;revert ht;refine Vn (λx hx ht=>?_) (Qv (λes he ht=>?_))
 .obtain⟨p,mj⟩:=lg hx;clear hx;subst mj;simp only[dN]at ht;subst ht
  match C',hl with|[i],O=>dsimp only[dr]at hb;rw[dN]at hb;subst hb;exact Me (hc.store I (hm (x,i) (by exact aQ)) rv W.loc (λhk c U'=>W.VY x (by exact aQ) hk c U') (W.out hc) λs1 I1 R1 S1 k1=>K s1 I1 R1 S1 k1)
 .obtain⟨k,p,oN⟩:=Iz he;clear he;subst oN;revert ht;refine aZ (λL ht=>?_) nS;refine Tj (oY (u':=u') es tn ht) λg1 g2 g3 g4 g5=>?_;have htg:2<=C'.length:=by(refine dR hl (J g5 ?_));exact L
  have X9:∃ Z,x=.tup Z/\bindL C' Z C=f bh:=by
   rcases tN hb with ⟨i,rfl,_⟩|⟨Z,rfl,hb,_⟩
   .exact g_ htg (by decide:¬ 2<=1)
   .exact aK _ X hb
  obtain⟨Z,qv,X9⟩:=X9;clear hb;subst qv;refine aW (rv.bD) λa M aL tt q=>?_;clear rv;subst aL;have hxl:Z.length=C'.length:=(fi _ _ _ _ X9).2.1;refine wpAny_assign_Tuple hh tt (by simp only[g4,dX,q.length,hxl,<-hl,g5]) g3 λh' hx=>?_;have hk:=u9 I hx;have vs:=I.more (t:=s.toks) hk (I.gZ hk);refine zX _ tn C' Z M _ C bh g1 g2 hm hl W (I.Fx vs.2 aX.nil q) X9 vs.1 (hc.bl I vs.2) Q λs2 I2 R2 S2 k2=>K s2 I2 R2 ((vs.2.weaken (λO m=>nomatch m) (W.out hc)).trans S2) λa o Y L=>k2 a o Y (hk a o L)
end
structure jk(H:z_)(w:dc)(b:aJ)(A:da)(target:av)(it:bU)(fp wr F':cc)(Z:al)(hs:cE)(mD:cc)(St:a_->cE->Prop)(s1:aJ)(σs:Mine.Internal.St)(lk:af a_):Prop where
 T:Turn H w A target it fp wr Z.length (λi v h=>∃ x,Z[i]?=f x/\Be b.heap hs mD h x v) St
 I1:Inv H w b s1 mD σs
 tup:∀ a B',hs.IsTuple a B'->s1.heap.IsTuple a B'
 Ya:∀ a∈wr,a∉mD/\b.heap.get? a=V/\∃ o,s1.heap.get? a=f o
 Km:∀ a∈F',a∉wr/\a∉mD/\∃ o,s1.heap.get? a=f o
 fpO:∀ a∈fp,a∈wr\/(∃ B',hs.IsTuple a B')\/∃ n,lk=f n/\mD[n]?=f a
 lkO:∀ n,lk=f n->σs.flag n=R
 live:∀ i h,St i h->∀ a∈wr,∃ o M,h.get? a=f o/\o.data=.fields M
section
variable{w:dc}{b s s1 s':aJ}{D mD b9 F' fp wr:cc}{N σs τ kP:St}{A:da}{E:cM}{u':r?}{sc:SC}{C bh:al}{target:av}{it:bU}{Z:al}{hs:cE}{St:a_->cE->Prop}{lk:af a_}
theorem Inv.kept(I:Inv H w b s D N){t:Tok}(hk:∀ a o,a∉F'->s.heap.get? a=f o->h'.get? a=f o)(ok:aX F' s.heap)(hr:∀ a∈F',a∉D)(hb:∀ a∈F',b.heap.get? a=V)(iN:i_<h'.objs.size) :
  Inv H w b {s with heap:=h',toks:=t} D N:=by
 have ht:∀ c B',s.heap.IsTuple c B'->h'.IsTuple c B':=λc B' t=>ah t λo Y L=>⟨o,hk c o (λm=>ok c m B' t) Y,L⟩;refine gx (I.same) λh t' fJ=>?_;clear ok;subst fJ;refine⟨⟨h',t,X⟩,λa o e=>hk a o (λm=>by rw[hb a m]at e;exact nS e) (I.keep a o e),iN,I.yF,I.len,I.nodup,I.fresh,λa m=>?_,λi e he=>?_⟩
 .refine ah (I.cls a m) λo ho U'=>?_;exact aK o (hk a o (λq=>hr a q m) ho) U'
 .refine ah (I.obj i e he) λa Y L=>?_;exact aK a Y (L.keeps ht eS λob ho=>hk a ob (λq=>hr a q (dU Y)) ho)
theorem ER.kept(hc:ER b u' sc C s D){t:Tok}(hk:∀ a o,a∉F'->s.heap.get? a=f o->h'.get? a=f o)(ok:aX F' s.heap)(hL:u'.locals∉F')(hC:∀ x c,u'.cells.lookup x=f c->c∉F'):ER b u' sc C {s with heap:=h',toks:=t} D where
 kind:=hc.kind
 glob:=hc.glob
 bi:=hc.bi
 ns:=by have ht:∀ c B',s.heap.IsTuple c B'->h'.IsTuple c B':=λc B' t=>ah t λo Y L=>⟨o,hk c o (λm=>ok c m B' t) Y,L⟩;refine ah (hc.ns) λm hm h=>?_;refine aK m (Ns.kept hm λo e=>hk _ o hL e) (λx i Y L h3=>?_);exact ah (h x i Y L h3) λu h4 h5=>aK u h4 (h5.mono ht eS)
 cells:=λx c U'=>by have ht:∀ c B',s.heap.IsTuple c B'->h'.IsTuple c B':=λc B' t=>ah t λo Y L=>⟨o,hk c o (λm=>ok c m B' t) Y,L⟩;refine ah (hc.cells x c U') λu hu h=>?_;refine aK u (IsCell.kept hu λo e=>hk _ o (hC x c U') e) (λi Y L h3=>?_);exact ah (h i Y L h3) λw h4 h5=>aK w h4 (h5.mono ht eS)
 kinds:=hc.kinds
 nG:=hc.nG
 rf:=hc.rf
 apart:=hc.apart
 slots:=hc.slots
 names:=hc.names
 debug:=hc.debug
theorem dB.past(S:dB (F'++wr) s1 s mD D σs τ)(hk:∀ a o,a∉wr->s.heap.get? a=f o->s2.heap.get? a=f o)(h01:∀ a o,Rj.heap.get? a=f o->s1.heap.get? a=f o)(tJ:∀ a∈wr,Rj.heap.get? a=V)(yN:∀ a∈F',a∈Nq\/Rj.heap.get? a=V) (wW:∀ a∈Nq,a∈F'/\a∉wr) (hl:∀(i:a_) a,mD[i]?=f a->a∉wr):dB Nq Rj s2 mD D σs τ:=by
 refine⟨S.pre,λa B=>?_,λa o Y L h3=>?_,S.flags,λi a o Y L h3=>?_,λa B o ho=>?_⟩
 .rcases S.new a B with h|h
  .exact .inl h
  .right;cases q:Rj.heap.get? a with|none=>rfl|some o=>rw[h01 a o q]at h;exact sN h
 .have hw:a∉wr:=λm=>by rw[tJ a m]at h3;exact nS h3
  refine hk a o hw (S.fr a o Y (λm=>?_) (h01 a o h3));rcases fG.mp m with m|m
  .rcases yN a m with q|q
   .exact L q
   .rw[q]at h3;exact nS h3
  .exact hw m
 .exact hk a o (hl i a Y) (S.lock i a o Y L (h01 a o h3))
 .obtain⟨Y,L⟩:=wW a B;obtain⟨o',qw⟩:=S.Dd a (uN _ Y) o (h01 a o ho);exact⟨o',hk a o' L qw⟩
theorem jk.zY(h2:jk H w b A target it fp wr F' Z hs mD St s1 σs lk)(S:dB (F'++wr) s1 s mD D σs τ)(h:a∈wr):a∉D:=by obtain⟨Y,_,o,L⟩:=h2.Ya a h;exact jK S Y L
theorem jk.ownOut(h2:jk H w b A target it fp wr F' Z hs mD St s1 σs lk)(S:dB (F'++wr) s1 s mD D σs τ)(h:a∈F'):a∉D:=by obtain⟨_,Y,o,L⟩:=h2.Km a h;exact jK S Y L
theorem jk.Bu(h2:jk H w b A target it fp wr F' Z hs mD St s1 σs lk)(st:St i h):aX wr h:=aX.of λa B o ho Z n e=>by refine eD (h2.live i h st a B) λo' M Y L=>?_;rw[Y]at ho;obtain rfl:=aw ho;rw[L]at e;cases e
theorem jk.frame(h2:jk H w b A target it fp wr F' Z hs mD St s1 σs lk)(st:St j s.heap)(I:Inv H w b s D τ)(S:dB (F'++wr) s1 s mD D σs τ)(S2:dB F' s s' D b9 τ kP)(ok:aX (F'++wr) s1.heap)(ok2:aX F' s.heap):St j s'.heap:=by
 refine h2.T.frame j _ _ st λa B o ho=>?_;rcases h2.fpO a B with h|⟨B',h⟩|⟨n,Y,L⟩
 .exact S2.fr a o (h2.zY S h) (λm=>(h2.Km a m).1 h) ho
 .have t1:=h2.tup a B' h;have t2:=h2.I1.gK S ok a B' t1;exact S2.fr a o (I.AU t2) (λm=>ok2 a m B' t2) ho
 .refine S2.lock n a o (vV S.pre L) ?_ ho;refine J (S.flags n (mi.mp L).1) ?_;exact h2.lkO n Y
theorem jk.next(h2:jk H w b A target it fp wr F' Z hs mD St s1 σs lk)(hi:i<Z.length)(st:St i s.heap)(I:Inv H w b s D τ)(S:dB (F'++wr) s1 s mD D σs τ)(ok:aX (F'++wr) s1.heap){Q:af aY->aJ->Prop}(k:∀ v cV x,Z[i]?=f x->(∀(Q':j?->aJ->Prop) (E':cM),(∀ s2,Inv H w b s2 D τ->dB wr s s2 D D τ τ->dB (F'++wr) s1 s2 mD D σs τ->St (i+1) s2.heap->bB b.heap s2.heap D x v->(∀ a o,a∉wr->s.heap.get? a=f o->s2.heap.get? a=f o)->Q' () s2) ->
   b_ (c_ H w) A (t_ target (.ref it) v) Q' E' cV)->Q (f v) cV):b_ (c_ H w) A (K_ (.ref it)) Q E s:=by
 refine h2.T.turn i s Q E hi st λv cV VZ=>k v cV Z[i] (lJ hi) λQ' E' yO=>VZ Q' E' λh' tk hP oS hk=>?_;obtain⟨x,hx,ZO⟩:=hP;rw[lJ hi]at hx;obtain rfl:=aw hx;have V0:=h2.Bu st;have Bv:∀ a∈wr,b.heap.get? a=V:=λa B=>(h2.Ya a B).2.1;have iN:i_<h'.objs.size:=pV I.yF λa o e=>hk a o (λm=>by rw[Bv a m]at e;exact nS e) (I.keep a o e);have vs:=I.quiet (F':=wr) (h':=h') (t:=tk) (λa o Y L=>hk a o Y L) V0 (λa B=>h2.zY S B) Bv (λa B o O=>eD (h2.live _ _ oS a B) λo' O Y O=>⟨o',Y⟩) iN
 have S':dB (F'++wr) s1 {s with heap:=h',toks:=tk} mD D σs τ:=S.trans (vs.2.weaken (λa B=>HQ _ B) λa B=>by
  rcases fG.mp B with h|h
  .exact h2.ownOut S h
  .exact h2.zY S h)
 refine yO _ vs.1 vs.2 S' oS (ZO.rep (λa B' t=>?_) S.pre) hk;exact h2.I1.gK S' ok a B' (h2.tup a B' t)
theorem jk.done(h2:jk H w b A target it fp wr F' Z hs mD St s1 σs lk)(st:St Z.length s.heap)(I:Inv H w b s D τ)(S:dB (F'++wr) s1 s mD D σs τ){Q:af aY->aJ->Prop}(k:∀ h' tk,Inv H w b {s with heap:=h',toks:=tk} D τ->(∀ a o,a∉wr->s.heap.get? a=f o->h'.get? a=f o)->Q V {s with heap:=h',toks:=tk}):b_ (c_ H w) A (K_ (.ref it)) Q E s:=by
 refine h2.T.done s Q E st λh' tk hk=>?_;have Bv:∀ a∈wr,b.heap.get? a=V:=λa B=>(h2.Ya a B).2.1;have iN:i_<h'.objs.size:=pV I.yF λa o e=>hk a o (λm=>by rw[Bv a m]at e;exact nS e) (I.keep a o e);exact k h' tk (I.kept hk (h2.Bu st) (λa B=>h2.zY S B) Bv iN) hk
theorem yZ{ifs:dD}{BODY:Sem PUnit}{hc:Result->aJ->Prop}(heq:e? e d tP G' aV=(do
   u0 p
   match <-K_ tP with
   |V=>pure (.done .next)
   |f v=>
    t_ target tP v
    assign target aV v
    let mut ok:=R
    for c in ifs do
     if ok then ok <-L_ c aV (H_ c aV)
    if ok then BODY
    again (.compLoop e d tP G' aV)))
  (NB:(c_ H w).den (.compLoop e d tP G' aV)=((e? e d tP G' aV).onRaise (λx=>do noteFrame x aV;W? x))) (ZQ:A.under (.compLoop e d tP G' aV)=A) (ZR:(Code.compLoop e d tP G' aV).quiet=R)
  (aa:a_->aJ->Prop)
  (turn:∀ n s,aa n s->b_ (c_ H w) A (K_ tP) (λr cV=>match r with
   |V=>hc (.ok .next) cV
   |f v=>b_ (c_ H w) A (t_ target tP v) (λO TY=>b_ (c_ H w) A (assign target aV v) (λO oR=>
     b_ (c_ H w) A (forIn ifs R λc r=>if r=R then do let ok <-L_ c aV (H_ c aV);pure (n_ ok) else pure (n_ r)) (λok oZ=>
      if ok=R then b_ (c_ H w) A BODY (λO vI=>∃ m,m<n/\aa m vI) (O? (c_ H w) A aV λe s'=>hc (.error e) s') oZ
      else ∃ m,m<n/\aa m oZ) (O? (c_ H w) A aV λe s'=>hc (.error e) s') oR) (O? (c_ H w) A aV λe s'=>hc (.error e) s') TY) (O? (c_ H w) A aV λe s'=>hc (.error e) s') cV) (O? (c_ H w) A aV λe s'=>hc (.error e) s') s)
  (n:a_) (h:aa n s):R_ (c_ H w) A (.compLoop e d tP G' aV) hc s:=by
 refine codeAny_loop ZR aa (λn s hI=>?_) n h;refine J NB (J ZQ (wpAny_noted (J heq (aU (zH (aU (om (turn n s hI) (λr cV sj=>?_) λO O h'=>h')))))));cases r with|none=>exact cy sj|some v=>refine aU (om sj (λO TY ZS=>?_) λO O h'=>h');refine aU (om ZS (λO oR VC=>aU (om VC (λok oZ ZT=>?_) λO O h'=>h')) λO O h'=>h');cases ok with|false=>exact cy ⟨X,ZT⟩|true=>exact aU (om ZT (λO vI adf=>cy ⟨X,adf⟩) λO O h'=>h')
noncomputable def qO {α:Type} (g:Mine.Internal.St->AV->α->af (Mine.Internal.St × α)):al->Mine.Internal.St->α->af (Mine.Internal.St × α)|[],s,a=>f (s,a)|x::Z,s,a=>match g s x a with|f (s',a')=>qO g Z s' a'|V=>V
theorem zZ{α:Type}{AR:cE->cc->α->Prop}{g:Mine.Internal.St->AV->α->af (Mine.Internal.St × α)}{a0 F5:α}{dZ:Mine.Internal.St}{e:av}{d:a_}{G':aY}{aV:r?}{ifs:dD}{p:Pos}{BODY:Sem PUnit}{hc:Result->aJ->Prop}(heq:e? e d (.ref it) G' aV=(do
   u0 p
   match <-K_ (.ref it) with
   |V=>pure (.done .next)
   |f v=>
    t_ target (.ref it) v
    assign target aV v
    let mut ok:=R
    for c in ifs do
     if ok then ok <-L_ c aV (H_ c aV)
    if ok then BODY
    again (.compLoop e d (.ref it) G' aV)))
  (h2:jk H w b A target it fp wr F' Z hs mD St s1 σs lk) (ok:aX (F'++wr) s1.heap) (ok2:∀ s D τ a,Inv H w b s D τ->ER b aV sc C s D->AR s.heap D a->aX F' s.heap)
  (NB:(c_ H w).den (.compLoop e d (.ref it) G' aV)=((e? e d (.ref it) G' aV).onRaise (λx=>do noteFrame x aV;W? x))) (ZQ:A.under (.compLoop e d (.ref it) G' aV)=A) (ZR:(Code.compLoop e d (.ref it) G' aV).quiet=R)
  (ZU:aV.locals∉wr) (ZV:∀ x c,aV.cells.lookup x=f c->c∉wr)
  (hAR:∀ h h' D a,AR h D a->(∀ c o,c∉wr->h.get? c=f o->h'.get? c=f o)->(∀ c B',h.IsTuple c B'->h'.IsTuple c B')->AR h' D a)
  (body:∀ x v s D τ kP a a' (Q:aJ->Prop) (E':cM),g τ x a=f (kP,a')->Inv H w b s D τ->dB (F'++wr) s1 s mD D σs τ->ER b aV sc C s D->bB b.heap s.heap D x v->AR s.heap D a ->
   (∀ s' b9,Inv H w b s' b9 kP->dB F' s s' D b9 τ kP->ER b aV sc C s' b9->AR s'.heap b9 a'->Q s') ->
   b_ (c_ H w) A (assign target aV v) (λO oR=>
     b_ (c_ H w) A (forIn ifs R λc r=>if r=R then do let ok <-L_ c aV (H_ c aV);pure (n_ ok) else pure (n_ r)) (λok oZ=>
      if ok=R then b_ (c_ H w) A BODY (λO vI=>Q vI) E' oZ else Q oZ) E' oR) E' s)
  (LM:St 0 s1.heap) (R1:ER b aV sc C s1 mD) (A1:AR s1.heap mD a0) (hf:qO g Z σs a0=f (dZ,F5))
  (K:∀ s s' b9,Inv H w b s' b9 dZ->dB (F'++wr) s1 s mD b9 σs dZ->(∀ a o,a∉wr->s.heap.get? a=f o->s'.heap.get? a=f o)->ER b aV sc C s' b9->AR s'.heap b9 F5->hc (.ok .next) s'):R_ (c_ H w) A (.compLoop e d (.ref it) G' aV) hc s1:=by
 refine yZ heq NB ZQ ZR (λk s=>∃ i D τ a,k=Z.length+1-i/\i<=Z.length/\Inv H w b s D τ/\dB (F'++wr) s1 s mD D σs τ/\ER b aV sc C s D/\AR s.heap D a/\St i s.heap/\qO g (Z.drop i) τ a=f (dZ,F5)) ?_ (Z.length+1)
  ⟨0,mD,σs,a0,X,jP _,h2.I1,dB.refl _ _ _ _,R1,A1,LM,hf⟩
 rintro k s ⟨i,D,τ,a,rfl,hi,I,S,R',A',st,jW⟩;by_cases iQ:i<Z.length
 .refine h2.next iQ st I S ok λv cV x hx VZ=>VZ _ _ λs2 I2 S2 ZX st2 rv hk=>?_;have hx':Z[i]=x:=by rw[lJ iQ]at hx;exact aw hx
  rw[Yx iQ,hx']at jW;revert jW;refine mJ (λkP a' eg jW=>?_);have V0:=h2.Bu st;have R2:=R'.step I S2 V0 ZU ZV;have A2:=hAR _ _ _ _ A' hk λc B' t=>I.gK S2 V0 c B' t;refine body x v s2 D τ kP a a' (λs5=>∃ m,m<Z.length+1-i/\∃ i D τ a,m=Z.length+1-i/\i<=Z.length/\Inv H w b s5 D τ/\dB (F'++wr) s1 s5 mD D σs τ/\ER b aV sc C s5 D/\AR s5.heap D a/\St i s5.heap/\qO g (Z.drop i) τ a=f (dZ,F5)) _ eg I2 ZX R2 rv A2 λs3 vb I3 S3 R3 A3=>?_;have adg:=ok2 s2 D τ a I2 R2 A2;refine⟨Z.length+1-(i+1),by grind,i+1,vb,kP,a',X,iQ,I3,ZX.trans (S3.weaken (λc U'=>uN _ U') λc U'=>?_),R3,A3,h2.frame st2 I2 ZX S3 ok adg,jW⟩;rcases fG.mp U' with h|h
  .exact h2.ownOut ZX h
  .exact h2.zY ZX h
 .have P9:i=Z.length:=by lia
  clear hi iQ;subst P9;rw[List.drop_length]at jW;dsimp only[qO]at jW;rw[dN,rP]at jW;obtain⟨eE,iA⟩:=jW;subst eE;clear hf;subst iA;refine h2.done st I S λh' tk I2 hk=>?_;have V0:=h2.Bu st;exact K s _ D I2 S hk (R'.kept hk V0 ZU ZV) (hAR _ _ _ _ A' hk λc B' t=>ah t λo Y L=>⟨o,hk c o (λm=>V0 c m B' t) Y,L⟩)
end
section
variable{u':r?}
theorem tQ:∀(names:d_ (o_ × s?)) (G':d_ (o_ × bU)),(∀ p∈names,p.2=.free->∃ c,u'.cells.lookup p.1=f c)->(∀ x c,G'.lookup x=f c->u'.cells.lookup x=f c) ->
  ∃ cl,(forIn names G' λ(p:o_ × s?) (cs:d_ (o_ × bU))=>(if (p.2==.free)=R then do let c <-cellOf u' p.1;pure (n_ ((p.1,c)::cs)) else pure (n_ cs):Sem (ForInStep (d_ (o_ × bU)))))=pure cl /\
   (∀ x c,cl.lookup x=f c->u'.cells.lookup x=f c)/\(∀ x,((x,E_)∈names\/(G'.lookup x).isSome)->(cl.lookup x).isSome)
 |[],G',O,L=>⟨G',by exact J HM X,L,λx h=>h.elim (λm=>nomatch m) λm=>m⟩
 |(n,k)::r,G',Y,L=>by
  refine J (CT _ _ _ _) ?_;by_cases hk:k=.free
  .subst hk;refine cz (Y (n,.free) aQ X) λc U'=>?_;have TZ:cellOf u' n=pure c:=by unfold cellOf;exact J U' X
   obtain⟨cl,g1,g2,g3⟩:=tQ r ((n,c)::G') (λp hp=>Y p (bg _ hp)) λx c' h=>by
    rw[qz]at h;revert h;refine Tx (λq h=>?_) λO h=>?_
    .have:x=n:=by simpa using q
     clear Y TZ q;subst this;obtain rfl:=aw h;exact U'
    .exact L x c' h
   refine kz cl ?_ g2 (λx hx=>g3 x ?_)
   .simp -iota only [TZ,pure_bind];exact g1
   .rcases hx with m|m
    .rcases aT.mp m with q|m
     .right;clear m;cases q;simp[qz]
     .exact .inl m
    .right;simp -iota only [qz];cases x==n
     .exact m
     .rfl
  .refine bY (tQ r G' (λp hp=>Y p (bg _ hp)) L) λcl g1 g2 g3=>?_;refine kz cl ?_ g2 (λx hx=>g3 x ?_)
   .have:(k==E_)=N':=by simpa using hk
    simp -iota only [this,LI,kS,pure_bind];exact g1
   .rcases hx with m|m
    .rcases aT.mp m with q|m
     .clear Y m;cases q;exact g_ X hk
     .exact .inl m
    .exact .inr m
theorem F6(h:∀ p∈scope.names,p.2=.free->∃ c,u'.cells.lookup p.1=f c) :
  ∃ cl,closureFor scope u'=pure cl/\(∀ x c,cl.lookup x=f c->u'.cells.lookup x=f c)/\(∀ x,(x,E_)∈scope.names->∃ c,cl.lookup x=f c):=by
 refine bY (tQ scope.names [] h (λx c e=>nomatch e)) λcl Y L h3=>?_;refine kz cl ?_ L (λx hx=>wt.mp (h3 x (.inl hx)));show(forIn scope.names [] (λ(x:o_ × s?) (r:d_ (o_ × bU))=>(match x with|(name,kind)=>if (kind==E_)=R then do let c <-cellOf u' name;pure (n_ ((name,c)::r)) else pure (n_ r):Sem (ForInStep (d_ (o_ × bU))))) >>= λs=>pure s)=pure cl;exact J (bind_pure _) Y
end
theorem js{α:Type}[DecidableEq α]:∀{l:d_ α},j7 l=R->l.Nodup:=by intro w';induction w' with|nil=>intro O;exact rV|cons x Z ih=>intro h;dsimp only[j7]at h;simp only[jb,rR,List.any_eq_false,jQ]at h;exact J (propext gw) ⟨λm=>h.1 x m X,ih h.2⟩
theorem jL:∀(is:cf) (C:al),(dS is C).length=C.length:=λw'=>by induction w' with|nil=>intro O;exact X|cons i is ih=>intro C;exact J (lh _ _ _) (J (ih C) X)
theorem bL:∀(is:cf) (C:al) (j:a_),ao (dS is C) j=if j∈is then .ub else ao C j:=λw'=>by induction w' with|nil=>intro C j;rfl|cons i is ih=>
  intro C j;refine J (dh _ _ _ _) ?_;by_cases e:i=j
  .subst e;simp
  .refine J (ak e) (J (ih C j) ?_);by_cases m:j∈is
   .simp[m]
   .simp[m,kx e]
theorem o1(hn:C'.Nodup)(h:dr C' x C=f eF):∃ Rk,dr C' x (dS C' C)=f Rk/\zW eF Rk:=by
 rcases tN h with ⟨i,rfl,rfl⟩|⟨Z,rfl,h,hb⟩
 .refine aK _ X (λj=>?_);refine J (dh _ _ _ _) (J (dh _ _ _ _) (J (jL _ _) (J (bL _ _ _) ?_)));by_cases e:i=j
  .simp[e]
  .simp[e,kx e]
 .refine dF (fi _ _ _ _ h) λg1 g2 g3=>?_;refine cz (xe C' Z (dS C' C) g2) λc U'=>?_;refine aK c ?_ (λj=>?_)
  .exact(hb _).trans U'
  .refine dF (fi _ _ _ _ U') λk1 k2 k3=>?_;by_cases hj:j∈C'
   .obtain⟨k,hk⟩:=L0 hj;have iQ:k<C'.length:=(mi.mp hk).1;have hx:Z[k]?=f Z[k]:=lJ (by omega);exact J (mQ _ _ _ _ h hn k j _ hk hx) (J (mQ _ _ _ _ U' hn k j _ hk hx) (J (jL _ _) X))
   .exact J (g3 j hj) (J (k3 j hj) (J (bL _ _ _) (J (ak hj) X)))
theorem fN{α β:Type}:∀{as:d_ α} {bs:d_ β} {p:α × β},p∈as.zip bs->∃ k:a_,as[k]?=f p.1/\bs[k]?=f p.2:=by intro w';induction w' with|nil=>intro O O h;simp at h|cons a as ih=>intro z1;cases z1 with|nil=>intro O h;simp at h|cons b bs=>
   intro p h;rw[uQ]at h;rcases aT.mp h with eE|h
   .clear h;subst eE;exact aK 0 X X
   .refine ah (ih h) λk Y L=>?_;exact aK (k+1) (by simpa using Y) (by simpa using L)
theorem DK{α:Type}{l:d_ α}(hn:l.Nodup){i j:a_}{a:α}(hi:l[i]?=f a)(hj:l[j]?=f a):i=j:=by obtain⟨Y,e1⟩:=mi.mp hi;obtain⟨L,e2⟩:=mi.mp hj;exact(UK hn).mp (e1.trans e2.symm)
structure nI(scope:I_)(nm:NM)(sc:SC)(tn:d_ o_):Prop where
 kind:scope.kind=.function
 V2:∀ y∈scope.names,y.2≠.cell
 locals:∀ y∈scope.names,y.2=.local->scope.names.lookup y.1=f .local
 Rl:∀ x∈tn,scope.names.lookup x=f .local
 nodup:tn.Nodup
 free:∀ y∈scope.names,y.2=.free->nm.lookup y.1=f .cell
 debug:∀ x∈tn,(x==("__debug__":o_))=N'
 V4:∀ y∈scope.names,y.2=.free->∃ i,(y.1,i)∈sc
theorem nJ(h:pY scope nm sc tn=R):nI scope nm sc tn:=by
 dsimp only[pY]at h;simp only[jb,mG,jQ,qr,rR,uK]at h;obtain⟨⟨⟨⟨⟨⟨⟨⟨Y,L⟩,h3⟩,h4⟩,h5⟩,h6⟩,h7⟩,h8⟩,h9⟩:=h;refine⟨Y,λy hy=>L y hy,λy hy hl=>?_,λx hx=>h4 x hx,js h5,λy hy hl=>?_,λx hx=>h8 x hx,λy hy hl=>?_⟩
 .rcases h3 y hy with q|q
  .exact g_ hl q
  .exact q
 .rcases h7 y hy with q|q
  .exact g_ hl q
  .exact q
 .rcases h9 y hy with q|q
  .exact g_ hl q
  .refine ah (LX.mp q) λz Y L=>?_;refine⟨z.2,?_⟩;exact dR (dW L) Y
structure z0(tn:d_ o_)(C':cf)(sc:SC):Prop where
 len:tn.length=C'.length
 nodup:C'.Nodup
 apart:∀ i∈C',∀ p∈sc,p.2≠i
theorem sy(h:zU tn C' sc=R):z0 tn C' sc:=by dsimp only[zU]at h;simp only[jb,mG,jQ,rR,uK]at h;exact⟨h.1.1,js h.1.2,λi hi p hp=>h.2 i hi p hp⟩
theorem lookup_mem{α β:Type}[BEq α][LawfulBEq α]:∀{l:d_ (α × β)} {a:α} {b:β},l.lookup a=f b->(a,b)∈l
 |[],O,O',h=>by exact nS h
 |(x,y)::l,a,b,h=>by
  rw[qz]at h;revert h;refine Tx (λq h=>?_) λO h=>?_
  .have:a=x:=by simpa using q
   clear q;subst this;obtain rfl:=aw h;exact aQ
  .exact bg _ (lookup_mem h)
section
variable{w:dc}{b s s1 s':aJ}{D mD b9 F' fp wr:cc}{N σs τ kP:St}{A:da}{E:cM}{u':r?}{nm:NM}{sc:SC}{C bh:al}{scope:I_}{cl:d_ (o_ × bU)}{sl:bU}{tn:d_ o_}{C':cf}
theorem jt(bV:∀ x,u'.kindOf x=nm.lookup x)(hk:u'.scope.kind=.function)(x:o_):(j_ scope cl sl u').kindOf x=(iS scope.names nm).lookup x:=by show(relabel scope u').names.lookup x=_;delta relabel iS;dsimp only;congr 1;refine YD λp O=>?_;obtain⟨n,k⟩:=p;refine J (bV n) (J hk ?_);simp
theorem kH:∀(sn:NM) (x:o_),(iS sn nm).lookup x=(sn.lookup x).map λk=>if k==.free&&nm.lookup x==f .cell then .cell else k
 |[],x=>X
 |(n,k)::r,x=>by
  dsimp only[iS];refine J bW ?_;by_cases e:x=n
  .subst e;by_cases c:(k==E_&&nm.lookup x==f NameKind.cell)=R
   .simp only[c,gv,qz,L9,zD]
   .rw[Bool.not_eq_true]at c;simp only[c,LI,kS,qz,L9,zD]
  .have hb:(x==n)=N':=by simpa using e
   have ih:=kH r x;dsimp only[iS]at ih;by_cases c:(k==E_&&nm.lookup n==f NameKind.cell)=R
   .simp only[c,gv,qz,hb];exact ih
   .rw[Bool.not_eq_true]at c;simp only[c,LI,kS,qz,hb];exact ih
theorem ER.comp(hc:ER b u' sc C s D)(bV:∀ x,u'.kindOf x=nm.lookup x)(hS:nI scope nm sc tn)(hT:z0 tn C' sc)(F7:∀ x c,cl.lookup x=f c->u'.cells.lookup x=f c)(F8:∀ x,(x,E_)∈scope.names->∃ c,cl.lookup x=f c){m:pS} (hC:s.heap.Ns sl m) (NC:sl∉D) (hCb:b.heap.get? sl=V) (hCc:∀ x c,u'.cells.lookup x=f c->c≠sl):ER b (j_ scope cl sl u') (iU scope sc tn C') (dS C' C) s D:=by
 have kd:=jt (scope:=scope) (cl:=cl) (sl:=sl) bV hc.kind
 have split:∀ x i,(x,i)∈iU scope sc tn C'->((x,i)∈tn.zip C'/\x∈tn/\i∈C')\/((x,i)∈sc/\scope.names.lookup x=f .free/\i∉C'):=λx i h=>by
  dsimp only[iU]at h;rcases fG.mp h with h|h
  .refine ah (fN h) λk Y L=>?_;exact .inl ⟨h,dU Y,dU L⟩
  .rw[UR]at h;refine .inr ⟨h.1,dW h.2,λm=>hT.apart i m _ h.1 X⟩
 have ND:∀ x,scope.names.lookup x=f .free->(j_ scope cl sl u').kindOf x=f .cell/\u'.kindOf x=f .cell:=λx h=>by have L:=hS.free (x,.free) (lookup_mem h) X;simp only[kd,kH,h,bV];simp[L]
 have ZY:∀ x,x∈tn->(j_ scope cl sl u').kindOf x=f .local:=λx h=>by refine J (kd _) (J (kH _ _) (J (hS.Rl x h) ?_));rfl
 refine⟨hS.kind,hc.glob,hc.bi,⟨m,hC,λx i Y L h3=>?_⟩,λx c U'=>?_,λx i h=>?_,⟨NC,hCb⟩,λx c U'=>?_,λx y c Y L=>hc.apart x y c (F7 x c Y) (F7 y c L),λx y i Y L=>?_,λx i j Y L=>?_,λx i h=>?_⟩
 .rcases split x i Y with ⟨_,_,g⟩|⟨_,g,_⟩
  .rw[bL,ai g]at h3;exact tF h3
  .rw[(ND x g).1]at L;cases L
 .refine ah (hc.cells x c (F7 x c U')) λu Y L=>?_;refine aK u Y (λi h3 h4 h5=>?_);rcases split x i h3 with ⟨_,g1,g2⟩|⟨g1,g2,g3⟩
  .rw[ZY x g1]at h4;cases h4
  .rw[bL,ak g3]at h5 ⊢;exact L i g1 (ND x g2).2 h5
 .rcases split x i h with ⟨_,g,_⟩|⟨_,g,_⟩
  .exact .inl (ZY x g)
  .exact .inr ⟨(ND x g).1,F8 x (lookup_mem g)⟩
 .refine dF (hc.rf x c (F7 x c U')) λg1 g2 O=>?_;exact qH g1 g2 (hCc x c (F7 x c U'))
 .rcases split x i Y with ⟨g1,_,g2⟩|⟨g1,_,g2⟩
  .rcases split y i L with ⟨k1,_,_⟩|⟨_,_,k2⟩
   .refine ah (fN g1) λp a1 a2=>?_;refine ah (fN k1) λq b1 b2=>?_;obtain rfl:=DK hT.nodup a2 b2;rw[a1]at b1;exact aw b1
   .exact g_ g2 k2
  .rcases split y i L with ⟨_,_,k2⟩|⟨k1,_,_⟩
   .exact g_ k2 g2
   .exact hc.slots x y i g1 k1
 .rcases split x i Y with ⟨g1,g2,_⟩|⟨g1,g2,_⟩
  .rcases split x j L with ⟨k1,_,_⟩|⟨_,k2,_⟩
   .refine ah (fN g1) λp a1 a2=>?_;refine ah (fN k1) λq b1 b2=>?_;obtain rfl:=DK hS.nodup a1 b1;rw[a2]at b2;exact aw b2
   .rw[hS.Rl x g2]at k2;cases k2
  .rcases split x j L with ⟨_,k2,_⟩|⟨k1,_,_⟩
   .rw[hS.Rl x k2]at g2;cases g2
   .exact hc.names x i j g1 k1
 .rcases split x i h with ⟨_,g,_⟩|⟨g,_,_⟩
  .exact hS.debug x g
  .exact hc.debug x i g
end
section
variable{w:dc}{b s s1 s':aJ}{mg mb:pS}{D mD b9 F' fp wr:cc}{N σs T' ae τ kP:St}{A:da}{E:cM}{u':r?}{nm:NM}{sc:SC}{C bh:al}{n:a_}
noncomputable def Bw:tA->e_|.enum=>R|_=>N'
theorem kY.weak(x:kY H w N' J' hs D lk Z it Y)(t:e_):kY H w t J' hs D lk Z it Y:=by obtain⟨⟨fp,wr,St,Y,r⟩,hk,hl⟩:=x;exact⟨⟨fp,wr,St,λA target hh O=>Y A target hh (λe=>nomatch e),r⟩,hk,hl⟩
theorem Bx(Y':Gx b mg mb)(j3:Sound H w b mg mb n vJ)(hs:nH nm ik i=f i')(U':eH vJ nm sc (.inl i')=R)(cm:Ok H w b mg mb n vJ)(hgi:sv mg mb ik)(bV:∀ x,u'.kindOf x=nm.lookup x)(hk:u'.scope.kind=.function) (hg:u'.globals=A_) (hb:u'.builtins=M_) (hA:DB n A) (I:Inv H w b s D N) (hc:ER b u' sc C s D) {v:AV} (aN:ev vJ N C=f (ae,v)) {Z:al} {lk:af a_} (hio:jc ae ik v=f (Z,lk)){Q:cM} (K:∀ t1 cR it Y tk,Inv H w b t1 cR ae->dB [] s t1 D cR N ae->kY H w (Bw ik) b.heap t1.heap cR lk Z it Y->Q (.ref it) {t1 with heap:=Y,toks:=tk}) :
  b_ (c_ H w) A (H_ i u') (λx cV=>b_ (c_ H w) A (U_ x) Q E cV) E s:=by
 have iv:=(j3 u' nm sc (.inl i') U' cm bV hk hg hb).1;cases ik with|plain=>dsimp only[nH,FT]at hs;rw[dN]at hs;clear U';subst hs;exact iv A E s D N ae C v _ hA I hc aN λu t1 cR I1 S1 r1=>kZ I1 r1 hio λY it W=>K t1 cR it Y t1.toks I1 S1 (W.iter.weak _)|_=>
  revert hs;refine U3 (λg a hv=>aZ (λT1 hs=>?_) nS);simp only[dN]at hs;clear U';subst hs;simp only[jb,wu]at T1;obtain⟨⟨rfl,L⟩,h3⟩:=T1;refine Ml (xc hv) λnp p a' r' e1 VX=>?_;subst VX;clear hv;cases e1;refine Call_Name X (TX Y' hk hg hb I L bV hgi (CO ?_ (aH h3) X));refine wz (iv A E s D N ae C v _ hA I hc aN λu t1 cR I1 S1 r1=>?_) (aH h3);refine zG ?_
  first
  |exact FI I1 r1 hio λY it t W=>K t1 cR it Y t I1 S1 (W.weak _)
  |exact JT I1 r1 hio λY it W=>K t1 cR it Y t1.toks I1 S1 W
  |exact Nc I1 r1 hio λY it W=>K t1 cR it Y t1.toks I1 S1 (W.weak _)
theorem gT(h:fM i=R)(x:aY):n? i u' x=pure x:=by cases i<;>first|rfl|(exact fT h)
theorem o3(h:u6 ik t=R):Bw ik=R->qZ t=R:=
 λe=>by cases ik<;>first|exact h|exact fT e
theorem sz(I:Inv H w b s D N)(h:lR N lk=f σs):Inv H w b s D σs/\(∀ m,lk=f m->σs.flag m=R)/\(∀ j,lk≠f j->σs.flag j=N.flag j)/\σs.n=N.n:=by cases lk with|none=>dsimp only[lR]at h;rw[dN]at h;subst h;exact qI I (λm e=>nomatch e) (λO O=>X) X|some i=>
  dsimp only[lR]at h;refine bY (oO h) λe Y L h3=>?_;refine qI (I.kE h) (λm hm=>?_) (λj hj=>sd ?_) L
  .obtain rfl:=aw hm;exact jU (e:=⟨R,e.obj⟩) (by exact J (h3 _) (J (ai X) X))
  .exact J (h3 _) (J (ak λq=>hj (by rw[q])) X)
theorem o5(I:Inv H w b s D N)(I2:Inv H w b s' b9 τ)(h:lR N lk=f σs)(hu:iK τ (rZ N lk) lk=f kP)(S:dB F' s s' D b9 σs τ):Inv H w b s' b9 kP/\dB F' s s' D b9 N kP:=by refine jh (sz I h) λO Kn JY hl3=>?_;cases lk with|none=>dsimp only[lR]at h;rw[dN]at h;dsimp only[iK]at hu;rw[dN]at hu;subst h hu;exact⟨I2,S⟩|some i=>
  dsimp only[iK,rZ]at hu;refine bY (oO hu) λe Y L h3=>⟨I2.kE hu,S.pre,S.new,S.fr,λj hj=>?_,λj a o g1 g2 g3=>S.lock j a o g1 ?_ g3,S.Dd⟩
  .by_cases q:j=i
   .clear h hu Kn JY Y;subst q;exact jU (e:=⟨N.flag j,e.obj⟩) (by exact J (h3 _) (J (ai X) X))
   .exact J (sd (N:=τ) (by rw[h3,ak q])) (J (S.flags j hj) (JY j λe=>q (aw e).symm))
  .by_cases q:j=i
   .clear h hu JY Y h3;subst q;exact Kn j X
   ·(refine J (JY j λe=>q (aw e).symm) ?_);exact g2
theorem dB.of_keep(hk:∀ a o,s.heap.get? a=f o->s'.heap.get? a=f o):dB [] s s' D D N N:=
 ⟨eS,λO h=>.inl h,λa o O O e=>hk a o e,λO O=>X,λO a o O O e=>hk a o e,λO m=>nomatch m⟩
theorem jk.make(hh:A.handled=V)(ZZ:tups=R->qZ target=R)(I1:Inv H w b t1 D ae)(Is:Inv H w b s4 D σs)(W:kY H w tups b.heap t1.heap D lk Z it Y)(T2:∀ a o,Y.get? a=f o->s4.heap.get? a=f o) (QV:∀ m,lk=f m->σs.flag m=R) (yN:∀ a∈F',Y.get? a=V\/(a∉D/\∃ o,t1.heap.get? a=f o)) (Z0:∀ a∈F',∃ o,s4.heap.get? a=f o) :
  ∃ fp wr St,jk H w b A target it fp wr F' Z t1.heap D St s4 σs lk/\St 0 s4.heap/\(∀ a∈wr,t1.heap.get? a=V/\∃ o,Y.get? a=f o):=by
 refine Mq λGq kq=>?_;obtain⟨⟨fp,wr,St,hT,LM,tJ,QU,NF⟩,hk,hl⟩:=W;have T:=hT A target hh ZZ;have nin:∀ a,t1.heap.get? a=V->a∉D:=λa B m=>by refine ah (I1.cls a m) λo ho O=>?_;rw[B]at ho;exact nS ho
 have nb:∀ a,t1.heap.get? a=V->b.heap.get? a=V:=λa B=>by cases q:b.heap.get? a with|none=>rfl|some o=>rw[I1.keep a o q]at B;exact sN B
 refine kq fp wr St ⟨T,Is,λa B' ⟨o,g1,g2⟩=>⟨o,T2 _ _ (hk a o g1),g2⟩,λa B=>?_,λa B=>?_,QU,QV,NF⟩ (T.frame 0 _ _ LM λa O o e=>T2 a o e) tJ
 .obtain⟨g1,o,g2⟩:=tJ a B;exact⟨nin a g1,nb a g1,o,T2 a o g2⟩
 .refine cz (Z0 a B) λo4 ho4=>?_;rcases yN a B with h|⟨h,o,ho⟩
  .refine⟨λm=>?_,nin a ?_,o4,ho4⟩
   .obtain⟨_,o,g2⟩:=tJ a m;rw[h]at g2;exact nS g2
   .cases q:t1.heap.get? a with|none=>rfl|some o=>rw[hk a o q]at h;exact sN h
  .refine⟨λm=>?_,h,o4,ho4⟩;rw[(tJ a m).1]at ho;exact nS ho
end
section
variable{w:dc}{b s s1 s':aJ}{mg mb:pS}{D mD b9 F' fp wr:cc}{N σs T' ae τ kP:St}{A:da}{E:cM}{u':r?}{nm:NM}{sc:SC}{C bh:al}{n:a_}
theorem z6{α:Type}{AR:bU->cE->cc->α->Prop}{g:Mine.Internal.St->AV->α->af (Mine.Internal.St × α)}{a0 F5:α}{dZ o6:Mine.Internal.St}{e:av}{o0:Obj}{NG:Sem aY}{target:av}{ifs:dD}{p:Pos}{BODY:aY->r?->Sem PUnit}{scope:I_}{cl:d_ (o_ × bU)}{tn:d_ o_}{C':cf}{RR:aY->bU->Result->aJ->Prop} {t1:aJ} {cR:cc} {Z:al} {lk:af a_} {it:bU} {Y:cE} {tk:Tok} {tups:e_}(jo:∀(s:aJ) (Q:cM),Q (.ref s.heap.objs.size) {s with heap:=s.heap.push o0}->b_ (c_ H w) A NG Q E s) (ho0:o0.isFreed=N') (Zv:o0.cls=.type "list"\/o0.cls=.type "dict")(adj:∀ ρ h D,h.get? ρ=f o0->AR ρ h D a0) (adk:∀ ρ h h' D a,AR ρ h D a->(∀ o,h.get? ρ=f o->h'.get? ρ=f o)->(∀ c B',h.IsTuple c B'->h'.IsTuple c B')->AR ρ h' D a) (adl:∀ ρ h D a,AR ρ h D a->∀ B',¬ h.IsTuple ρ B')(V5:∀(tP G':aY) (aV:r?) (hc:Result->aJ->Prop) (s:aJ),R_ (c_ H w) A (.compLoop e 0 tP G' aV) hc s->b_ (c_ H w) A (U_ tP) (λit' s'=>R_ (c_ H w) A (.compLoop e 0 it' G' aV) hc s') (O? (c_ H w) A aV λx s'=>hc (.error x) s') s ->
   R_ (c_ H w) A (.compStart e 0 tP G' aV) hc s)
  (heq:∀(it:bU) (G':aY) (aV:r?),e? e 0 (.ref it) G' aV=(do
   u0 p
   match <-K_ (.ref it) with
   |V=>pure (.done .next)
   |f v=>
    t_ target (.ref it) v
    assign target aV v
    let mut ok:=R
    for c in ifs do
     if ok then ok <-L_ c aV (H_ c aV)
    if ok then BODY G' aV
    again (.compLoop e 0 (.ref it) G' aV)))
  (NB:∀(it:bU) (G':aY) (aV:r?),(c_ H w).den (.compLoop e 0 (.ref it) G' aV)=((e? e 0 (.ref it) G' aV).onRaise (λx=>do noteFrame x aV;W? x))) (ZQ:∀(it:bU) (G':aY) (aV:r?),A.under (.compLoop e 0 (.ref it) G' aV)=A)
  (ZR:∀(it:bU) (G':aY) (aV:r?),(Code.compLoop e 0 (.ref it) G' aV).quiet=R)
  (hS:nI scope nm sc tn) (hT:z0 tn C' sc) (bV:∀ x,u'.kindOf x=nm.lookup x) (F7:∀ x c,cl.lookup x=f c->u'.cells.lookup x=f c) (F8:∀ x,(x,E_)∈scope.names->∃ c,cl.lookup x=f c)
  (hh:A.handled=V) (ZZ:tups=R->qZ target=R) (I1:Inv H w b t1 cR ae) (R1:ER b u' sc C t1 cR) (W:kY H w tups b.heap t1.heap cR lk Z it Y)
  (kA:lR ae lk=f σs) (jW:qO g Z σs a0=f (dZ,F5)) (rh:iK dZ (rZ ae lk) lk=f o6)
  (body:∀(sl ρ:bU),sl≠ρ->(∀ x c,cl.lookup x=f c->c≠ρ)->∀ x v s D τ kP a a' (Q:aJ->Prop) (E':cM),g τ x a=f (kP,a')->Inv H w b s D τ->ER b (j_ scope cl sl u') (iU scope sc tn C') (dS C' C) s D->bB b.heap s.heap D x v->AR ρ s.heap D a->ρ∉D->b.heap.get? ρ=V->(ρ==i_)=N' ->
   (∀ s' b9,Inv H w b s' b9 kP->dB [sl,ρ] s s' D b9 τ kP->ER b (j_ scope cl sl u') (iU scope sc tn C') (dS C' C) s' b9->AR ρ s'.heap b9 a'->Q s') ->
   b_ (c_ H w) A (assign target (j_ scope cl sl u') v) (λO oR=>
     b_ (c_ H w) A (forIn ifs R λc r=>if r=R then do let ok <-L_ c (j_ scope cl sl u') (H_ c (j_ scope cl sl u'));pure (n_ ok) else pure (n_ r)) (λok oZ=>
      if ok=R then b_ (c_ H w) A (BODY (.ref ρ) (j_ scope cl sl u')) (λO vI=>Q vI) E' oZ else Q oZ) E' oR) E' s)
  (K:∀ s2 gH ρ sl m,Inv H w b s2 gH o6->dB [] t1 s2 cR gH ae o6->ρ∉gH->t1.heap.get? ρ=V->b.heap.get? ρ=V->(ρ==i_)=N'->sl∉gH->t1.heap.get? sl=V->b.heap.get? sl=V->sl≠ρ->s2.heap.Ns sl m->AR ρ s2.heap gH F5->RR (.ref ρ) sl (.ok .next) s2) :
  b_ (c_ H w) A NG (λG' oZ=>b_ (c_ H w) A (newFunctionEnv scope u'.globals cl [] u'.qual V .none (f u')) (λaV adm=>
   R_ (c_ H w) A (.compStart e 0 (.ref it) G' {aV with scope:=relabel scope u'}) (RR G' aV.locals) adm) E oZ) E {t1 with heap:=Y,toks:=tk}:=by
 refine jo _ _ (wpAny_newFunctionEnv hS.V2 (by intro y hy;simp at hy) (λh4 NH Rm=>?_) hS.kind);dsimp only at NH Rm ⊢;have Z1:(Y.push o0).objs.size=Y.objs.size+1:=yB ..;rw[Z1]at NH Rm ⊢;show R_ (c_ H w) A (.compStart e 0 (.ref it) (.ref Y.objs.size) (j_ scope cl (Y.objs.size+1) u')) (RR (.ref Y.objs.size) (Y.objs.size+1)) {t1 with heap:=h4,toks:=tk+([]:d_ (o_ × aY)).length};have T3:h4.get? Y.objs.size=f o0:=Rm.extBut _ _ (jg (lN _)) (kC _ (j4 _ ho0));have T2:∀ a o,Y.get? a=f o->h4.get? a=f o:=λa o e=>Rm.extBut a o (jg (wm (mF e))) (kC _ (kC _ e));have V6:=W.keep;have nD:Y.get? Y.objs.size=V:=dJ _;have nC:Y.get? (Y.objs.size+1)=V:=by cases q:Y.get? (Y.objs.size+1) with|none=>rfl|some o=>exact g_ (mF q) (wo.mpr (CJ _))
 have lj:∀ a,Y.get? a=V->t1.heap.get? a=V:=λa h=>by cases q:t1.heap.get? a with|none=>rfl|some o=>rw[V6 a o q]at h;exact sN h
 have nin:∀ a,t1.heap.get? a=V->a∉cR:=λa B m=>by refine ah (I1.cls a m) λo ho O=>?_;rw[B]at ho;exact nS ho
 have nb:∀ a,t1.heap.get? a=V->b.heap.get? a=V:=λa B=>by cases q:b.heap.get? a with|none=>rfl|some o=>rw[I1.keep a o q]at B;exact sN B
 have Z2:i_<h4.objs.size:=pV I1.yF λa o e=>T2 a o (V6 a o (I1.keep a o e));have ID:∀ a o,t1.heap.get? a=f o->h4.get? a=f o:=λa o e=>T2 a o (V6 a o e);have nK:Y.objs.size+1≠Y.objs.size:=rU (lN _);have V7:((Y.objs.size:bU)==i_)=N':=uJ (rU W.low)
 have main:∀ s4:aJ,s4={t1 with heap:=h4,toks:=tk+([]:d_ (o_ × aY)).length}->R_ (c_ H w) A (.compLoop e 0 (.ref it) (.ref Y.objs.size) (j_ scope cl (Y.objs.size+1) u')) (RR (.ref Y.objs.size) (Y.objs.size+1)) s4:=by
  rintro s4 rfl;have M4:=I1.more (h':=h4) (t:=tk+([]:d_ (o_ × aY)).length) ID Z2;refine jh (sz M4.1 kA) λIs Kn JY hl3=>?_
  obtain⟨fp,wr,St,h2,LM,tJ⟩:=jk.make (F':=[Y.objs.size+1,Y.objs.size]) (target:=target) hh ZZ I1 Is W T2 Kn (λa B=>by
    rcases aT.mp B with eE|B
    .clear B;subst eE;exact .inl nC
    .rw[az]at B;subst B
     exact .inl nD) (λa B=>by
    rcases aT.mp B with iA|B
    .clear B;subst iA;obtain⟨o,_,_,ho,_⟩:=NH;exact⟨o,ho⟩
    .rw[az]at B;subst B
     exact⟨o0,T3⟩)
  have R4:ER b (j_ scope cl (Y.objs.size+1) u') (iU scope sc tn C') (dS C' C) {t1 with heap:=h4,toks:=tk+([]:d_ (o_ × aY)).length} cR:=
   (R1.bl I1 M4.2).comp bV hS hT F7 F8 NH (nin _ (lj _ nC)) (nb _ (lj _ nC)) λx c U' q=>by refine ah (R1.qN U') λo ho O=>?_;rw[q,lj _ nC]at ho;exact nS ho
  have ok:aX ([Y.objs.size+1,Y.objs.size]++wr) h4:=λa B B' ht=>by
   rcases fG.mp B with B|B
   .rcases aT.mp B with j5|B
    .clear B;subst j5;obtain⟨o,_,_,ho,hd,_⟩:=NH;obtain⟨o',qw,_,_,uW⟩:=ht;rw[ho]at qw;cases qw;rw[hd]at uW;cases uW
    .rw[az]at B;subst B;obtain⟨o',qw,Zk,_⟩:=ht;rw[T3]at qw;cases qw;rw[Zk]at Zv;rcases Zv with q|q
     .exact g_ (HG q) (by decide)
     .exact g_ (HG q) (by decide)
   .exact h2.Bu LM a B B' ht
  have yG:∀ a∈[Y.objs.size+1,Y.objs.size],a∉wr:=λa B=>(h2.Km a B).1
  refine zZ (AR:=λh D a=>AR Y.objs.size h D a) (sc:=iU scope sc tn C') (C:=dS C' C) (heq _ _ _) h2 ok (λs D τ a I hc Aa c U' B' ht=>?_) (NB _ _ _) (ZQ _ _ _) (ZR _ _ _) (yG _ aQ) (λx c U' m=>?_) (λh h' D a Aa hk ht=>adk _ h h' D a Aa (λo e=>hk _ o (yG _ (by exact bg _ aQ)) e) ht)
   (λx v s D τ kP a a' Q E' hg I S hc rv Aa Kb=>?_) LM R4 (adj _ _ _ T3) jW λs s' b9 I S hk hc Aa=>?_
  .rcases aT.mp U' with mj|U'
   .clear U';subst mj;refine ah (hc.uZ) λo ho hd=>?_;obtain⟨o',qw,_,n',uW⟩:=ht;have ho2:s.heap.get? (Y.objs.size+1)=f o:=ho;rw[ho2]at qw;cases qw;exact hd _ _ uW
   .rw[az]at U';subst U';exact adl _ _ _ _ Aa B' ht
  .refine ah (R1.qN (F7 x c U')) λo ho O=>?_;rw[(tJ c m).1]at ho;exact nS ho
  .exact body _ _ nK (λy c U' q=>by
    refine ah (R1.qN (F7 y c U')) λo ho O=>?_
    rw[q,lj _ nD]at ho;exact nS ho) x v s D τ kP a a' Q E' hg I hc rv Aa (h2.ownOut S (by exact bg _ aQ)) (nb _ (lj _ nD)) V7 Kb
  .have S2:dB [] t1 s' cR b9 σs dZ:=S.past hk ID (λa B=>(tJ a B).1) (λa B=>.inr (by
    rcases aT.mp B with oN|B
    .clear B;subst oN;exact lj _ nC
    .rw[az]at B;subst B
     exact lj _ nD)) (λO m=>nomatch m) λi a hi m=>(h2.Ya a m).1 (dU hi)
   refine cC (o5 I1 I kA rh S2) λI9 S9=>?_;refine ah (hc.ns) λm hm O=>?_;have Z3:Y.objs.size+1∉b9:=h2.ownOut S (by exact aQ);exact K s' b9 _ _ m I9 S9 (h2.ownOut S (by exact bg _ aQ)) (lj _ nD) (nb _ (lj _ nD)) V7 Z3 (lj _ nC) (nb _ (lj _ nC)) nK hm Aa
 obtain⟨⟨fp,wr,St,Yb,V8,_⟩,_,_⟩:=W;refine V5 _ _ _ _ _ (main _ X) (((Yb A target hh ZZ).self 0 {t1 with heap:=h4,toks:=tk+([]:d_ (o_ × aY)).length}) _ _ ?_ (main _ X));exact(Yb A target hh ZZ).frame 0 _ _ V8 λa O o e=>T2 a o e
end
def vc(b:aJ)(ρ:bU)(h:cE)(D:cc)(ys:al):Prop:=∃ M:dG,h.PlainList ρ M.toArray/\aG b.heap h D ys M
def gL(K':St->AV->af (St × al))(t:St)(x:AV)(ys:al):af (St × al):=match K' t x with|f (t',zs)=>if ys.length+zs.length<=lim then f (t',ys++zs) else .none|V=>V
theorem z8{K':St->AV->af (St × al)}:∀(Z:al) (t t':St) (ys zs:al),q7 K' Z t=f (t',zs)->ys.length+zs.length<=lim->qO (gL K') Z t ys=f (t',ys++zs):=λw'=>by induction w' with|nil=>intro t t' ys zs h O;exact gI h (J (HH _) X)|cons x Z ih=>intro t t' ys zs h hl;revert h;refine mK (λs1 z1 e1=>mK (λs2 z2 e2 h=>?_));revert hl;refine gI h ?_;intro hl;rw[oi]at hl;dsimp only[qO,gL];refine J e1 ?_;dsimp only;refine J (ai (by lia)) ?_;dsimp only;exact J (ih s1 s2 (ys++z1) z2 e2 (by rw[oi];lia)) (J (UH _ _ _) X)
section
variable{w:dc}{b s s1 s':aJ}{mg mb:pS}{D mD b9 F' fp wr:cc}{N σs T' ae τ kP:St}{A:da}{E:cM}{u' aV:r?}{nm:NM}{sc:SC}{C bh:al}{n:a_}{ρ sl:bU}
theorem vc.keep(x:vc b ρ h D ys)(hD:∀ o,h.get? ρ=f o->h'.get? ρ=f o)(ht:∀ c B',h.IsTuple c B'->h'.IsTuple c B')(hp:D <+: b9):vc b ρ h' b9 ys:=by obtain⟨M,⟨n,Y⟩,L⟩:=x;exact aK M ⟨n,hD _ Y⟩ (L.mono ht hp)
theorem vc.vd(x:vc b ρ h D ys)(B':T_ aY):¬ h.IsTuple ρ B':=by obtain⟨M,⟨n,Y⟩,_⟩:=x;rintro⟨o,h3,h4,_⟩;rw[Y]at h3;obtain rfl:=aw h3;exact g_ (HG h4) (by decide)
theorem vc.step(x:vc b ρ s.heap D ys)(I:Inv H w b s D N)(S:dB F' s s' D b9 N T')(ok:aX F' s.heap)(hD:ρ∉F')(V9:ρ∉D):vc b ρ s'.heap b9 ys:=
 x.keep (λo e=>S.fr ρ o V9 hD e) (I.gK S ok) S.pre
theorem F9{Q:cM}(I:Inv H w b s D τ)(hD:ρ∉D)(oH:b.heap.get? ρ=V)(x:vc b ρ s.heap D ys)(ry:bB b.heap s.heap D y v)(hz:ys.length<=lim)(k:∀ s',Inv H w b s' D τ->dB [ρ] s s' D D τ τ->vc b ρ s'.heap D (ys++[y])->Q .none s'):b_ (c_ H w) A (call (.builtin "list.append") [.ref ρ,v]) Q E s:=by
 obtain⟨M,⟨n,t⟩,q⟩:=id x;refine CP UA ⟨_,t,X⟩ F.entry_list_append (F.args_list_append_2 _ _) (list_append ρ M.toArray n v (by(refine J dX (J q.length ?_));exact aR hz eJ)) ⟨t,?_⟩;have hp:(s.heap.update ρ (x_ λx=>x.push v)).PlainList ρ (M++[v]).toArray:=⟨_,by refine J (AJ _ t X) ?_;simp[x_];rfl⟩;have hs:r_ ρ s.heap (s.heap.update ρ (x_ λx=>x.push v)):=qU ..;have ok:aX [ρ] s.heap:=λa B B'=>by rw[az]at B;clear hD oH k t hp hs;subst B;exact x.vd B'
 have vs:=I.quiet (F':=[ρ]) (h':=s.heap.update ρ (x_ λx=>x.push v)) (t:=s.toks) (λa o Y L=>(hs.2 a λq=>Y (by simp[q])).trans L) ok (λa B=>by rw[az]at B;clear oH x k t hp hs ok;subst B;exact hD)
  (λa B=>by rw[az]at B;clear hD x k t hp hs ok;subst B;exact oH) (λa B o O=>by rw[az]at B;clear hD oH x k t hs ok;subst B;obtain⟨n',h⟩:=hp;exact⟨_,h⟩) (by exact J hs.1 I.low)
 exact k _ vs.1 vs.2 ⟨_,hp,(I.Fx vs.2 ok q).append (aG.cons (I.rep vs.2 ok ry) aG.nil)⟩
theorem IE(iv:VS H w b n aV sc ce elt)(hA:DB n A){eF slc:al}(I:Inv H w b s D τ)(hc:ER b aV sc eF s D)(aN:ev ce τ eF=f (kP,y))(x:vc b ρ s.heap D ys)(hz:ys.length<=lim)(hD:ρ∉D)(oH:b.heap.get? ρ=V)(hDL:aV.locals≠ρ) (Z1:∀ x c,aV.cells.lookup x=f c->c≠ρ) {Q:aJ->Prop}(k:∀ s' b9,Inv H w b s' b9 kP->dB [ρ] s s' D b9 τ kP->ER b aV sc eF s' b9->vc b ρ s'.heap b9 (ys++[y])->Q s') :
  b_ (c_ H w) A (do let _ <-call (.builtin "list.append") [.ref ρ,<-H_ elt aV]) (λO vI=>Q vI) E s:=by
 refine aU (iv A E s D τ kP eF y _ hA I hc aN λv s1 cR I1 S1 r1=>?_);have NF:∃ o,s.heap.get? ρ=f o:=let ⟨M,⟨n,h⟩,_⟩:=x;⟨_,h⟩;obtain⟨oD,Wa⟩:=NF;have hD1:ρ∉cR:=jK S1 hD Wa;have x1:=x.step I S1 aX.nil (λm=>nomatch m) hD;refine aU (F9 I1 hD1 oH x1 r1 hz λs2 I2 S2 x2=>cy ?_);have ok:aX [ρ] s1.heap:=λa B B'=>by rw[az]at B;clear x hD oH hDL Z1 k Wa hD1 S2 x2;subst B;exact x1.vd B'
 refine k s2 cR I2 ((S1.weaken (λO m=>nomatch m) λa B=>by rw[az]at B;clear x oH hDL Z1 k Wa hD1 x1 S2 x2 ok;subst B;exact hD).trans S2) (((hc.bl I S1)).step I1 S2 ok (λm=>hDL (az.mp m)) λx c U' m=>Z1 x c U' (az.mp m)) x2
structure xf(u':r?)(scope:I_)(cl:d_ (o_ × bU))(nm:NM)(sc:SC)(tn:d_ o_)(C':cf)(sl:bU):Prop where
 S:nI scope nm sc tn
 T:z0 tn C' sc
theorem xf.je(aj:xf u' scope cl nm sc tn C' sl)(bV:∀ x,u'.kindOf x=nm.lookup x)(hk:u'.scope.kind=.function):DI (j_ scope cl sl u') [sl] tn:=
 ⟨λa B=>.inl (az.mp B),az.mpr X,λx hx h=>by
  rw[jt bV hk,kH,aj.S.Rl x hx]at h
  cases h⟩
theorem lV(aj:xf u' scope cl nm sc tn C' sl)(bV:∀ x,u'.kindOf x=nm.lookup x)(hk:u'.scope.kind=.function)(hh:A.handled=V)(ht:eK t=f Wb)(Kn:Wb.length=za.length)(wW:∀ p∈Wb.zip za,p∈tn.zip C') (NI:∀ x∈Wb,x∈tn) {x:AV} {v:aY} {sc0 eF:al} (hb:dr za x sc0=f eF) (I:Inv H w b s D τ) (hc:ER b (j_ scope cl sl u') (iU scope sc tn C') sc0 s D) (rv:bB b.heap s.heap D x v) {Q:j?->aJ->Prop}(K:∀ s',Inv H w b s' D τ->ER b (j_ scope cl sl u') (iU scope sc tn C') eF s' D->dB [sl] s s' D D τ τ->Q () s'):b_ (c_ H w) A (assign t (j_ scope cl sl u') v) Q E s:=by
 have W:=aj.je (sl:=sl) bV hk;refine tO (F':=[sl]) hh ht Kn (λp hp=>uN _ (wW p hp)) ⟨W.sub,W.loc,λm hm=>W.VY m (NI m hm)⟩ hb I hc rv λs' I' R' S' O=>K s' I' R' S'
theorem dB.tR(S:dB [] s s' D b9 N T')(I':Inv H w b s' b9 T')(h:s'.heap.get? a=V):s.heap.get? a=V:=by
 classical
 cases q:s.heap.get? a with|none=>rfl|some o=>
  by_cases m:a∈D
  .refine ah (I'.cls a (QB S.pre m)) λo' qw O=>?_;rw[qw]at h;exact sN h
  .rw[S.fr a o m (λx=>nomatch x) q]at h;exact sN h
theorem xg(hc:ER b u' sc C s D)(hS:nI scope nm sc tn)(bV:∀ x,u'.kindOf x=nm.lookup x) :
  ∃ cl,closureFor scope u'=pure cl/\(∀ x c,cl.lookup x=f c->u'.cells.lookup x=f c)/\(∀ x,(x,E_)∈scope.names->∃ c,cl.lookup x=f c):=
 F6 λq hq hf=>by
  obtain⟨i,hi⟩:=hS.V4 q hq hf;have Ko:=hS.free q hq hf;rcases hc.kinds _ _ hi with h|⟨_,h⟩
  .rw[bV,Ko]at h;cases h
  .exact h
theorem NJ{K':St->AV->af (St × al)}(h:lU r ik K'=f (T',z)) :
  ∃ ae v Z lk σs dZ o6 ys,r=f (ae,v)/\jc ae ik v=f (Z,lk)/\lR ae lk=f σs/\q7 K' Z σs=f (dZ,ys)/\iK dZ (rZ ae lk) lk=f o6/\ys.length<=lim/\o6.push (.list ys)=f T'/\z=.ref o6.n:=by
 dsimp only[lU]at h;revert h;refine aM (λae v br=>?_);subst br;refine oM (λZ lk e2=>mK (λσ9 ys e3 h=>?_));revert e3;refine mK (λo6 ys0 e4=>aZ (λhlen e3=>?_) nS);revert h;refine gI e3 ?_;intro h;revert e4;refine dv (λσs kA=>mJ (λdZ ys1 xi=>dv (λadq rh e4=>?_)));revert hlen h;refine gI e4 ?_;intro hlen h;obtain⟨hp,eE⟩:=oX h;clear h;subst eE;exact⟨ae,v,Z,lk,σs,dZ,_,_,X,e2,kA,xi,rh,hlen,hp,X⟩
theorem tS(Y':Gx b mg mb)(j3:Sound H w b mg mb n vJ){pos Ga p:Pos}{K':St->AV->af (St × al)}{BODY:aY->r?->Sem PUnit}(hs:nH nm ik i=f i') (U':eH vJ nm sc (.inl i')=R) (cm:Ok H w b mg mb n vJ) (hgi:sv mg mb ik) (bV:∀ x,u'.kindOf x=nm.lookup x) (hk:u'.scope.kind=.function) (hg:u'.globals=A_) (hb:u'.builtins=M_) (Wc:fM i=R) (het:u6 ik t=R)(hS:nI scope nm sc tn) (hT:z0 tn C' sc) (hA:DB n A) (I:Inv H w b s D N) (hc:ER b u' sc C s D) {z:AV} (aN:lU (ev vJ N C) ik K'=f (T',z)) {use:af (aY->Sem j?)} {Q:cM}(heq:∀(it:bU) (G':aY) (aV:r?),e? (.ListComp elt (⟨t,i,ifs,0⟩::D') scope pos) 0 (.ref it) G' aV=(do
   u0 p
   match <-K_ (.ref it) with
   |V=>pure (.done .next)
   |f v=>
    t_ t (.ref it) v
    assign t aV v
    let mut ok:=R
    for c in ifs do
     if ok then ok <-L_ c aV (H_ c aV)
    if ok then BODY G' aV
    again (.compLoop (.ListComp elt (⟨t,i,ifs,0⟩::D') scope pos) 0 (.ref it) G' aV)))
  (body:∀(cl:d_ (o_ × bU)) (sl ρ:bU),sl≠ρ->(∀ x c,cl.lookup x=f c->c≠ρ)->∀ x v s D τ kP zs ys (Q:aJ->Prop) (E':cM),K' τ x=f (kP,zs)->ys.length+zs.length<=lim->Inv H w b s D τ->ER b (j_ scope cl sl u') (iU scope sc tn C') (dS C' C) s D->bB b.heap s.heap D x v->vc b ρ s.heap D ys->ρ∉D->b.heap.get? ρ=V ->
   (∀ s' b9,Inv H w b s' b9 kP->dB [sl,ρ] s s' D b9 τ kP->ER b (j_ scope cl sl u') (iU scope sc tn C') (dS C' C) s' b9->vc b ρ s'.heap b9 (ys++zs)->Q s') ->
   b_ (c_ H w) A (assign t (j_ scope cl sl u') v) (λO oR=>
     b_ (c_ H w) A (forIn ifs R λc r=>if r=R then do let ok <-L_ c (j_ scope cl sl u') (H_ c (j_ scope cl sl u'));pure (n_ ok) else pure (n_ r)) (λok oZ=>
      if ok=R then b_ (c_ H w) A (BODY (.ref ρ) (j_ scope cl sl u')) (λO vI=>Q vI) E' oZ else Q oZ) E' oR) E' s)
  (K:∀ s2 gH ρ sl m o6 ys,o6.push (.list ys)=f T'->z=.ref o6.n->Inv H w b s2 gH o6->dB [] s s2 D gH N o6->ρ∉gH->s.heap.get? ρ=V->b.heap.get? ρ=V->(ρ==i_)=N'->sl∉gH->s.heap.get? sl=V->b.heap.get? sl=V->sl≠ρ->s2.heap.Ns sl m->vc b ρ s2.heap gH ys ->
   compPost (c_ H w) A E use Q (.ref ρ) sl (.ok .next) s2) :
  b_ (c_ H w) A (comprehension (.ListComp elt (⟨t,i,ifs,0⟩::D') scope pos) scope u' Ga (newList []) N' (H_ i u') use) Q E s:=by
 refine ia λGq zq=>?_;obtain⟨ae,v,Z,lk,σs,dZ,o6,ys,e1,e2,kA,xi,rh,hlen,hp,hz⟩:=NJ aN;refine bY (xg hc hS bV) λcl NK F7 F8=>?_;refine zq ?_;clear zq;refine wpAny_comprehension_free (use:=use) X (gT Wc) NK hS.kind hS.locals (Bx Y' j3 hs U' cm hgi bV hk hg hb hA I hc e1 e2 λt1 cR it Y tk I1 S1 W=>?_);have jW:=z8 Z σs dZ [] ys xi (by simpa using hlen);rw[CV]at jW;have T4:∀ a,t1.heap.get? a=V->s.heap.get? a=V:=λa h=>S1.tR I1 h
 refine z6 (AR:=vc b) (BODY:=BODY) (o0:={cls:=.type "list",data:=.seq ([]:dG).toArray}) (tups:=Bw ik) (λs Q h=>kU h) X (.inl X) (λρ h D h0=>⟨[],⟨0,h0⟩,aG.nil⟩) (λρ h h' D a x Y L=>x.keep Y L eS) (λρ h D a x=>x.vd)
  (λtP G' aV hc s h0 h=>codeAny_compStart_list h0 h) heq (λO O O=>X) (λO O O=>X) (λO O O=>X) hS hT bV F7 F8 hA.hh (o3 het) I1 (hc.bl I S1) W kA jW rh (λsl ρ nK yy x v s D τ kP a a' Q E' Kp I2 R2 rv x2 hD oH V7 Kb=>?_) λs2 gH ρ sl m I2 S2 d1 d2 d3 d4 c1 c2 c3 c4 hm x2=>?_
 .revert Kp;refine mK (λt' zs ef=>aZ (λJY Kp=>?_) nS);revert Kb;refine gI Kp ?_;intro Kb;exact body cl sl ρ nK yy x v s D τ t' zs a Q E' ef JY I2 R2 rv x2 hD oH Kb
 .exact K s2 gH ρ sl m o6 ys hp hz I2 (S1.trans S2) d1 (T4 ρ d2) d3 d4 c1 (T4 sl c2) c3 c4 hm x2
theorem DL{m:pS}{Q:cM}(hp:o6.push o=f T')(hz:z=.ref o6.n)(I0:Inv H w b s D N)(I2:Inv H w b s2 gH o6)(S2:dB [] s s2 D gH N o6)(d1:ρ∉gH)(d2:s.heap.get? ρ=V)(d3:b.heap.get? ρ=V)(d4:(ρ==i_)=N')(c1:sl∉gH) (c2:s.heap.get? sl=V) (c3:b.heap.get? sl=V) (c4:sl≠ρ) (hm:s2.heap.Ns sl m) (ho:∀ h',(∀ a o,a≠sl->s2.heap.get? a=f o->h'.get? a=f o)->(∀ c B',s2.heap.IsTuple c B'->h'.IsTuple c B')->yE H w b.heap h' gH ρ o) (adr:∃ ob,s2.heap.get? ρ=f ob/\(ob.cls=.type "list"\/ob.cls=.type "dict"))(K:fK H w b s D N T' z Q):compPost (c_ H w) A E V Q (.ref ρ) sl (.ok .next) s2:=by
 refine aK m hm (λh' hs=>?_);have hk:∀ a o,a≠sl->s2.heap.get? a=f o->h'.get? a=f o:=λa o Y L=>(hs.2 a Y).trans L;have ok:aX [sl] s2.heap:=aX.of λa B oo LL Z n e=>by rw[az]at B;clear c1 c2 c3 c4 ho hs hk;subst B;obtain⟨o',_,_,Y,L,_⟩:=hm;rw[Y]at LL;obtain rfl:=aw LL;rw[L]at e;cases e
 have VL:∀ a o,a∉[sl]->s2.heap.get? a=f o->h'.get? a=f o:=λa o Y L=>hk a o (λq=>Y (by simp[q])) L;have I3:=I2.kept (F':=[sl]) (h':=h') (t:=s2.toks) VL ok (λa B=>by rw[az]at B;clear c2 c3 c4 hm ho hs hk ok VL;subst B;exact c1) (λa B=>by rw[az]at B;clear c1 c2 c4 hm ho hs hk ok VL;subst B;exact c3) (by exact J hs.1 I2.low);have ht:∀ c B',s2.heap.IsTuple c B'->h'.IsTuple c B':=λc B' t=>ah t λo Y L=>⟨o,VL c o (λm=>ok c m B' t) Y,L⟩;obtain⟨ob,Dg,F7⟩:=adr;obtain⟨I4,AX⟩:=I3.adopt ⟨ob,hk ρ ob (kx c4) Dg,F7⟩ d1 d3 d4 hp (ho h' hk ht)
 have S3:dB [] s {s2 with heap:=h'} D gH N o6:=by
  refine⟨S2.pre,S2.new,λa o Y L h3=>hk a o (λq=>?_) (S2.fr a o Y L h3),S2.flags,λi a o Y L h3=>hk a o (λq=>?_) (S2.lock i a o Y L h3),λO m=>nomatch m⟩
  .rw[q,c2]at h3;exact nS h3
  .rw[q,c2]at h3;exact nS h3
 subst hz;exact K _ _ _ I4 (S3.adopt I0 I3 (o:=o) d2 hp) (bB.ref AX)
theorem DM(iv:VS H w b n (j_ scope cl sl u') (iU scope sc tn C') e el)(hS:nI scope nm sc tn)(hT:z0 tn C' sc)(bV:∀ x,u'.kindOf x=nm.lookup x)(hk:u'.scope.kind=.function)(hA:DB n A)(ht:eK t=f Wb) (Kn:Wb.length=za.length) (wW:∀ p∈Wb.zip za,p∈tn.zip C') (NI:∀ x∈Wb,x∈tn) (CA:za.Nodup) (nK:sl≠ρ) (yy:∀ x c,cl.lookup x=f c->c≠ρ) {x:AV} {v:aY} {zs ys Z4 slr:al} {Q:aJ->Prop} {E':cM} (hf:one (ev e) za Z4 τ x=f (kP,zs)) (hlen:ys.length+zs.length<=lim)(I:Inv H w b s D τ) (NL:slr=dS za Z4) (hc:ER b (j_ scope cl sl u') (iU scope sc tn C') slr s D) (rv:bB b.heap s.heap D x v) (x2:vc b ρ s.heap D ys) (hD:ρ∉D) (oH:b.heap.get? ρ=V)(K:∀ s' b9,Inv H w b s' b9 kP->dB [sl,ρ] s s' D b9 τ kP->ER b (j_ scope cl sl u') (iU scope sc tn C') slr s' b9->vc b ρ s'.heap b9 (ys++zs)->Q s') :
  b_ (c_ H w) A (assign t (j_ scope cl sl u') v) (λO oR=>
     b_ (c_ H w) A (forIn [] R λc r=>if r=R then do let ok <-L_ c (j_ scope cl sl u') (H_ c (j_ scope cl sl u'));pure (n_ ok) else pure (n_ r)) (λok oZ=>
      if ok=R then b_ (c_ H w) A (do let _ <-call (.builtin "list.append") [.ref ρ,<-H_ el (j_ scope cl sl u')]) (λO vI=>Q vI) E' oZ else Q oZ) E' oR) E' s:=by
 subst NL;revert hf;refine dY (λeF hb=>aM (λs4 y aN hf=>?_));revert hlen K;refine gI hf ?_;intro hlen K;refine ah (o1 CA hb) λRk sA vC=>lV ⟨hS,hT⟩ bV hk hA.hh ht Kn wW NI sA I hc rv λs1 I1 R1 S1=>Mj (J (ai X) ?_);have sB:aX [sl] s.heap:=(xf.je (cl:=cl) (sl:=sl) ⟨hS,hT⟩ bV hk).ok hc;have x3:vc b ρ s1.heap D ys:=x2.step I S1 sB (λm=>nK (az.mp m).symm) hD;refine IE iv hA I1 (R1.same vC) aN x3 (by exact kD ‹_›) hD oH nK (λy c U'=>yy y c U') (slc:=[]) λs5 Wd I5 S5 R5 x5=>?_;obtain⟨M,⟨nD,We⟩,_⟩:=id x2;have By:sl∉D:=hc.nG.1;refine K s5 Wd I5 ((S1.weaken (λa B=>by simp at B;simp[B]) λa B=>?_).trans (S5.weaken (λa B=>by simp at B;simp[B]) λa B=>?_)) (R5.weaken λy i hy hu=>?_) x5
 .rcases aT.mp B with iA|B
  .clear iv nK hc K R1 S1 sB R5 B;subst iA;exact By
  .rw[az]at B;clear nK yy x2 oH K x3 S5 x5 We;subst B;exact hD
 .rcases aT.mp B with j5|B
  .clear iv nK hc K R1 S1 sB R5 B;subst j5;exact By
  .rw[az]at B;clear nK yy x2 oH K x3 S5 x5 We;subst B;exact hD
 .rw[bL]at hu ⊢;split at hu;exact tF hu
  rename_i IF
  rotate_left;refine J (ak IF) ?_
  have:ao eF i=ao Z4 i:=by
   refine J (vC i) ?_;dsimp only[dr]at sA;revert sA;refine MA (λj br sA=>?_) λsA=>?_;clear Kn wW CA hc hb K;subst br;rotate_left;rotate_left
   .simp only[dN]at sA;clear vC R1;subst sA;exact J (dh _ _ _ _) (J (ak (by simpa using kx (by simpa using IF))) (J (bL _ _ _) (J (ak IF) X)))
   .revert sA;refine uV (λxs0 br sA=>?_);clear rv hb;subst br;exact J ((fi _ _ _ _ sA).2.2 i IF) (J (bL _ _ _) (J (ak IF) X))
  exact this.symm
def o7(H:z_)(w:dc)(b:aJ)(A:da)(E:cM)(use:af (aY->Sem j?))(Q:cM)(s:aJ)(D:cc)(N T':St)(z:AV):Prop:=
 ∀ s2 gH ρ sl m o6 ys,o6.push (.list ys)=f T'->z=.ref o6.n->Inv H w b s2 gH o6->dB [] s s2 D gH N o6->ρ∉gH->s.heap.get? ρ=V->b.heap.get? ρ=V->(ρ==i_)=N'->sl∉gH->s.heap.get? sl=V->b.heap.get? sl=V->sl≠ρ->s2.heap.Ns sl m->vc b ρ s2.heap gH ys ->
   compPost (c_ H w) A E use Q (.ref ρ) sl (.ok .next) s2
theorem o7.plain{Q:cM}(I:Inv H w b s D N)(K:fK H w b s D N T' z Q):o7 H w b A E V Q s D N T' z:=
 λs2 gH ρ sl m o6 ys hp hz I2 S2 d1 d2 d3 d4 c1 c2 c3 c4 hm x2=>DL hp hz I I2 S2 d1 d2 d3 d4 c1 c2 c3 c4 hm (λh' Fj ht'=>x2.keep (λo e=>Fj ρ o (kx c4) e) ht' eS) (ah x2 λM zV O=>PlainList.cls zV) K
noncomputable def firstOf:av->af (av × I_)|.ListComp O (g::O') sc O''=>f (g.iter,sc)|_=>V
def LCS(H:z_)(w:dc)(b:aJ)(n:a_)(u':r?)(sc:SC)(c:CE)(e:av):Prop:=
 ∀(A:da) (E:cM) (s:aJ) (D:cc) (N T':St) (C:al) (z:AV) (use:af (aY->Sem j?)) (Q:cM) (Ga:Pos) (i:av) (scope:I_),DB n A->Inv H w b s D N->ER b u' sc C s D->ev c N C=f (T',z)->firstOf e=f (i,scope) ->
  o7 H w b A E use Q s D N T' z->b_ (c_ H w) A (comprehension e scope u' Ga (newList []) N' (H_ i u') use) Q E s
noncomputable def NN:av->e_|.ListComp ..=>R|_=>N'
theorem Rn(h:NN e=R):∃ a b c d,e=.ListComp a b c d:=by cases e<;>first|exact fT h|exact YO _ _ _ _ X
def xj(H:z_)(w:dc)(b:aJ)(mg mb:pS)(n:a_)(c:CE):Prop:=∀(u':r?) (nm:NM) (sc:SC) (e:av),NN e=R->eH c nm sc (.inl e)=R->Ok H w b mg mb n c->(∀ x,u'.kindOf x=nm.lookup x)->u'.scope.kind=.function->u'.globals=A_->u'.builtins=M_->LCS H w b n u' sc c e
theorem Sound.ofU(h:xj H w b mg mb n c)(hl:∀ nm sc arg,eH c nm sc arg=R->∃ el g gs scope p,arg=.inl (.ListComp el (g::gs) scope p)/\(g.is_async != 0)=N'):Sound H w b mg mb n c:=by
 intro u' nm sc arg U' cm bV hk hg hb;refine wD (hl nm sc arg U') λel g gs scope p VX has=>?_;subst VX;obtain⟨t0,i0,DN,a0⟩:=g;have h2:=h u' nm sc _ X U' cm bV hk hg hb;have iv:VS H w b n u' sc c (.ListComp el (⟨t0,i0,DN,a0⟩::gs) scope p):=by intro A E s D N T' C z Q hA I hc aN K;simp only[eval_ListComp];have e1:firstAsync (⟨t0,i0,DN,a0⟩::gs)=N':=has;exact J e1 (h2 A E s D N T' C z V Q _ i0 scope hA I hc aN X (o7.plain I K))
 exact⟨iv,TS.qx iv X⟩
theorem sC(Y':Gx b mg mb)(he:Sound H w b mg mb n e)(hi:Sound H w b mg mb n vJ):xj H w b mg mb n (.bq e C' ik vJ):=by
 intro u' nm sc ex _ U' cm bV hk hg hb
 .refine ia λGq zq=>?_;revert U';refine TI (λel t i scope hv U'=>?_);refine cz (Bp hv) λp aL=>?_;clear a hv;subst aL;revert U';refine nz (λtn LN=>dI (λi' Bz U'=>bn6 U' λY L h3 h4 h5 h6=>?_));have hS:=nJ h3;have hT:=sy h4;refine zq ?_;clear zq
  have iv:LCS H w b n u' sc (.bq e C' ik vJ) (.ListComp el [⟨t,i,[],0⟩] scope p):=by
   intro A E s D N T' C z use Q Ga i0 NO hA I hc aN IG K;dsimp only[firstOf]at IG;rw[dN,rP]at IG;obtain⟨mj,oN⟩:=IG;subst mj;subst oN;dsimp only[ev]at aN;refine tS Y' hi (BODY:=λG' aV=>do let _ <-call (.builtin "list.append") [G',<-H_ el aV]) Bz h5 cm.2.2 cm.2.1 bV hk hg hb Y L hS hT hA I hc aN (use:=use) (λit G' aV=>by rfl) (λcl sl ρ nK yy x v s D τ kP zs ys Q E' hf hl I2 R2 rv x2 hD oH Kb=>?_) K
   .exact DM ((he (j_ scope cl sl u') (iS scope.names nm) (iU scope sc tn C') (.inl el) h6 cm.1 (jt bV hk) hS.kind hg hb).1) hS hT bV hk hA LN hT.len (λO h=>h) (λO h=>h) hT.nodup nK yy hf hl I2 X R2 rv x2 hD oH Kb
  exact iv
end
section
variable{w:dc}{b s s1 s':aJ}{mg mb:pS}{D mD b9 F' fp wr:cc}{N σs T' ae τ kP:St}{A:da}{E:cM}{u' aV:r?}{nm:NM}{sc:SC}{C bh:al}{n:a_}{ρ sl:bU}
theorem mR(h:dr C' x C=f eF)(IF:i∉C'):ao eF i=ao C i:=by
 dsimp only[dr]at h;revert h;refine MA (λj br h=>?_) λh=>?_;subst br;rotate_left;rotate_left
 .simp only[dN]at h;subst h;exact J (dh _ _ _ _) (J (ak (by simpa using kx (by simpa using IF))) X)
 .revert h;refine uV (λO br h=>?_);subst br;exact(fi _ _ _ _ h).2.2 i IF
theorem rj(sA:dr za x (dS za Z4)=f Rk)(vC:zW eF Rk)(R5:ER b aV sc eF s D):ER b aV sc (dS za Z4) s D:=
 R5.weaken λy i hy hu=>by
  rw[bL]at hu;split at hu;exact tF hu
  rename_i IF
  rotate_left;exact J (vC i) (J (mR sA IF) X)
theorem o8(Y':Gx b mg mb)(he:Sound H w b mg mb n e)(hi:Sound H w b mg mb n vJ)(hcc:Sound H w b mg mb n c):xj H w b mg mb n (.bR e C' ik vJ c):=by
 intro u' nm sc ex _ U' cm bV hk hg hb
 .revert U';refine Mz (λel t i q scope hv U'=>?_);obtain⟨p,eE⟩:=Bp hv;clear a hv;subst eE;revert U';refine nz (λtn LN=>dI (λi' Bz U'=>bn7 U' λY L h3 h4 h5 h6 h7=>?_));have hS:=nJ h3;have hT:=sy h4
  have iv:LCS H w b n u' sc (.bR e C' ik vJ c) (.ListComp el [⟨t,i,[q],0⟩] scope p):=by
   intro A E s D N T' C z use Q Ga i0 NO hA I hc aN IG K;dsimp only[firstOf]at IG;rw[dN,rP]at IG;obtain⟨iA,j5⟩:=IG;subst iA;subst j5;dsimp only[ev]at aN;refine tS Y' hi (BODY:=λG' aV=>do let _ <-call (.builtin "list.append") [G',<-H_ el aV]) Bz h5 cm.2.2.1 cm.2.1 bV hk hg hb Y L hS hT hA I hc aN (use:=use) (λit G' aV=>by rfl) (λcl sl ρ nK yy x v s D τ kP zs ys Q E' hf hl I2 R2 rv x2 hD oH Kb=>?_) K
   .have VE:=(he (j_ scope cl sl u') (iS scope.names nm) (iU scope sc tn C') (.inl el) h6 cm.1 (jt bV hk) hS.kind hg hb).1;have TC:=(hcc (j_ scope cl sl u') (iS scope.names nm) (iU scope sc tn C') (.inl q) h7 cm.2.2.2 (jt bV hk) hS.kind hg hb).2;revert hf;refine dY (λeF Z5 hf=>?_);refine ah (o1 hT.nodup Z5) λRk sA vC=>?_;refine lV ⟨hS,hT⟩ bV hk hA.hh LN hT.len (λO h=>h) (λO h=>h) sA I2 R2 rv λs1 I1 R1 S1=>?_;have sB:aX [sl] s.heap:=(xf.je (cl:=cl) (sl:=sl) ⟨hS,hT⟩ bV hk).ok R2;have x3:vc b ρ s1.heap D ys:=x2.step I2 S1 sB (λm=>nK (az.mp m).symm) hD;have By:sl∉D:=R2.nG.1
    have k8:∀ a∈[sl,ρ],a∉D:=λa B=>by
     rcases aT.mp B with mj|B
     .clear nK R2 Kb VE TC R1 S1 sB B;subst mj;exact By
     .rw[az]at B;clear nK yy x2 oH Kb x3;subst B;exact hD
    refine wpAny_tests_one ?_;revert hf;refine r7 (λs3 ec hf=>?_) (λs3 ec hf=>?_)
    .revert hf;refine aM (λs4 y adu hf=>?_);revert hl Kb;refine gI hf ?_;intro hl Kb;refine TC A _ s1 D τ s3 eF R _ hA I1 (R1.same vC) ec λs6 CB I6 S6=>J (ai X) ?_;obtain⟨M,⟨nD,We⟩,_⟩:=id x3;have hD6:ρ∉CB:=jK S6 hD We;have x6:=x3.step I1 S6 aX.nil (λm=>nomatch m) hD;have R6:=(R1.same vC).bl I1 S6;refine IE VE hA I6 R6 adu x6 (by exact kD ‹_›) hD6 oH nK (λy c U'=>yy y c U') (slc:=[]) λs5 Wd I5 S5 R5 x5=>?_;have S16:dB [sl,ρ] s s6 D CB τ s3:=(S1.weaken (λa B=>by simp at B;simp[B]) k8).trans (S6.weaken (λO m=>nomatch m) k8);refine Kb s5 Wd I5 (S16.trans (S5.weaken (λa B=>by simp at B;simp[B]) λa B=>?_)) (rj sA vC R5) x5;rcases aT.mp B with oN|B
     .clear nK R2 VE TC R1 S1 sB By k8 Kb R5 S16 B;subst oN;exact R6.nG.1
     .rw[az]at B;clear nK yy x2 hD oH x3 k8 Kb We x6 S5 x5 S16;subst B;exact hD6
    .revert Kb;refine gI hf ?_;intro Kb;refine TC A _ s1 D τ s3 eF N' _ hA I1 (R1.same vC) ec λs6 CB I6 S6=>J (ak (by decide)) ?_;have x6:=x3.step I1 S6 aX.nil (λm=>nomatch m) hD;have R6:=(R1.same vC).bl I1 S6;rw[HH]at Kb;exact Kb s6 CB I6 ((S1.weaken (λa B=>by simp at B;simp[B]) k8).trans (S6.weaken (λO m=>nomatch m) k8)) (rj sA vC R6) x6
  exact iv
theorem zc(L:(c2.is_async != 0)=N'){hc:Result->aJ->Prop}(h0:R_ (c_ H w) A (.compLoop (.ListComp elt [c1,c2] scope pos) 1 it G' aV) hc s)(h:b_ (c_ H w) A (U_ it) (λit' s'=>R_ (c_ H w) A (.compLoop (.ListComp elt [c1,c2] scope pos) 1 it' G' aV) hc s') (O? (c_ H w) A aV λx s'=>hc (.error x) s') s) :
  R_ (c_ H w) A (.compStart (.ListComp elt [c1,c2] scope pos) 1 it G' aV) hc s:=by
 refine codeAny_of_tree ?_;show b_ _ A ((compStart (.ListComp elt [c1,c2] scope pos) 1 it G' aV).onRaise (λx=>do noteFrame x aV;u0 theWindowsPlace)) _ _ s;refine wpAny_notedAt ?_;unfold compStart;have e:(((clausesOf (.ListComp elt [c1,c2] scope pos))[1]?).elim N' (·.is_async != 0))=N':=L;refine J e ?_;simp -iota only [LI,kS];refine aU (wpAny_askSetting (wpAny_ite ?_));split
 .first
  |exact aU (cy (cy (h_ X h0)))
  |exact cy (h_ X h0)
 .refine aU (qC ?_);exact aU (zH (aU (om h (λit' s' h'=>cy (h_ X h')) λO O x=>x)))
theorem Wf(h:two qF tB g C' tgt2 C τ x=f (kP,zs)):∃ eF Wg v2 Qa Q0 σs Wh,dr C' x (dS tgt2 C)=f eF/\qF τ eF=f (Wg,v2)/\jc Wg tB v2=f (Qa,Q0)/\lR Wg Q0=f σs /\
  q7 (one g tgt2 eF) Qa σs=f (Wh,zs)/\iK Wh (rZ Wg Q0) Q0=f kP:=by
 refine ia λGq zq=>?_;revert h;refine dY (λeF Y=>aM (λWg v2 L=>oM (λQa Q0 h3=>dv (λσs h4=>mJ (λWh zs' h5=>dv (λo6 h6 h=>?_))))));refine zq ?_;clear zq;exact gI h (Tw eF Wg v2 Qa Q0 σs Wh Y L h3 h4 h5 h6)
theorem xl{tn tn2:d_ o_}{C' tgt2:cf}(hl:tn.length=C'.length):(∀ p∈tn.zip C',p∈(tn++tn2).zip (C'++tgt2))/\(∀ p∈tn2.zip tgt2,p∈(tn++tn2).zip (C'++tgt2)):=by exact J (List.zip_append hl) ⟨λp h=>uN _ h,λp h=>HQ _ h⟩
theorem Gb(hn:C'.Nodup)(hl:a.length=c.length)(h:dr C' x a=f a2):∃ c2,dr C' x c=f c2/\∀ j∈C',ao c2 j=ao a2 j:=by
 rcases tN h with ⟨i,rfl,rfl⟩|⟨Z,rfl,h,hb⟩
 .refine aK _ X (λj hj=>?_);rw[az]at hj;clear hn;clear h;subst hj;exact J (dh _ _ _ _) (J (dh _ _ _ _) (J (ai X) (J (ai X) (J hl X))))
 .refine dF (fi _ _ _ _ h) λg1 g2 g3=>?_;refine cz (xe C' Z c g2) λd hd=>?_;refine aK d ((hb _).trans hd) (λj hj=>?_);obtain⟨k,hk⟩:=L0 hj;have iQ:k<C'.length:=(mi.mp hk).1;have hx:Z[k]?=f Z[k]:=lJ (by omega);exact J (mQ _ _ _ _ hd hn k j _ hk hx) (J (mQ _ _ _ _ h hn k j _ hk hx) (J hl X))
theorem BA(el t i t2 i2:av)(scope:I_)(p:Pos)(tP G':aY)(aV:r?):e? (.ListComp el [⟨t,i,[],0⟩,⟨t2,i2,[],0⟩] scope p) 0 tP G' aV=(do
   u0 i.pos
   match <-K_ tP with
   |V=>pure (.done .next)
   |f v=>
    t_ t tP v
    assign t aV v
    let mut ok:=R
    for c in ([]:dD) do
     if ok then ok <-L_ c aV (H_ c aV)
    if ok then(do
     let x <-H_ i2 aV
     u0 i2.pos
     let x <-n? i2 aV x
     let _ <-runOwn (.compStart (.ListComp el [⟨t,i,[],0⟩,⟨t2,i2,[],0⟩] scope p) 1 (<-t? [x] (U_ x)) G' aV) aV)
    again (.compLoop (.ListComp el [⟨t,i,[],0⟩,⟨t2,i2,[],0⟩] scope p) 0 tP G' aV)):=by
 have h:e? (.ListComp el [⟨t,i,[],0⟩,⟨t2,i2,[],0⟩] scope p) 0 tP G' aV=(do
   u0 i.pos
   match <-K_ tP with
   |V=>pure (.done .next)
   |f v=>
    t_ t tP v
    assign t aV v
    let mut ok:=R
    for c in ([]:dD) do
     if ok then ok <-L_ c aV (H_ c aV)
    if ok then
     let x <-H_ i2 aV
     u0 i2.pos
     let x <-n? i2 aV x
     let _ <-runOwn (.compStart (.ListComp el [⟨t,i,[],0⟩,⟨t2,i2,[],0⟩] scope p) 1 (<-t? [x] (U_ x)) G' aV) aV
    again (.compLoop (.ListComp el [⟨t,i,[],0⟩,⟨t2,i2,[],0⟩] scope p) 0 tP G' aV)):=by rfl
 refine J h ?_;simp -iota only [bind_assoc,pure_bind]
theorem qP(Y':Gx b mg mb){C' tgt2:cf}(he:Sound H w b mg mb n e)(hi:Sound H w b mg mb n vJ)(Ro:Sound H w b mg mb n Rp):xj H w b mg mb n (.dH e C' ik vJ tgt2 tB Rp):=by
 intro u' nm sc ex _ U' cm bV hk hg hb
 .revert U';refine Ik (λel t i t2 i2 scope hv U'=>?_);obtain⟨p,qv⟩:=IA hv;clear hv;subst qv;revert U';refine nz (λtn LN=>dI (λi' Bz=>nz (λtn2 adw=>dI (λi2' Z6 U'=>?_))));simp only[jb]at U';obtain⟨⟨⟨⟨⟨⟨⟨⟨⟨Y,Wi⟩,L⟩,h2'⟩,h3⟩,h4⟩,II⟩,h5⟩,h6⟩,h7⟩:=U';have II:=dW II;have hS:=nJ h3;have hT:=sy h4;obtain⟨M8,M9⟩:=xl (tn2:=tn2) (tgt2:=tgt2) II
  have NP:tn2.length=tgt2.length:=by
   have:=hT.len
   rw[oi,oi]at this;lia
  have CA:=UW.mp hT.nodup
  have iv:LCS H w b n u' sc (.dH e C' ik vJ tgt2 tB Rp) (.ListComp el [⟨t,i,[],0⟩,⟨t2,i2,[],0⟩] scope p):=by
   intro A E s D N T' C z use Q Ga i0 NO hA I hc aN IG K;dsimp only[firstOf]at IG;rw[dN,rP]at IG;obtain⟨vA,yD⟩:=IG;subst vA;subst yD;dsimp only[ev]at aN
   refine tS Y' hi (BODY:=λG' aV=>do
     let x <-H_ i2 aV
     u0 i2.pos
     let x <-n? i2 aV x
     let _ <-runOwn (.compStart (.ListComp el [⟨t,i,[],0⟩,⟨t2,i2,[],0⟩] scope p) 1 (<-t? [x] (U_ x)) G' aV) aV) Bz h5 cm.2.2.1 cm.2.1 bV hk hg hb Y L hS hT hA I hc aN (use:=use) (λit G' aV=>BA ..) (λcl sl ρ nK yy x v s D τ kP zs ys Q E' hf hl I2 R2 rv x2 hD oH Kb=>?_) K
   .have Ko:=jt (scope:=scope) (cl:=cl) (sl:=sl) bV hk;have VE:=(he (j_ scope cl sl u') (iS scope.names nm) (iU scope sc (tn++tn2) (C'++tgt2)) (.inl el) h7 cm.1 Ko hS.kind hg hb).1;obtain⟨eF,Wg,v2,Qa,Q0,σs,Wh,e1,e2,e3,kA,xi,rh⟩:=Wf hf;refine ah (Gb (c:=dS (C'++tgt2) C) CA.1 (by exact J (jL _ _) (J (jL _ _) X)) e1) λRk sA vC=>?_
    have TO:zW eF Rk:=λj=>by
     by_cases m:j∈C'
     .exact(vC j m).symm
     .simp only[mR sA m,mR e1 m,bL,bL];by_cases m2:j∈tgt2
      .exact J (ai m2) (J (ai (by simp[m2])) X)
      .exact J (ak m2) (J (ak (by simp[m,m2])) X)
    have Rq:zW (dS tgt2 eF) eF:=λj=>by
     refine J (bL _ _ _) ?_;split
     .rename_i m2
      exact J (mR e1 (λm=>CA.2.2 j m j m2 X:j∉C')) (J (bL _ _ _) (J (ai m2) X))
     .rfl
    refine lV ⟨hS,hT⟩ bV hk hA.hh LN II M8 (λx h=>uN _ h) sA I2 R2 rv λs1 I1 R1 S1=>Mj (J (ai X) ?_);have sB:aX [sl] s.heap:=(xf.je (cl:=cl) (sl:=sl) ⟨hS,hT⟩ bV hk).ok R2;have x3:vc b ρ s1.heap D ys:=x2.step I2 S1 sB (λm=>nK (az.mp m).symm) hD;have By:sl∉D:=R2.nG.1
    have k8:∀ a∈[sl,ρ],a∉D:=λa B=>by
     rcases aT.mp B with Dc|B
     .clear nK R2 Kb Ko VE R1 S1 sB B;subst Dc;exact By
     .rw[az]at B;clear nK yy x2 oH Kb x3;subst B;exact hD
    obtain⟨vs1,⟨nD1,Rr⟩,_⟩:=id x3
    refine aU (om (Bx (Q:=λtP s'=>b_ (c_ H w) A (do let _ <-runOwn (.compStart (.ListComp el [⟨t,i,[],0⟩,⟨t2,i2,[],0⟩] scope p) 1 tP (.ref ρ) (j_ scope cl sl u')) (j_ scope cl sl u')) (λO s5=>Q s5) E' s') Y' Ro Z6 h6 cm.2.2.2.2 cm.2.2.2.1 Ko hS.kind hg hb hA I1 (R1.same TO) e2 e3 λt3 vb it Y tk I3 S3 W=>?_)
     (λx s' h'=>aU (zH (aU (rW (gT Wi x) (aU (oj h')))))) λO O e=>e)
    refine aU (wpAny_runOwn ?_);have R3:=(R1.same TO).bl I1 S3;have hD3:ρ∉vb:=jK S3 hD Rr;have x4:vc b ρ t3.heap vb ys:=x3.step I1 S3 aX.nil (λm=>nomatch m) hD;obtain⟨T5,⟨nD4,Wj⟩,_⟩:=id x4;refine ah (R3.uZ) λoC Q7 agJ=>?_;have I4:=I3.more (h':=Y) (t:=tk) W.keep W.low;refine jh (sz I4.1 kA) λIs Kn JY hl3=>?_;have R4:=R3.bl I3 I4.2;have x5:vc b ρ Y vb ys:=x4.keep (λo e=>W.keep ρ o e) (λc B' ⟨o,g1,g2⟩=>⟨o,W.keep _ _ g1,g2⟩) eS
    have DO:∀ a∈[sl,ρ],a∉vb:=λa B=>by
     rcases aT.mp B with wI|B
     .clear nK R2 Kb Ko VE R1 S1 sB By k8 Q7 R4 B;subst wI;exact R3.nG.1
     .rw[az]at B;clear nK yy x2 hD oH Kb x3 k8 Rr x4 Wj x5;subst B;exact hD3
    have Rt:∀ a∈[sl,ρ],∃ o,t3.heap.get? a=f o:=λa B=>by
     rcases aT.mp B with AW|B
     .clear nK R2 Kb Ko VE R1 S1 sB By k8 R3 R4 DO B;subst AW;exact⟨oC,Q7⟩
     .rw[az]at B;clear nK yy x2 hD oH Kb x3 k8 Rr hD3 x4 x5 DO;subst B;exact⟨_,Wj⟩
    obtain⟨fp,wr,St,h2,LM,tJ⟩:=jk.make (s4:={t3 with heap:=Y,toks:=tk}) (F':=[sl,ρ]) (target:=t2) hA.hh (o3 h2') I3 Is W (λO O e=>e) Kn (λa B=>.inr ⟨DO a B,Rt a B⟩) λa B=>cz (Rt a B) λo ho=>⟨o,W.keep a o ho⟩;have yG:∀ a∈[sl,ρ],a∉wr:=λa B=>(h2.Km a B).1
    have NQ:∀(s:aJ) (D:cc) (a:al),ER b (j_ scope cl sl u') (iU scope sc (tn++tn2) (C'++tgt2)) (dS tgt2 eF) s D->vc b ρ s.heap D a->aX [sl,ρ] s.heap:=λs D a hc Aa c U' B' ht=>by
     rcases aT.mp U' with MT|U'
     .clear nK R2 Kb Ko VE R1 S1 sB By k8 R3 Q7 R4 DO Rt h2 yG U';subst MT;obtain⟨o,ho,hd⟩:=hc.uZ;obtain⟨o',qw,_,n',uW⟩:=ht;have ho2:s.heap.get? c=f o:=ho;rw[ho2]at qw;cases qw;exact hd _ _ uW
     .rw[az]at U';clear nK yy x2 hD oH Kb x3 k8 Rr hD3 x4 Wj x5 DO Rt h2 yG;subst U';exact Aa.vd B' ht
    have R5:=R4.same Rq
    have ok:aX ([sl,ρ]++wr) Y:=λa B B' ht=>by
     rcases fG.mp B with B|B
     .exact NQ {t3 with heap:=Y,toks:=tk} vb ys R5 x5 a B B' ht
     .exact h2.Bu LM a B B' ht
    have jW:=z8 Qa σs Wh ys zs xi hl
    have main:R_ (c_ H w) A (.compLoop (.ListComp el [⟨t,i,[],0⟩,⟨t2,i2,[],0⟩] scope p) 1 (.ref it) (.ref ρ) (j_ scope cl sl u')) (λr s'=>match r with|.ok K'=>b_ (c_ H w) A (pure ()) (λO s5=>Q s5) E' s' | .error e=>cameBackBy (c_ H w) A (j_ scope cl sl u') E' e s') {t3 with heap:=Y,toks:=tk}:=by
     refine zZ (ifs:=[]) (p:=i2.pos) (BODY:=do let _ <-call (.builtin "list.append") [.ref ρ,<-H_ el (j_ scope cl sl u')]) (AR:=λh D a=>vc b ρ h D a) (sc:=iU scope sc (tn++tn2) (C'++tgt2)) (C:=dS tgt2 eF) X h2 ok (λs D τ a I hc Aa=>NQ s D a hc Aa) X X X (yG _ aQ) (λy c U' m=>?_) (λh h' D a Aa hk ht=>Aa.keep (λo e=>hk _ o (yG _ (by exact bg _ aQ)) e) ht eS)
      (λx v s D τ kP a a' Q E' Kp I S hc rv Aa Kb=>?_) LM R5 x5 jW λs6 s7 ρ7 I7 S7 hk7 R7 x7=>?_
     .obtain⟨o,ho,_⟩:=R3.qN U';rw[(tJ c m).1]at ho;exact nS ho
     .dsimp only[gL]at Kp;revert Kp;refine mK (λt' zs' ef=>aZ (λhl9 Kp=>?_) nS);revert Kb;refine gI Kp ?_;intro Kb;exact DM VE hS hT bV hk hA adw NP M9 (λx h=>HQ _ h) CA.2.1 nK yy ef hl9 I X hc rv Aa (h2.ownOut S (by exact bg _ aQ)) oH Kb
     .have S2:dB [sl,ρ] t3 s7 vb ρ7 σs Wh:=S7.past hk7 W.keep (λa B=>(tJ a B).1) (λa B=>.inl B) (λa B=>⟨B,yG a B⟩) λi a hi m=>(h2.Ya a m).1 (dU hi);obtain⟨I9,S9⟩:=o5 I3 I7 kA rh S2;refine cy (Kb s7 ρ7 I9 (((S1.weaken (λa B=>by simp at B;simp[B]) k8).trans (S3.weaken (λO m=>nomatch m) k8)).trans S9) ?_ x7);refine(R7.same λj=>(Rq j).symm).weaken λy j hy hu=>?_;rw[bL]at hu;split at hu;exact tF hu
      rename_i IF
      rotate_left;refine J (bL _ _ _) (J (ak IF) ?_);have m2:j∉tgt2:=λm=>IF (by simp[m]);exact J (mR e1 (λm=>IF (by simp[m]):j∉C')) (J (bL _ _ _) (J (ak m2) X))
    have main':R_ (c_ H w) (A.mark V) (.compStart (.ListComp el [⟨t,i,[],0⟩,⟨t2,i2,[],0⟩] scope p) 1 (.ref it) (.ref ρ) (j_ scope cl sl u')) (λr s'=>match r with|.ok K'=>b_ (c_ H w) A (pure ()) (λO s5=>Q s5) E' s' | .error e=>cameBackBy (c_ H w) A (j_ scope cl sl u') E' e s') {t3 with heap:=Y,toks:=tk}:=by refine zc X main ?_;obtain⟨⟨fp',wr',St',Yb,V8,_⟩,_,_⟩:=W;exact(Yb A t2 hA.hh (o3 h2')).self 0 {t3 with heap:=Y,toks:=tk} _ _ V8 main
    exact main'
  exact iv
end
def IJ(H:z_)(w:dc)(b:aJ)(ρ:bU)(h:cE)(D:cc)(bJ:c9):Prop:=∃ Z,h.DictOfH (tk H w) ρ Z/\cL b.heap h D bJ Z
def gD(K':St->AV->af (St × aA × AV))(t:St)(x:AV)(a:c9):af (St × c9):=match K' t x with|f (t',k,v)=>if a.length<=lim then f (t',iI a k v) else .none|V=>V
theorem DP:∀(bJ:c9) (k:aA) (v:AV),bJ.length<=(iI bJ k v).length:=λw'=>by induction w' with|nil=>intro O O;dsimp only[iI];exact jP _|cons p r ih=>
  intro k v;dsimp only[iI];split
  .exact fB _
  .simp[ih k v]
theorem NR{K':St->AV->af (St × aA × AV)}:∀(Z:al) (t t':St) (a a':c9),Bm K' Z t a=f (t',a')->a.length<=a'.length:=λw'=>by induction w' with|nil=>intro t t' a a' h;(dsimp only[Bm]at h;rw[dN,rP]at h);exact J h.2 (fB _)|cons x Z ih=>intro t t' a a' h;revert h;exact wG (λs1 k v e1 h=>aR (DP a k v) (ih _ _ _ _ h))
theorem Kq{K':St->AV->af (St × aA × AV)}:∀(Z:al) (t t':St) (a a':c9),Bm K' Z t a=f (t',a')->a'.length<=lim->qO (gD K') Z t a=f (t',a'):=λw'=>by induction w' with|nil=>intro t t' a a' h O;exact gI h X|cons x Z ih=>intro t t' a a' h hl;have hlen:=NR (x::Z) _ _ _ _ h;revert h;refine wG (λs1 k v e1 h=>?_);dsimp only[qO,gD];refine J e1 ?_;dsimp only;exact J (ai (by exact aR ‹_› ‹_›)) (ih _ _ _ _ h hl)
theorem NS{K':St->AV->af (St × aA × AV)}(h:Dv r ik K'=f (T',z)) :
  ∃ ae v Z lk σs dZ o6 bJ,r=f (ae,v)/\jc ae ik v=f (Z,lk)/\lR ae lk=f σs/\Bm K' Z σs []=f (dZ,bJ)/\iK dZ (rZ ae lk) lk=f o6/\bJ.length<=lim/\o6.push (.dict bJ)=f T'/\z=.ref o6.n:=by
 refine ia λGq zq=>?_;dsimp only[Dv]at h;revert h;refine aM (λae v br=>?_);subst br;refine oM (λZ lk e2=>aZ (λO=>?_) nS);refine ML (λo6 bJ e4=>aZ (λhlen h=>?_) nS);obtain⟨hp,eE⟩:=oX h;clear h;subst eE;revert e4;refine dv (λσs kA=>mJ (λdZ ys1 xi=>dv (λadq rh e4=>?_)));refine zq ?_;clear zq;revert hlen hp;refine gI e4 ?_;intro hlen hp;exact⟨ae,v,Z,lk,σs,dZ,_,_,X,e2,kA,xi,rh,hlen,hp,X⟩
section
variable{w:dc}{b s s1 s':aJ}{mg mb:pS}{D mD b9 F' fp wr:cc}{N σs T' ae τ kP:St}{A:da}{E:cM}{u' aV:r?}{nm:NM}{sc:SC}{C bh:al}{n:a_}{ρ sl:bU}
theorem IJ.keep(x:IJ H w b ρ h D bJ)(hD:∀ o,h.get? ρ=f o->h'.get? ρ=f o)(ht:∀ c B',h.IsTuple c B'->h'.IsTuple c B')(hp:D <+: b9):IJ H w b ρ h' b9 bJ:=by obtain⟨Z,⟨o,es,ep,g1,g2,g3,g4,g5,g6⟩,L⟩:=x;exact aK Z ⟨o,es,ep,hD _ g1,g2,g3,g4,λx hx=>jJ ht (g5 x hx),g6⟩ (L.mono ht hp)
theorem IJ.vd(x:IJ H w b ρ h D bJ)(B':T_ aY):¬ h.IsTuple ρ B':=by obtain⟨Z,⟨o,es,ep,g1,g2,g3,_⟩,L⟩:=x;rintro⟨o',h3,_,n,h4⟩;rw[g1]at h3;obtain rfl:=aw h3;rw[g3]at h4;cases h4
theorem IJ.live(x:IJ H w b ρ h D bJ):∃ o,h.get? ρ=f o:=let ⟨_,⟨o,_,_,g1,_⟩,_⟩:=x;⟨o,g1⟩
theorem IJ.step(x:IJ H w b ρ s.heap D bJ)(I:Inv H w b s D N)(S:dB F' s s' D b9 N T')(ok:aX F' s.heap)(hD:ρ∉F')(V9:ρ∉D):IJ H w b ρ s'.heap b9 bJ:=
 x.keep (λo e=>S.fr ρ o V9 hD e) (I.gK S ok) S.pre
theorem NT(hA:Fy A){Q:j?->aJ->Prop}(I:Inv H w b s D τ)(hD:ρ∉D)(oH:b.heap.get? ρ=V)(x:IJ H w b ρ s.heap D bJ)(hk:N? (m? H w) s.heap ks ka)(ry:bB b.heap s.heap D y v)(hz:bJ.length<=lim)(k:∀ s',Inv H w b s' D τ->dB [ρ] s s' D D τ τ->IJ H w b ρ s'.heap D (iI bJ ks y)->Q () s'):b_ (c_ H w) A (dictSet ρ (.ref ka) v) Q E s:=by
 have ok:aX [ρ] s.heap:=λa B B'=>by rw[az]at B;clear hD oH k;subst B;exact x.vd B'
 refine ah (id x) λZ hd q=>?_;have hn:(Z.map (·.1)).Nodup:=zK hd λO O O O O O O O h=>h;refine wpAny_dictSet_heap (Ip hA) hk hd (λh' uW hs=>?_) (by exact J q.length (aR hz eJ))
 have vs:=I.quiet (F':=[ρ]) (h':=h') (t:=s.toks+(tk H w).draws ks) (λa o Y L=>(hs.2 a λq=>Y (by simp[q])).trans L) ok (λa B=>by rw[az]at B;clear oH x k ok hd uW hs;subst B;exact hD)
  (λa B=>by rw[az]at B;clear hD x k ok hd uW hs;subst B;exact oH) (λa B o O=>by rw[az]at B;clear hD oH x k ok hd hs;subst B;obtain⟨o',_,_,h,_⟩:=uW;exact⟨_,h⟩) (by exact J hs.1 I.low)
 exact k _ vs.1 vs.2 ⟨_,uW,(q.store hn ks ka ry).mono (I.gK vs.2 ok) eS⟩
theorem DQ(Y':Gx b mg mb)(Wk:Sound H w b mg mb n k)(he:Sound H w b mg mb n e)(hi:Sound H w b mg mb n vJ):Sound H w b mg mb n (.jT k e C' ik vJ):=by
 refine Sound.inl (λu' nm sc ex U' cm bV hk hg hb=>?_) λO O O=>X;revert U';refine Qx (λke ve t i scope hv U'=>?_);obtain⟨p,iA⟩:=VW hv;clear hv;subst iA;revert U';refine nz (λtn LN=>dI (λi' Bz U'=>bn7 U' λY L h3 h4 h5 h6 h7=>?_));have hS:=nJ h3;have hT:=sy h4
 have iv:VS H w b n u' sc (.jT k e C' ik vJ) (.DictComp ke ve [⟨t,i,[],0⟩] scope p):=by
  intro A E s D N T' C z Q hA I hc aN K;dsimp only[ev]at aN;obtain⟨ae,v,Z,lk,σs,dZ,o6,bJ,e1,e2,kA,xi,rh,hlen,hp,hz⟩:=NS aN;refine bY (xg hc hS bV) λcl NK F7 F8=>?_;have jW:=Kq Z σs dZ [] bJ xi hlen;refine wpAny_comprehension_free (use:=V) X (gT Y) NK hS.kind hS.locals (Bx Y' hi Bz h5 cm.2.2.2 cm.2.2.1 bV hk hg hb hA I hc e1 e2 λt1 cR it hh1 tk1 I1 S1 W=>?_)
  refine z6 (AR:=IJ H w b) (a0:=([]:c9)) (g:=gD (Q4 (ev k) (ev e) C' C)) (BODY:=λG' aV=>do
    let kv <-H_ ke aV
    let vv <-t? [kv] (H_ ve aV)
    match G' with
    |.ref d=>do
     u0 {ke.pos with endLine:=ve.pos.endLine,endCol:=ve.pos.endCol}
     t? [kv,vv] (dictSet d kv vv)
    |_=>unsupported "internal:dictcomp") (o0:={cls:=.type "dict",data:=.dict #[]}) (tups:=Bw ik) (λs Q h=>kU h) X (.inr X)
   (λρ h D h0=>⟨[],⟨_,_,0,h0,⟨X,X,X⟩,X,X,(λO hx=>nomatch hx),rV⟩,X⟩) (λρ h h' D a x g1 g2=>x.keep g1 g2 eS) (λρ h D a x=>x.vd)
   (λtP G' aV hc s h0 h=>codeAny_compStart_dict h0 h) (λO O O=>X) (λO O O=>X) (λO O O=>X) (λO O O=>X) hS hT bV F7 F8 hA.hh (o3 L) I1 (hc.bl I S1) W kA jW rh (λsl ρ nK yy x v s D τ kP a a' Q E' Kp I2 R2 rv x2 hD oH V7 Kb=>?_) λs2 gH ρ sl m I2 S2 d1 d2 d3 d4 c1 c2 c3 c4 hm x2=>?_
  .have Ko:=jt (scope:=scope) (cl:=cl) (sl:=sl) bV hk;have VK:=(Wk (j_ scope cl sl u') (iS scope.names nm) (iU scope sc tn C') (.inl ke) h6 cm.1 Ko hS.kind hg hb).1;have VE:=(he (j_ scope cl sl u') (iS scope.names nm) (iU scope sc tn C') (.inl ve) h7 cm.2.1 Ko hS.kind hg hb).1;dsimp only[gD]at Kp;revert Kp;refine wG (λt' ks y ef=>aZ (λhl9 Kp=>?_) nS);revert Kb;refine gI Kp ?_;intro Kb;revert ef;refine dY (λeF Z5=>qK (λs3 kt ek=>aM (λs4 y' ey=>fx (λks' IK ef=>?_))));revert Kb;refine JC ef ?_;intro Kb;refine ah (o1 hT.nodup Z5) λRk sA vC=>lV ⟨hS,hT⟩ bV hk hA.hh LN hT.len (λO h=>h) (λO h=>h) sA I2 R2 rv λs1 I3 R3 S3=>Mj (J (ai X) ?_);have sB:aX [sl] s.heap:=(xf.je (cl:=cl) (sl:=sl) ⟨hS,hT⟩ bV hk).ok R2;have x3:IJ H w b ρ s1.heap D a:=x2.step I2 S3 sB (λm=>nK (az.mp m).symm) hD;have By:sl∉D:=R2.nG.1
   have k8:∀ a∈[sl,ρ],a∉D:=λa B=>by
    rcases aT.mp B with j5|B
    .clear nK R2 Ko VK VE Kb R3 S3 sB B;subst j5;exact By
    .rw[az]at B;clear nK yy x2 oH V7 Kb x3;subst B;exact hD
   refine aU (VK A _ s1 D τ s3 eF _ _ hA I3 (R3.same vC) ek λkv t4 Z7 I4 S4 r4=>?_);refine cz (x3.live) λoD Wa=>?_;have T3:ρ∉Z7:=jK S4 hD Wa;have x4:=x3.step I3 S4 aX.nil (λm=>nomatch m) hD;have R4:=(R3.same vC).bl I3 S4;refine aU (oj (VE A _ t4 Z7 s3 s4 eF _ _ hA I4 R4 ey λvv t5 Wd I5 S5 r5=>?_));refine cz (x4.live) λoD2 Wl=>?_;have hD5:ρ∉Wd:=jK S5 T3 Wl;have x5:=x4.step I4 S5 aX.nil (λm=>nomatch m) T3;have R5:=R4.bl I4 S5;have r4':=I4.rep S5 aX.nil r4;rw[ic IK]at r4';refine ah (g7 (w:=w) r4') λka bK hka=>?_;clear r4 r4';subst bK;refine aU (zH (oj (NT hA.a I5 hD5 oH x5 hka r5 hl9 λs6 I6 S6 x6=>?_)));have ZL:aX [ρ] t5.heap:=λa B B'=>by rw[az]at B;clear nK yy x2 hD oH V7 Kb x3 k8 Wa T3 x4 Wl hD5 S6 x6;subst B;exact x5.vd B'
   have Z8:∀ a∈[sl,ρ],a∉Wd:=λa B=>by
    rcases aT.mp B with mj|B
    .clear nK R2 Ko VK VE Kb R3 S3 sB By k8 R4 B;subst mj;exact R5.nG.1
    .rw[az]at B;clear nK yy x2 hD oH V7 Kb x3 k8 Wa T3 x4 Wl x5 S6 x6 ZL;subst B;exact hD5
   have R6:=R5.step I5 S6 ZL (λm=>nK (az.mp m)) λy c U' m=>yy y c U' (az.mp m);exact Kb s6 Wd I6 (((S3.weaken (λa B=>by simp at B;simp[B]) k8).trans ((S4.trans S5).weaken (λO m=>nomatch m) k8)).trans (S6.weaken (λa B=>by simp at B;simp[B]) Z8)) (rj sA vC R6) x6
  .exact DL hp hz I I2 (S1.trans S2) d1 (S1.tR I1 d2) d3 d4 c1 (S1.tR I1 c2) c3 c4 hm (λh' Fj ht'=>x2.keep (λo e=>Fj ρ o (kx c4) e) ht' eS) (ah x2 λO zV O=>DictOfH.cls zV) K
 exact⟨iv,TS.qx iv X⟩
end
section
variable{w:dc}{b:aJ}{mg mb:pS}{n:a_}
theorem DR(U':eH (.bq e C' ik it) nm sc arg=R):∃ el g gs scope p,arg=.inl (.ListComp el (g::gs) scope p)/\(g.is_async != 0)=N':=by cases arg with|inr es=>exact fT U'|inl ex=>revert U';refine TI (λel t i scope hv U'=>?_);obtain⟨p,eE⟩:=Bp hv;clear hv;subst eE;exact Tu _ _ _ _ _ X X
theorem xn(U':eH (.bR e C' ik it c) nm sc arg=R):∃ el g gs scope p,arg=.inl (.ListComp el (g::gs) scope p)/\(g.is_async != 0)=N':=by cases arg with|inr es=>exact fT U'|inl ex=>revert U';refine Mz (λel t i q scope hv U'=>?_);obtain⟨p,iA⟩:=Bp hv;clear hv;subst iA;exact Tu _ _ _ _ _ X X
theorem Ab(U':eH (.dH e C' ik it tgt2 tB qF) nm sc arg=R):∃ el g gs scope p,arg=.inl (.ListComp el (g::gs) scope p)/\(g.is_async != 0)=N':=by refine Mr λGq kq=>?_;cases arg with|inr es=>exact fT U'|inl ex=>revert U';refine Ik (λel t i t2 i2 scope hv U'=>?_);obtain⟨p,j5⟩:=IA hv;clear hv;subst j5;exact kq _ _ _ _ _ X X
theorem DT(Y':Gx b mg mb)(he:Sound H w b mg mb n e)(hi:Sound H w b mg mb n vJ):Sound H w b mg mb n (.bq e C' ik vJ):=Sound.ofU (sC Y' he hi) λO O O h=>DR h
theorem zd(Y':Gx b mg mb)(he:Sound H w b mg mb n e)(hi:Sound H w b mg mb n vJ)(U':Sound H w b mg mb n c):Sound H w b mg mb n (.bR e C' ik vJ c):=Sound.ofU (o8 Y' he hi U') λO O O h=>xn h
theorem BB(Y':Gx b mg mb)(he:Sound H w b mg mb n e)(hi:Sound H w b mg mb n vJ)(Ro:Sound H w b mg mb n Rp):Sound H w b mg mb n (.dH e C' ik vJ tgt2 tB Rp):=Sound.ofU (qP Y' he hi Ro) λO O O h=>Ab h
theorem sound(Y':Gx b mg mb):∀ c:CE,Sound H w b mg mb n c:=by intro c;induction c with|k v=>exact Rh Y' v|glob x v=>exact FU Y' x v|var i=>exact J9 i|bin o x y hx hy=>exact Ka hx hy|neg a B=>exact Kc B|cmp o x y hx hy=>exact Ke hx hy|isNone y a B=>exact Br B|isin y x d hx hd=>exact FV hx hd|and x y hx hy=>exact Ki hx hy|or x y hx hy=>exact Ny hx hy|not a B=>exact Kd B|ite t x y ht hx hy=>exact Kj ht hx hy|call K' F P as B=>exact FX Y' B|bi k as B=>exact Nz Y' B|idx a i B hi=>exact Kk B hi|gJ a k B hk=>exact FY B hk|fq a k B hk=>exact Bt B hk|bc as B=>exact FZ B|lst as B=>exact Kl B|gz=>exact DG|kX k v hk hv=>exact DH hk hv|bq e C' ik it he hi=>exact DT Y' he hi|bR e C' ik it c he hi U'=>exact zd Y' he hi U'|dH e C' ik it tgt2 tB qF he hi Ro=>exact BB Y' he hi Ro|jT k v C' ik it hk hv hi=>exact DQ Y' hk hv hi|bad=>exact Kg|nil=>exact Kh|cons e r he hr=>exact FW he hr
theorem Wm(Y':Gx b mg mb)(c:CE):xj H w b mg mb n c:=by cases c with|bq e C' ik it=>exact sC Y' (sound Y' e) (sound Y' it)|bR e C' ik it c=>exact o8 Y' (sound Y' e) (sound Y' it) (sound Y' c)|dH e C' ik it tgt2 tB qF=>exact qP Y' (sound Y' e) (sound Y' it) (sound Y' qF)|bad=>intro u' nm sc e hl U' cm bV hk hg hb A E s D N T' C z use Q Ga i scope hA I hc aN;exact nS aN|_=>intro u' nm sc e hl U';refine YI (Rn hl) λel gens scope lp ZJ=>?_;subst ZJ;exact fT U'
end
set_option backward.match.sparseCases false
noncomputable def NU (e:G_):af {x:av × av × Pos // e=.Assign [x.1] x.2.1 x.2.2}:=match e with|.Assign [t] v p=>f ⟨(t,v,p),X⟩|_=>V
def vX(e:G_):af (av × av × Pos):=(NU e).map l_
noncomputable def Z9 (e:G_):af {x:av × A? × av // ∃ p,e=.AugAssign x.1 x.2.1 x.2.2 p}:=match e with|.AugAssign t o v p=>f ⟨(t,o,v),p,X⟩|_=>V
def Wn(e:G_):af (av × A? × av):=(Z9 e).map l_
noncomputable def aaa (e:G_):af {x:av // ∃ p,e=.Return (f x) p}:=match e with|.Return (f r) p=>f ⟨r,p,X⟩|_=>V
def aab(e:G_):af (av):=(aaa e).map l_
noncomputable def adB (e:G_):af {x:av × d_ G_ × d_ G_ // ∃ p,e=.If x.1 x.2.1 x.2.2 p}:=match e with|.If t a b p=>f ⟨(t,a,b),p,X⟩|_=>V
def sIf(e:G_):af (av × d_ G_ × d_ G_):=(adB e).map l_
noncomputable def Ru (e:G_):af {x:av × d_ G_ // ∃ p,e=.While x.1 x.2 [] p}:=match e with|.While t b [] p=>f ⟨(t,b),p,X⟩|_=>V
def NV(e:G_):af (av × d_ G_):=(Ru e).map l_
noncomputable def aac (e:G_):af {x:av × av × d_ G_ // ∃ p,e=.For x.1 x.2.1 x.2.2 [] p}:=match e with|.For t i b [] p=>f ⟨(t,i,b),p,X⟩|_=>V
def aad(e:G_):af (av × av × d_ G_):=(aac e).map l_
noncomputable def Wo (e:G_):af {x:j? // ∃ p,e=.Continue p}:=match e with|.Continue p=>f ⟨(),p,X⟩|_=>V
def T6(e:G_):e_:=(Wo e).isSome
noncomputable def Wq (e:G_):af {x:av // ∃ p,e=.Expr x p}:=match e with|.Expr r p=>f ⟨r,p,X⟩|_=>V
def xo(e:G_):af (av):=(Wq e).map l_
noncomputable def Wr:G_->e_|.Raise ..=>R|_=>N'
noncomputable def Wt (e:av):af {x:av × o_ × dD // ∃ n p ap cp,x.1=.Name n p/\e=.Call (.Attribute (.Name n p) x.2.1 ap) x.2.2 [] cp/\(ap.endLine==cp.line)=R}:=match e with|.Call (.Attribute (.Name n p) m ap) as [] cp=>if q:(ap.endLine==cp.line)=R then f ⟨(.Name n p,m,as),n,p,ap,cp,X,X,q⟩ else .none|_=>V
def T7(e:av):af (av × o_ × dD):=(Wt e).map l_
theorem rl(h:vX e=f (t,v,p)):e=.Assign [t] v p:=(vG h :)
theorem IL(h:Wn e=f (t,o,v)):∃ p,e=.AugAssign t o v p:=(vG h :)
theorem Rv(h:aab e=f r):∃ p,e=.Return (f r) p:=(vG h :)
theorem Wu(h:sIf e=f (t,a,b)):∃ p,e=.If t a b p:=(vG h :)
theorem Kr(h:NV e=f (t,b)):∃ p,e=.While t b [] p:=(vG h :)
theorem Rw(h:aad e=f (t,i,b)):∃ p,e=.For t i b [] p:=(vG h :)
theorem NW(h:T6 e=R):∃ p,e=.Continue p:=(Zx h :)
theorem mS(h:xo e=f r):∃ p,e=.Expr r p:=(vG h :)
theorem NX(h:T7 e=f (o,m,as)):∃ x p ap cp,o=.Name x p/\e=.Call (.Attribute (.Name x p) m ap) as [] cp/\(ap.endLine==cp.line)=R:=(vG h :)
noncomputable def NY:av->e_
 |.ListComp .. | .SetComp .. | .DictComp ..=>N'
 |_=>R
noncomputable def Ac:av->e_
 |.SetComp .. | .DictComp ..=>N'
 |_=>R
noncomputable def xr:av->e_|.Tuple M O O'=>(M.all (foldedForSure 8)||!(M.all (constantsAlone 8)))|_=>R
set_option backward.match.sparseCases true
def tT(m:o_)(k:a_)(e:av):af (av × dD):=match T7 e with|f (o,m',as)=>if m=m'/\as.length=k then f (o,as) else .none|V=>V
def sD:CS->NM->SC->G_ ⊕ d_ G_->e_
 |.assign i e,nm,sc,q=>match q with|.inr _=>N' | .inl st=>match vX st with|f (t,v,O)=>(match u5 t with|f x=>sc.any (λq=>decide (q=(x,i)))&&Ac v&&eH e nm sc (.inl v)|V=>N')|V=>N'
 |.bj is e,nm,sc,q=>match q with|.inr _=>N' | .inl st=>match vX st with|f (t,v,O)=>(match eK t with|f tn=>qZ t&&decide (tn.length=is.length)&&j7 is&&j7 tn&&(tn.zip is).all (λp=>sc.any λq=>decide (q=p))&&xr v&&eH e nm sc (.inl v)|V=>N')|V=>N'
 |.dd o i e,nm,sc,q=>match q with|.inr _=>N' | .inl st=>match vX st with|f (t,v,O)=>(match J6 t with|f (a,j)=>eH (.var o) nm sc (.inl a)&&eH i nm sc (.inl j)&&eH e nm sc (.inl v)|V=>N')|V=>N'
 |.aug k i e,nm,sc,q=>match q with|.inr _=>N' | .inl st=>match Wn st with|f (t,op,v)=>(match u5 t with|f x=>decide (op=binOp k)&&(decide (op=.Add)||decide (op=.Sub))&&sc.any (λq=>decide (q=(x,i)))&&eH e nm sc (.inl v)|V=>N')|V=>N'
 |.iJ k o i e,nm,sc,q=>match q with|.inr _=>N' | .inl st=>match Wn st with|f (t,op,v)=>(match J6 t with|f (a,j)=>decide (op=binOp k)&&(decide (op=.Add)||decide (op=.Sub))&&xb j&&eH (.var o) nm sc (.inl a)&&eH i nm sc (.inl j)&&eH e nm sc (.inl v)|V=>N')|V=>N'
 |.ret e,nm,sc,q=>match q with|.inr _=>N' | .inl st=>match aab st with|f v=>eH e nm sc (.inl v)|V=>N'
 |.iff t a b,nm,sc,q=>match q with|.inr _=>N' | .inl st=>match sIf st with|f (x,y,z)=>eH t nm sc (.inl x)&&sD a nm sc (.inr y)&&sD b nm sc (.inr z)|V=>N'
 |.kF t b,nm,sc,q=>match q with|.inr _=>N' | .inl st=>match NV st with|f (x,y)=>eH t nm sc (.inl x)&&sD b nm sc (.inr y)|V=>N'
 |.gE C' ik it b,nm,sc,q=>match q with|.inr _=>N' | .inl st=>match aad st with|f (t,i,y)=>(match eK t with|f tn=>(match nH nm ik i with|f i'=>fM i&&u6 ik t&&decide (tn.length=C'.length)&&j7 C'&&(tn.zip C').all (λp=>sc.any λq=>decide (q=p))&&eH it nm sc (.inl i')&&sD b nm sc (.inr y)|V=>N')|V=>N')|V=>N'
 |.cont,O,O',q=>match q with|.inr _=>N' | .inl st=>T6 st
 |.qt d k,nm,sc,q=>match q with|.inr _=>N' | .inl st=>match xo st with|f e=>(match tT "pop" 2 e with|f (o,[a,x])=>eH (.var d) nm sc (.inl o)&&gR a&&eH k nm sc (.inl a)&&decide (Bn x=f .none)|_=>N')|V=>N'
 |.qu d k,nm,sc,q=>match q with|.inr _=>N' | .inl st=>match xo st with|f e=>(match tT "pop" 1 e with|f (o,[a])=>eH (.var d) nm sc (.inl o)&&gR a&&eH k nm sc (.inl a)|_=>N')|V=>N'
 |.append l x,nm,sc,q=>match q with|.inr _=>N' | .inl st=>match xo st with|f e=>(match tT "append" 1 e with|f (o,[a])=>eH (.var l) nm sc (.inl o)&&gR a&&eH x nm sc (.inl a)|_=>N')|V=>N'
 |.extend l x,nm,sc,q=>match q with|.inr _=>N' | .inl st=>match xo st with|f e=>(match tT "extend" 1 e with|f (o,[a])=>eH (.var l) nm sc (.inl o)&&gR a&&eH x nm sc (.inl a)|_=>N')|V=>N'
 |.sort l,nm,sc,q=>match q with|.inr _=>N' | .inl st=>match xo st with|f e=>(match tT "sort" 0 e with|f (o,[])=>eH (.var l) nm sc (.inl o)|_=>N')|V=>N'
 |.expr e,nm,sc,q=>match q with|.inr _=>N' | .inl st=>match xo st with|f v=>NY v&&eH e nm sc (.inl v)|V=>N'
 |.raise,O,O',q=>match q with|.inr _=>N' | .inl st=>Wr st
 |.skip,O,O',q=>match q with|.inl _=>N' | .inr LO=>LO.isEmpty
 |.seq a b,nm,sc,q=>match q with|.inl _=>N' | .inr LO=>match LO with|st::LO=>sD a nm sc (.inl st)&&sD b nm sc (.inr LO)|[]=>N'
end Mine.Internal
end
section
open PySem PyProof.Rows
namespace Mine.Internal
noncomputable def je (u':r?) (sc:SC):cc:=u'.locals::sc.filterMap λp=>u'.cells.lookup p.1
theorem kI(h:∀ x∈ns,∃ i,(x,i)∈sc):DI u' (je u' sc) ns:=by
 refine⟨λa B=>?_,aQ,λx hx O c U'=>?_⟩
 .rcases aT.mp B with eE|B
  .clear B;subst eE;exact .inl X
  .refine ah (US.mp B) λp O L=>?_;exact .inr ⟨_,L⟩
 .obtain⟨i,hi⟩:=h x hx;exact bg _ (US.mpr ⟨(x,i),hi,U'⟩)
section
variable(H:z_)(w:dc)(b:aJ)(mg mb:pS)
def T8(J' h:cE)(D:cc):Fl->Flow->Prop|.next,.next=>f?|.cont,.cont=>f?|.ret v,.ret u=>bB J' h D v u|O,O'=>False
def Qd(n:a_):CS->Prop|.assign O e=>Ok H w b mg mb n e|.bj O e=>Ok H w b mg mb n e|.dd o i e=>Ok H w b mg mb n (.var o)/\Ok H w b mg mb n i/\Ok H w b mg mb n e|.aug O O' e=>Ok H w b mg mb n e|.iJ O o i e=>Ok H w b mg mb n (.var o)/\Ok H w b mg mb n i/\Ok H w b mg mb n e|.ret e=>Ok H w b mg mb n e|.iff t a c=>Ok H w b mg mb n t/\Qd n a/\Qd n c|.kF t a=>Ok H w b mg mb n t/\Qd n a|.gE O ik it a=>sv mg mb ik/\Ok H w b mg mb n it/\Qd n a|.cont=>f?|.qt d k=>Ok H w b mg mb n (.var d)/\Ok H w b mg mb n k|.qu d k=>Ok H w b mg mb n (.var d)/\Ok H w b mg mb n k|.append l e=>Ok H w b mg mb n (.var l)/\Ok H w b mg mb n e|.extend l e=>Ok H w b mg mb n (.var l)/\Ok H w b mg mb n e|.sort l=>Ok H w b mg mb n (.var l)|.expr e=>Ok H w b mg mb n e|.raise=>f?|.skip=>f?|.seq a c=>Qd n a/\Qd n c
def SSx(n:a_)(u':r?)(sc:SC)(c:CS)(run:Sem Flow):Prop:=
 ∀(A:da) (E:cM) (s:aJ) (D:cc) (N T':St) (C bh:al) (K':Fl) (Q:Flow->aJ->Prop),DB n A->Inv H w b s D N->ER b u' sc C s D->ex c N C=f (T',bh,K') ->
  (∀ fl s' b9,Inv H w b s' b9 T'->ER b u' sc bh s' b9->dB (je u' sc) s s' D b9 N T'->T8 b.heap s'.heap b9 K' fl->Q fl s')->b_ (c_ H w) A run Q E s
def bG(n:a_)(c:CS):Prop:=∀(u':r?) (nm:NM) (sc:SC) (arg:G_ ⊕ d_ G_),sD c nm sc arg=R->Qd H w b mg mb n c->(∀ x,u'.kindOf x=nm.lookup x)->u'.scope.kind=.function->u'.globals=A_->u'.builtins=M_->match arg with|.inl st=>SSx H w b n u' sc c (exec st u')|.inr LO=>SSx H w b n u' sc c (execs LO u')
end
section
variable{w:dc}{b s s1 s':aJ}{mg mb:pS}{D mD b9 F' fp wr:cc}{N σs T' ae τ kP:St}{A:da}{E:cM}{u':r?}{nm:NM}{sc:SC}{C bh:al}{n:a_}
theorem bG.inl{c:CS}(h:∀(u':r?) (nm:NM) (sc:SC) (st:G_),sD c nm sc (.inl st)=R->Qd H w b mg mb n c->(∀ x,u'.kindOf x=nm.lookup x)->u'.scope.kind=.function->u'.globals=A_->u'.builtins=M_->SSx H w b n u' sc c (exec st u'))(hr:∀ nm sc es,sD c nm sc (.inr es)=N'):bG H w b mg mb n c:=λu' nm sc arg=>match arg with|.inl e=>h u' nm sc e|.inr es=>λU'=>fT ((hr nm sc es).symm.trans U')
theorem mT(hc:ER b u' sc C s D):∀ a∈je u' sc,a∉D:=(kI (ns:=[]) (λO h=>nomatch h)).out hc
theorem xt(hc:ER b u' sc C s D):aX (je u' sc) s.heap:=(kI (ns:=[]) (λO h=>nomatch h)).ok hc
theorem dB.up(S:dB [] s s' D b9 N T')(hc:ER b u' sc C s D):dB (je u' sc) s s' D b9 N T':=S.weaken (λO m=>nomatch m) (mT hc)
theorem Rx:bG H w b mg mb n .skip:=by intro u' nm sc arg U' cm bV hk hg hb;cases arg with|inl st=>exact fT U'|inr LO=>dsimp only[sD]at U';obtain rfl:=UM.mp U';intro A E s D N T' C bh K' Q hA I hc aN K;dsimp only[ex]at aN;simp only[dN,rP]at aN;obtain⟨iA,j5,mj⟩:=aN;subst iA;subst j5;subst mj;exact Mf (K .next s D I hc (dB.refl _ _ _ _) Z')
theorem Wv(B:bG H w b mg mb n a)(hcc:bG H w b mg mb n c):bG H w b mg mb n (.seq a c):=by intro u' nm sc arg U' cm bV hk hg hb;cases arg with|inl st=>exact fT U'|inr LO=>cases LO with|nil=>exact fT U'|cons st LO=>
   dsimp only[sD]at U';rw[jb]at U';have SA:=B u' nm sc (.inl st) U'.1 cm.1 bV hk hg hb;have SC':=hcc u' nm sc (.inr LO) U'.2 cm.2 bV hk hg hb;intro A E s D N T' C bh K' Q hA I hc aN K;dsimp only[ex]at aN;refine wpAny_execs_cons ?_;revert aN;refine Vo (λs1 k9 e1 aN=>?_) (λd9 aN=>?_)
   .refine SA A E s D N s1 C k9 .next _ hA I hc e1 λfl t1 cR I1 R1 S1 hf=>?_;cases fl with|next=>exact SC' A E t1 cR s1 T' k9 bh K' Q hA I1 R1 aN λfl s' b9 I' R' S' hf'=>K fl s' b9 I' R' (S1.trans S') hf'|_=>exact hf.elim
   .refine SA A E s D N T' C bh K' _ hA I hc aN λfl t1 cR I1 R1 S1 hf=>?_;cases fl with|next=>(cases K' with|next=>exact(d9 T' bh aN).elim|_=>exact hf.elim)|brk=>(clear K aN;cases K')<;>exact hf.elim|cont=>exact K _ t1 cR I1 R1 S1 hf|ret u=>exact K _ t1 cR I1 R1 S1 hf
theorem NZ:bG H w b mg mb n .raise:=by refine bG.inl (λu' nm sc st U' cm bV hk hg hb=>?_) λO O O=>X;intro A E s D N T' C bh K' Q hA I hc aN K;exact nS aN
theorem Ry:bG H w b mg mb n .cont:=by refine bG.inl (λu' nm sc st U' cm bV hk hg hb=>?_) λO O O=>X;dsimp only[sD]at U';refine cz (NW U') λp aL=>?_;clear U';subst aL;intro A E s D N T' C bh K' Q hA I hc aN K;dsimp only[ex]at aN;simp only[dN,rP]at aN;obtain⟨oN,qv,vA⟩:=aN;subst oN;subst qv;subst vA;exact wpAny_Continue (K .cont s D I hc (dB.refl _ _ _ _) Z')
theorem Ww(Y':Gx b mg mb):bG H w b mg mb n (.ret e):=by refine bG.inl (λu' nm sc st U' cm bV hk hg hb=>?_) λO O O=>X;revert U';refine dI (λv hv U'=>?_);obtain⟨p,yD⟩:=Rv hv;clear hv;subst yD;intro A E s D N T' C bh K' Q hA I hc aN K;revert aN;refine aM (λs1 x e1 aN=>?_);revert K;refine JC aN ?_;intro K;exact wpAny_Return_some (((sound Y' e u' nm sc (.inl v) U' cm bV hk hg hb).1) A E s D N s1 C x _ hA I hc e1 λu t1 cR I1 S1 r1=>K (.ret u) t1 cR I1 (hc.bl I S1) (S1.up hc) r1)
theorem Wx(Y':Gx b mg mb)(hx:bG H w b mg mb n x)(hy:bG H w b mg mb n y):bG H w b mg mb n (.iff t x y):=by
 refine bG.inl (λu' nm sc st U' cm bV hk hg hb=>?_) λO O O=>X;revert U';refine MM (λte bs os hv U'=>?_);obtain⟨p,Dc⟩:=Wu hv;clear hv;subst Dc;simp only[jb]at U';have T:=(sound Y' t u' nm sc (.inl te) U'.1.1 cm.1 bV hk hg hb).2;intro A E s D N T' C bh K' Q hA I hc aN K;revert aN;refine r7 (λs1 e1 aN=>?_) (λs1 e1 aN=>?_)
 .exact wpAny_If (T A E s D N s1 C R _ hA I hc e1 λt1 cR I1 S1=>(hx u' nm sc (.inr bs) U'.1.2 cm.2.1 bV hk hg hb) A E t1 cR s1 T' C bh K' Q hA I1 (hc.bl I S1) aN λfl s' b9 I' R' S' hf=>K fl s' b9 I' R' ((S1.up hc).trans S') hf)
 .exact wpAny_If (T A E s D N s1 C N' _ hA I hc e1 λt1 cR I1 S1=>(hy u' nm sc (.inr os) U'.2 cm.2.2 bV hk hg hb) A E t1 cR s1 T' C bh K' Q hA I1 (hc.bl I S1) aN λfl s' b9 I' R' S' hf=>K fl s' b9 I' R' ((S1.up hc).trans S') hf)
theorem BC{t:St->al->jn}{K':St->al->af (St × al × Fl)}(h:eX t K' k N C=f r):∃ k',k=k'+1:=by cases k with|zero=>exact nS h|succ k=>exact⟨k,X⟩
theorem Rz(Y':Gx b mg mb)(hx:bG H w b mg mb n x):bG H w b mg mb n (.kF t x):=by
 refine bG.inl (λu' nm sc st U' cm bV hk hg hb=>?_) λO O O=>X;revert U';refine MP (λte bs hv U'=>?_);obtain⟨p,wI⟩:=Kr hv;clear hv;subst wI;simp only[jb]at U';have T:=(sound Y' t u' nm sc (.inl te) U'.1 cm.1 bV hk hg hb).2;have aj:=hx u' nm sc (.inr bs) U'.2 cm.2 bV hk hg hb;intro A E s D N T' C bh K' Q hA I hc aN K;dsimp only[ex]at aN;refine wpAny_While (codeAny_whileLoop (λk s1=>∃ cR τ k9,Inv H w b s1 cR τ/\ER b u' sc k9 s1 cR/\dB (je u' sc) s s1 D cR N τ/\eX (ev t) (ex x) k τ k9=f (T',bh,K')) ?_ 100000 ⟨D,N,C,I,hc,dB.refl _ _ _ _,aN⟩);rintro k s1 ⟨cR,τ,k9,I1,R1,S1,hw⟩;obtain⟨k',AW⟩:=BC hw;subst AW;revert hw;refine r7 (λs2 e1 hw=>?_) (λs2 e1 hw=>?_)
 .refine T A _ s1 cR τ s2 k9 R _ hA I1 R1 e1 λt2 gH I2 S2=>J (ai X) ?_;have R2:=R1.bl I1 S2;revert hw;refine MS (λs3 sl3 v e2 hw=>?_) (λs3 sl3 f3 e2 d9 hw=>?_) nS
  .revert K;refine JC hw ?_;intro K;refine aj A _ t2 gH s2 s3 k9 sl3 _ _ hA I2 R2 e2 λfl t3 vb I3 R3 S3 hf=>?_;cases fl with|ret u=>exact K (.ret u) t3 vb I3 R3 ((S1.trans (S2.up R1)).trans S3) hf|_=>exact hf.elim
  .refine aj A _ t2 gH s2 s3 k9 sl3 f3 _ hA I2 R2 e2 λfl t3 vb I3 R3 S3 hf=>?_;have S':=(S1.trans (S2.up R1)).trans S3;cases f3 with|ret v=>exact(d9 v X).elim|next=>(cases fl with|next=>exact⟨k',lN _,vb,s3,sl3,I3,R3,S',hw⟩|_=>exact hf.elim)|cont=>cases fl with|cont=>exact⟨k',lN _,vb,s3,sl3,I3,R3,S',hw⟩|_=>exact hf.elim
 .revert K;refine JC hw ?_;intro K;exact T A _ s1 cR τ s2 k9 N' _ hA I1 R1 e1 λt2 gH I2 S2=>J (ak (by decide)) (Mf (K .next t2 gH I2 (R1.bl I1 S2) (S1.trans (S2.up R1)) Z'))
end
section
variable{w:dc}{b s s1 s':aJ}{mg mb:pS}{D mD b9 F' fp wr:cc}{N σs T' ae τ kP:St}{A:da}{E:cM}{u':r?}{nm:NM}{sc:SC}{C bh:al}{n:a_}
theorem lq(h:iR r C=f (T',bh,K')):r=f T'/\bh=C/\K'=.next:=by delta iR at h;revert h;refine dv (λO br h=>?_);subst br;exact JC h (qH X X X)
theorem DU(hx:(x,i)∈sc)(I:Inv H w b s D N)(hc:ER b u' sc C s D)(rv:bB b.heap s.heap D v u){Q:j?->aJ->Prop}(k:∀ s',Inv H w b s' D N->ER b u' sc (aE C i v) s' D->dB (je u' sc) s s' D D N N->Q () s') :
  b_ (c_ H w) A (storeName u' x u) Q E s:=by
 have W:=kI (u':=u') (sc:=sc) (ns:=[x]) λy hy=>⟨i,by rw[az]at hy;subst hy;exact hx⟩;exact hc.store I hx rv W.loc (λhk c U'=>W.VY x aQ hk c U') (W.out hc) λs' I' R' S' O=>k s' I' R' S'
theorem BD(h:sc.any (λp=>decide (p=q))=R):q∈sc:=by refine ah (LX.mp h) λp Y L=>?_;exact dR (dW L) Y
theorem DV(h:NN v=N')(hd:Ac v=R)(t:af av)(l:a_):R? v t l u'=pure N':=by cases v<;>first|rfl|((dsimp only[NN]at h;simp at h);done)|(exact fT hd;done)
theorem ER.aaf(hc:ER b u' sc C s D){t:Tok}{m:pS}(hm:s.heap.Ns sl m)(hs:r_ sl s.heap h')(hL:u'.locals≠sl)(hC:∀ x c,u'.cells.lookup x=f c->c≠sl):ER b u' sc C {s with heap:=h',toks:=t} D:=by
 have ok:aX [sl] s.heap:=aX.of λa B oo LL Z n e=>by rw[az]at B;clear hs hL hC;subst B;obtain⟨o',_,_,Y,L,_⟩:=hm;rw[Y]at LL;obtain rfl:=aw LL;rw[L]at e;cases e
 exact hc.kept (F':=[sl]) (λa o Y L=>(hs.2 a λq=>Y (by simp[q])).trans L) ok (λq=>hL (az.mp q)) λx c U' q=>hC x c U' (az.mp q)
theorem Ks{Q:Flow->aJ->Prop}(hx:(x,i)∈sc)(I:Inv H w b s D N)(hc:ER b u' sc C s D)(K:∀ s' b9,Inv H w b s' b9 T'->ER b u' sc (aE C i z) s' b9->dB (je u' sc) s s' D b9 N T'->Q .next s') :
  o7 H w b A E (f (assign (.Name x px) u')) (λO s'=>Q .next s') s D N T' z:=by
 intro s2 gH ρ sl m o6 ys hp hz I2 S2 d1 d2 d3 d4 c1 c2 c3 c4 hm x2;refine ah (id x2) λM zV hr=>?_;obtain⟨I3,AX⟩:=I2.adopt (PlainList.cls zV) d1 d3 d4 hp ⟨M,zV,hr⟩;have S3:=S2.adopt I I2 (o:=.list ys) d2 hp;have R3:=hc.bl I S3;subst hz;have hLC:u'.locals≠sl:=λq=>by refine ah (hc.uZ) λo ho O=>?_;rw[q,c2]at ho;exact nS ho
 have hCC:∀ x c,u'.cells.lookup x=f c->c≠sl:=λy c U' q=>by refine ah (hc.qN U') λo ho O=>?_;rw[q,c2]at ho;exact nS ho
 have By:sl∉je u' sc:=λq=>by
  rcases(kI (u':=u') (sc:=sc) (ns:=[]) (λO h=>nomatch h)).sub sl q with q|⟨y,q⟩
  .exact hLC q.symm
  .exact hCC y sl q X
 have NC:sl∉gH++[ρ]:=λq=>by
  rcases fG.mp q with q|q
  .exact c1 q
  .exact c4 (az.mp q)
 show b_ _ A (assign (.Name x px) u' (.ref ρ)) _ _ s2;have W:=kI (u':=u') (sc:=sc) (ns:=[x]) λy hy=>⟨i,by rw[az]at hy;subst hy;exact hx⟩;refine Me (R3.store I3 hx (bB.ref AX) W.loc (λhk c U'=>W.VY x aQ hk c U') (W.out R3) λs4 I4 R4 S4 ID=>?_);have hm4:s4.heap.Ns sl m:=Ns.kept hm λo e=>ID sl o By e;refine aK m hm4 (λh' hs=>?_);have hk:∀ a o,a∉[sl]->s4.heap.get? a=f o->h'.get? a=f o:=λa o Y L=>(hs.2 a λq=>Y (by simp[q])).trans L;have sB:aX [sl] s4.heap:=aX.of λa B oo LL Z n e=>by rw[az]at B;clear c1 c2 c3 c4 hm hLC hCC By NC hs hk;subst B;obtain⟨o',_,_,Y,L,_⟩:=hm4;rw[Y]at LL;obtain rfl:=aw LL;rw[L]at e;cases e
 have R5:=R4.aaf (h':=h') (t:=s4.toks) hm4 hs hLC hCC;refine K {s4 with heap:=h'} _ (I4.kept (F':=[sl]) (h':=h') (t:=s4.toks) hk sB (λa B=>by rw[az]at B;clear c1 c2 c3 c4 hm hLC hCC By hm4 hs hk sB;subst B;exact NC) (λa B=>by rw[az]at B;clear c1 c2 c4 hm hLC hCC By NC hm4 hs hk sB;subst B;exact c3) (by exact J hs.1 I4.low)) R5 ?_;have T9:=(S3.weaken (λO m=>nomatch m) (mT hc)).trans S4;refine⟨T9.pre,T9.new,λa o Y L h3=>(hs.2 a λq=>?_).trans (T9.fr a o Y L h3),T9.flags,λj a o Y L h3=>(hs.2 a λq=>?_).trans (T9.lock j a o Y L h3),λa B o ho=>?_⟩
 .rw[q,c2]at h3;exact nS h3
 .rw[q,c2]at h3;exact nS h3
 .obtain⟨o',qw⟩:=T9.Dd a B o ho;exact⟨o',(hs.2 a λq=>By (q▸B)).trans qw⟩
theorem Wy(U':eH c nm sc (.inl (.ListComp el gens scope lp))=R):(∃ g gs,gens=g::gs/\(g.is_async != 0)=N')\/c=.bad:=by cases c with|bq e C' ik it=>(refine wD (DR U') λel' g gs N0 p q h=>?_;clear U';cases q;exact .inl ⟨g,gs,X,h⟩)|bR e C' ik it c=>(refine wD (xn U') λel' g gs N0 p q h=>?_;clear U';cases q;exact .inl ⟨g,gs,X,h⟩)|dH e C' ik it tgt2 tB qF=>(refine wD (Ab U') λel' g gs N0 p q h=>?_;clear U';cases q;exact .inl ⟨g,gs,X,h⟩)|bad=>exact .inr X|_=>exact fT U'
theorem Ku(Y':Gx b mg mb):bG H w b mg mb n (.assign i e):=by
 refine bG.inl (λu' nm sc st U' cm bV hk hg hb=>?_) λO O O=>X;revert U';refine wH (λt v p hv U'=>?_);obtain rfl:=rl hv;revert U';refine vU (λx hx U'=>?_);obtain⟨px,eE⟩:=lg hx;clear hx;subst eE;refine JB U' λY L h3=>?_;have fC:=BD Y;have iv:=(sound Y' e u' nm sc (.inl v) h3 cm bV hk hg hb).1;intro A E s D N T' C bh K' Q hA I hc aN K;revert aN;refine aM (λs1 z e1 aN=>?_);revert K;refine JC aN ?_;intro K
 have plain:R? v (f (.Name x px)) p.line u'=pure N'->b_ (c_ H w) A (exec (.Assign [.Name x px] v p) u') Q E s:=λKv=>
  wpAny_Assign_Name (iv A E s D N s1 C z _ hA I hc e1 λu t1 cR I1 S1 r1=>DU fC I1 (hc.bl I S1) r1 λs2 I2 R2 S2=>K .next s2 cR I2 R2 ((S1.up hc).trans S2) Z') Kv
 cases hl:NN v with|false=>exact plain (DV hl L _ _)|true=>
  have U:=Wm Y' e u' nm sc v hl h3 cm bV hk hg hb
  cases v with
  |ListComp el gens scope lp=>have Kv:∃ bb,R? (.ListComp el gens scope lp) (f (.Name x px)) p.line u'=pure bb:=⟨_,X⟩;obtain⟨bb,Kv⟩:=Kv;cases bb with|false=>exact plain Kv|true=>
    refine J (exec_Assign_Name_used _ _ _ _ Kv) (aU (zH (aU ?_)));rcases Wy h3 with ⟨g,gs,rfl,has⟩|rfl
    .obtain⟨t0,i0,DN,a0⟩:=g;have e2:firstAsync (⟨t0,i0,DN,a0⟩::gs)=N':=has;show b_ (c_ H w) A (do let _ <-comprehension (.ListComp el (⟨t0,i0,DN,a0⟩::gs) scope lp) scope u' (firstIterPos (⟨t0,i0,DN,a0⟩::gs) lp) (newList []) (firstAsync (⟨t0,i0,DN,a0⟩::gs)) (firstIter (⟨t0,i0,DN,a0⟩::gs) u') (f (assign (.Name x px) u'))) _ _ _;refine J e2 (aU (om (U A E s D N s1 C z (f (assign (.Name x px) u')) (λO s'=>Q .next s') _ i0 scope hA I hc e1 X (Ks fC I hc λs' b9 I' R' S'=>K .next s' b9 I' R' S' Z')) (λO s' hq=>cy (cy hq)) λO O h=>h))
    .exact nS e1
  |_=>exact fT hl
end
section
variable{w:dc}{b s s1 s':aJ}{mg mb:pS}{D mD b9 F' fp wr:cc}{N σs T' ae τ kP:St}{A:da}{E:cM}{u':r?}{nm:NM}{sc:SC}{C bh:al}{n:a_}
theorem BE(P:o_->Pos->e_):∀(es:dD) (tn:d_ o_),namesOf es=f tn->(es.filterMap λ| .Name id pos=>if P id pos then f id else V|_=>V).length<=es.length/\((es.filterMap λ| .Name id pos=>if P id pos then f id else V|_=>V).length=es.length->(es.filterMap λ| .Name id pos=>if P id pos then f id else V|_=>V)=tn):=λw'=>by induction w' with|nil=>intro tn h;(dsimp only[namesOf]at h;rw[dN]at h);subst h;exact⟨fB _,λO=>X⟩|cons e es ih=>
  intro tn h;revert h
  .refine Il (λx hx=>Ii (λr hr h=>?_));obtain⟨p,eE⟩:=lg hx;clear hx;subst eE;obtain rfl:=aw h;obtain⟨Y,L⟩:=ih r hr;dsimp only[List.filterMap];cases hP:P x p with|true=>refine J (ai X) ⟨zB Y,λq=>?_⟩;exact J (L (L5 q)) X|false=>refine J (ak (by decide)) ⟨CK Y,λq=>?_⟩;exact(jg (HA Y) q).elim
theorem ze(ht:namesOf es=f tn)(hv:xr v=R):swappedStores [.Tuple es k p] v u'=pure V\/swappedStores [.Tuple es k p] v u'=pure (f tn):=by
 cases v with
 |Tuple M k2 p2=>
  unfold swappedStores;dsimp only;split
  .exact .inl X
  .split
   .exact .inl X
   .split
    .exact .inl X
    .split
     .exact .inl X
     .split
      .rename_i Y L h3 h4 h5
       dsimp only[xr]at hv;rw[qr,rR]at hv;rcases hv with h|h
       .exact g_ h h4
       .rw[h5]at h;exact tF h
      .rename_i h3 _ _
       refine .inr ?_;have key:=(BE (λid pos=>u'.kindOf id==f .local&&pos.line==(es.head?.map (·.pos.line)).getD 0) es tn ht).2;simp -iota only [qr,bne_iff_ne,ne_eq,wx,Decidable.not_not]at h3;exact c8 (λl=>(pure (f l):Sem (af (d_ o_)))) (key h3.1)
 |_=>exact .inl X
theorem Ge(ht:eK t=f tn)(hi:qZ t=R):∃ es k p,t=.Tuple es k p/\namesOf es=f tn/\2<=es.length:=by refine Mq λGq kq=>?_;cases t with|Tuple es k p=>dsimp only[eK,u5,Rb]at ht;revert ht;refine aZ (λL ht=>?_) nS;exact kq es k p X ht L|_=>exact fT hi
theorem DW(u':r?):∀(es:dD) (ns:d_ o_),namesOf es=f ns->ns.length=es.length:=λes ns h=>(oY (u':=u') es ns h).2.2.2.2
theorem vf{tn:d_ o_}{is:cf}(h:(tn.zip is).all (λp=>sc.any λq=>decide (q=p))=R):∀ p∈tn.zip is,p∈sc:=λp hp=>BD (mG.mp h p hp)
theorem DX{tn:d_ o_}{is:cf}(hl:tn.length=is.length){x:o_}(hx:x∈tn):∃ i,(x,i)∈tn.zip is:=by obtain⟨k,hk⟩:=L0 hx;have iQ:k<tn.length:=(mi.mp hk).1;refine⟨is[k]'(by lia),dU (i:=k) ?_⟩;refine J (propext YB) ?_;exact⟨hk,lJ (by omega)⟩
theorem DY:∀(is:cf) (Z C:al),Z.length=is.length->∃ c,bindL is Z C=f c:=λw'=>by induction w' with|nil=>(intro z1;cases z1 with|nil=>intro C O;exact⟨C,X⟩|cons O O=>intro O h;cases h)|cons i is ih=>intro z1;cases z1 with|nil=>(intro O h;cases h)|cons x Z=>intro C h;exact ih Z (aE C i x) (L5 h)
theorem Gf(Y':Gx b mg mb){is:cf}:bG H w b mg mb n (.bj is e):=by
 refine bG.inl (λu' nm sc st U' cm bV hk hg hb=>?_) λO O O=>X;revert U';refine wH (λt v p hv U'=>?_);obtain rfl:=rl hv;revert U';refine nz (λtn LN U'=>?_);simp only[jb,jQ]at U';obtain⟨⟨⟨⟨⟨⟨Y,L⟩,h3⟩,h4⟩,h5⟩,h6⟩,h7⟩:=U';have hm:=vf h5;refine zJ (Ge LN Y) λes k tp aL ZK NP=>?_;clear Y;subst aL;have W:=kI (u':=u') (sc:=sc) (ns:=tn) λy hy=>cz (DX L hy) λi hi=>⟨i,hm _ hi⟩;have iv:=(sound Y' e u' nm sc (.inl v) h7 cm bV hk hg hb).1;intro A E s D N T' C bh K' Q hA I hc aN K;revert aN;refine qK (λs1 Z e1=>dY (λk9 e2 aN=>?_));revert K;refine JC aN ?_;intro K;have Kv:swapsWithSole [.Tuple es k tp] v p.line u'=pure N':=by(clear h7 h6 hv iv;cases v)<;>rfl
 rcases ze (u':=u') (k:=k) (p:=tp) ZK h6 with hw|hw
 .refine Assign_Tuple (iv A E s D N s1 C (.tup Z) _ hA I hc e1 λu t1 cR I1 S1 r1=>?_) Kv hw
  have sA:dr is (.tup Z) C=f k9:=by
   have:2<=is.length:=by(refine dR L (J (DW u' es tn ZK) ?_));exact NP
   match is,this with|O::O'::O'',O'''=>exact e2
  exact tO hA.hh LN L hm W sA I1 (hc.bl I S1) r1 λs2 I2 R2 S2 O=>K .next s2 cR I2 R2 ((S1.up hc).trans S2) Z'
 .refine Assign_Tuple_swapped (iv A E s D N s1 C (.tup Z) _ hA I hc e1 λu t1 cR I1 S1 r1=>?_) Kv hw;refine aW (r1.bD) λa M aL tt q=>?_;clear r1;subst aL;have hxl:Z.length=is.length:=(fi _ _ _ _ e2).2.1;refine J (by simp -iota only [dX,q.length,hxl,L]:tn.length=M.toArray.size) (wpAny_unpackItems_tuple hA.hh tt λh' hx=>?_);have hk:=u9 I1 hx;have vs:=I1.more (t:=t1.toks) hk (I1.gZ hk);have CA:is.Nodup:=js h3;obtain⟨c,VM⟩:=DY is.reverse Z.reverse C (by exact J uM (J hxl (J uM X)));have NL:=yY e2 VM CA;refine zX (F':=je u' sc) (tn.reverse.map λn=>bindName u' n) tn.reverse is.reverse Z.reverse M.reverse _ C c (by simp) (λp hp=>?_) (λp hp=>?_) (by simp[L]) ⟨W.sub,W.loc,λy hy=>W.VY y (by simpa using hy)⟩ (aG.reverse (I1.Fx vs.2 aX.nil q)) VM vs.1 ((hc.bl I S1).bl I1 vs.2) _ λs2 I2 R2 S2 k2=>K .next s2 cR I2 (R2.same NL) (((S1.trans vs.2).up hc).trans S2) Z'
  .refine ah (fN hp) λi h8 h9=>?_;rw[mH]at h8;rw[h9]at h8;simp only[zD,dN]at h8;exact dR h8 (λvs A E s v Q h=>bindName_ h)
  .refine ah (fN hp) λi h8 h9=>?_
   have hi:i<tn.length:=by
    have:=(mi.mp h8).1
    simpa using this
   rw[Jz (by omega)]at h8;rw[Jz (by lia),<-L]at h9;refine hm p (dU (i:=tn.length-1-i) (J (propext YB) ?_));exact⟨h8,h9⟩
end
section
variable{w:dc}{b s s1 s':aJ}{mg mb:pS}{D mD b9 F' fp wr:cc}{N σs T' ae τ kP:St}{A:da}{E:cM}{u':r?}{nm:NM}{sc:SC}{C bh:al}{n:a_}
theorem ER.aaj(hc:ER b u' sc C s D)(hx:(x,i)∈sc)(hu:(ao C i).Dy=N'){Q:cM}(k:∀ u,bB b.heap s.heap D (ao C i) u->Q u s) :
  b_ (c_ H w) A (loadName u' x) Q E s:=by
 rcases hc.kinds x i hx with h|⟨h,c,U'⟩
 .exact ah (hc.ns) λm hm hr=>ah (hr x i hx h hu) λu Y L=>wpAny_loadName_local hc.kind h hm Y (k u L)
 .refine ah (hc.cells x c U') λu Y L=>?_;refine ah (L i hx h hu) λv bK h3=>?_;clear L;subst bK;exact wpAny_loadName_cell hc.kind h U' Y (k v h3)
theorem Kw(Y':Gx b mg mb):bG H w b mg mb n (.dd o i e):=by
 refine bG.inl (λu' nm sc st U' cm bV hk hg hb=>?_) λO O O=>X;revert U';refine wH (λt v p hv U'=>?_);obtain rfl:=rl hv;revert U';refine pU (λa j ht U'=>?_);obtain⟨tp,rfl⟩:=su ht;refine JB U' λY L h3=>?_;have VO:=(sound Y' (.var o) u' nm sc (.inl a) Y cm.1 bV hk hg hb).1;have VI:=(sound Y' i u' nm sc (.inl j) L cm.2.1 bV hk hg hb).1;have VE:=(sound Y' e u' nm sc (.inl v) h3 cm.2.2 bV hk hg hb).1;intro A E s D N T' C bh K' Q hA I hc aN K;revert aN;refine aM (λs1 x e1=>iM (λs2 la e2=>aM (λs3 M' e3 aN=>?_)));refine dF (lq aN) λe4 bK fJ=>?_;subst bK;clear aN;subst fJ;have Kv:R? v (f (.Subscript a j tp)) p.line u'=pure N':=by(clear hv h3 VE;cases v)<;>rfl
 refine wpAny_Assign_Subscript (VE A E s D N s1 bh x _ hA I hc e1 λu1 t1 cR I1 S1 r1=>?_) Kv;have R1:=hc.bl I S1;refine VO A E t1 cR s1 s2 bh _ _ hA I1 R1 e2 λu2 t2 gH I2 S2 r2=>?_;have R2:=R1.bl I1 S2;refine VI A E t2 gH s2 s3 bh _ _ hA I2 R2 e3 λu3 t3 vb I3 S3 r3=>?_;exact Dq hA.a I3 (I2.rep S3 aX.nil r2) r3 (I2.rep S3 aX.nil (I1.rep S2 aX.nil r1)) e4 λt4 Z7 I4 S4=>K .next t4 Z7 I4 ((R2.bl I2 S3).bl I3 S4) ((((S1.trans S2).trans S3).trans S4).up hc) Z'
theorem N1{t u:Tok}{Q:cM}(hk:binOp k=.Add\/binOp k=.Sub)(e:cU k x y=f z)(K:∀ t t',Q (.int z t) {s with toks:=t'}) :
  b_ (c_ H w) A (inplaceOp (binOp k) (.int x t) (.int y u)) Q E s:=by
 cases k<;>first|(rcases hk with h|h<;>cases h;done)|skip
 .dsimp only[cU]at e;rw[dN]at e;subst e;exact AutoIntOps.iadd_0 (K _ _)
 .dsimp only[cU]at e;rw[dN]at e;subst e;exact AutoIntOps.isub_0 (K _ _)
theorem Wz(Y':Gx b mg mb):bG H w b mg mb n (.aug k i e):=by refine bG.inl (λu' nm sc st U' cm bV hk hg hb=>?_) λO O O=>X;revert U';refine AQ (λt op v hv U'=>?_);obtain⟨p,rfl⟩:=IL hv;revert U';refine vU (λx hx U'=>?_);obtain⟨px,rfl⟩:=lg hx;simp only[jb,qr,jQ]at U';obtain⟨⟨⟨Y,L⟩,h3⟩,h4⟩:=U';clear hv;subst Y;have fC:=BD h3;intro A E s D N T' C bh K' Q hA I hc aN K;revert aN;refine MC (λx1 Ua=>C6 (λs1 y e1=>gP (λz ez aN=>?_)));revert K;refine JC aN ?_;intro K;refine wpAny_AugAssign_Name (hc.aaj fC (by exact J Ua X) λu0 r0=>?_);rw[Ua]at r0;refine cz (r0.int_inv) λt0 aL=>?_;clear r0;subst aL;refine((sound Y' e u' nm sc (.inl v) h4 cm bV hk hg hb).1) A E s D N s1 C _ _ hA I hc e1 λu1 t1 cR I1 S1 r1=>?_;obtain⟨t2,rfl⟩:=r1.int_inv;refine N1 L ez λt3 tk=>?_;have vs:=I1.toks tk;exact DU fC vs.1 ((hc.bl I S1).bl I1 vs.2) (bB.int _ _) λs4 I4 R4 S4=>K .next s4 cR I4 R4 (((S1.trans vs.2).up hc).trans S4) Z'
theorem Kx{Q:cM}(hA:Fy A)(I:Inv H w b s D N)(rx:bB b.heap s.heap D (.ref a) u)(ry:bB b.heap s.heap D y v)(e:ib N (.ref a) y=f z)(k:fK H w b s D N N z Q):b_ (c_ H w) A (getItem u v) Q E s:=by
 cases y with
 |int i=>dsimp only[ib]at e;revert e;refine lS (λZ ex=>aZ (λhz e=>?_) nS);refine bA (I.cT ex rx) λa M aL h0 Y L=>?_;clear rx;subst aL;obtain⟨t,oN⟩:=ry.int_inv;clear ry;subst oN;exact wO Y.isList L hz e λv r=>k.tE I r
 |tup kk=>
  dsimp only[ib]at e;revert e;refine Ib (λbJ ex=>fx (λks hk e=>?_));obtain rfl:=ic hk;refine bA (I.kG ex rx) λa Z aL h0 Y L=>?_;clear rx;subst aL;refine ah (g7 (w:=w) ry) λc bK h3=>?_;clear ry;subst bK;rcases vW L ks with ⟨q,_⟩|⟨x,p,h4,h5,h6⟩
  .rw[q]at e;exact nS e
  .rw[h4]at e;obtain rfl:=aw e;exact wpAny_getItem_heap (mN hA) h3 Y h5 (k.tok I h6)
 |_=>exact nS e
theorem Ky(Y':Gx b mg mb):bG H w b mg mb n (.iJ k o i e):=by
 refine bG.inl (λu' nm sc st U' cm bV hk hg hb=>?_) λO O O=>X;revert U';refine AQ (λt op v hv U'=>?_);obtain⟨p,rfl⟩:=IL hv;revert U';refine pU (λa j ht U'=>?_);obtain⟨tp,rfl⟩:=su ht;simp only[jb,qr,jQ]at U';obtain⟨⟨⟨⟨⟨Y,L⟩,h3⟩,h4⟩,h5⟩,h6⟩:=U';subst Y;have VI:=(sound Y' i u' nm sc (.inl j) h5 cm.2.1 bV hk hg hb).1;intro A E s D N T' C bh K' Q hA I hc aN K;revert aN;refine iM (λs1 la e1=>aM (λs2 M' e2=>TA (λx1 ex1=>C6 (λs3 y1 e3=>gP (λz ez aN=>?_)))));refine dF (lq aN) λe4 bK fJ=>?_;subst bK;clear aN;subst fJ;have hst:∀ ov M' new,augStore j ov M' new=(do t? [new,ov,M'] (setItem ov M' new);release [new,ov,M'] [];pure .next):=by intro ov M' new;(clear ht h5 hv VI;cases j)<;>first|rfl|(exact fT h3)
 refine wpAny_AugAssign_SubscriptAny (((sound Y' (.var o) u' nm sc (.inl a) h4 cm.1 bV hk hg hb).1) A E s D N s1 bh _ _ hA I hc e1 λu1 t1 cR I1 S1 r1=>?_) hst;have R1:=hc.bl I S1;refine VI A E t1 cR s1 s2 bh _ _ hA I1 R1 e2 λu2 t2 gH I2 S2 r2=>?_;have R2:=R1.bl I1 S2;refine Kx hA.a I2 (I1.rep S2 aX.nil r1) r2 ex1 λu3 t3 vb I3 S3 r3=>?_;have R3:=R2.bl I2 S3;obtain⟨q3,rfl⟩:=r3.int_inv;refine((sound Y' e u' nm sc (.inl v) h6 cm.2.2 bV hk hg hb).1) A E t3 vb s2 s3 bh _ _ hA I3 R3 e3 λu4 t4 Z7 I4 S4 r4=>?_;obtain⟨q4,rfl⟩:=r4.int_inv;refine N1 L ez λq5 tk=>?_;have vs:=I4.toks tk;have S24:=(S3.trans S4).trans vs.2;exact Dq hA.a vs.1 (I2.rep S24 aX.nil (I1.rep S2 aX.nil r1)) (I2.rep S24 aX.nil r2) (bB.int _ _) e4 λt6 CB I6 S6=>K .next t6 CB I6 (((R3.bl I3 S4).bl I4 vs.2).bl vs.1 S6) ((((S1.trans S2).trans S24).trans S6).up hc) Z'
end
section
variable{w:dc}{b s s1 s':aJ}{mg mb:pS}{D mD b9 F' fp wr:cc}{N σs T' ae τ kP:St}{A:da}{E:cM}{u':r?}{nm:NM}{sc:SC}{C bh:al}{n:a_}
theorem oy(h:u'.scope.kind=.function):interactive u'=N':=by unfold interactive;exact J h X
theorem WA(B:∀ e∈as,gR e=R)(hl:as.length<=3) :((T? pos (mc as u')).all (λx=>!x.1)&&(backToKw pos (keywordEach [] u')).all (λx=>x.1.isSome)&&decide (as.length+([]:d_ Keyword).length+(if ([]:d_ Keyword).isEmpty then 0 else 1)<30))=R:=by
 have Y:=xd (u':=u') (pos:=pos) as B;have L:(T? pos (mc as u')).all (λx=>!x.1)=R:=by refine J (propext mG) ?_;intro x hx;rw[List.any_eq_false]at Y;simpa using Y x hx
 refine J L ?_;simp;refine⟨(λa c h=>nomatch h),(by lia)⟩
theorem N2{x m:o_}{px ap cp p:Pos}{as:dD}{T id:String}{Q:Flow->aJ->Prop}(hf:u'.scope.kind=.function)(mO:(ap.endLine==cp.line)=R)(B:∀ e∈as,gR e=R)(hl:as.length<=3)(pa:PlainAttrs T)(slot:Slot T m id)(hty:typeOf (.builtin id)=pure (.type "method_descriptor"))(h:b_ (c_ H w) A (H_ (.Name x px) u') (λov cV=>cV.TypeIs ov T/\(∀ a,ov=.ref a->∃ ob,cV.heap.get? a=f ob/\ob.dict=V)/\b_ (c_ H w) A (callWith cp (.builtin id) [ov] (T? cp (mc as u')) []) (λO=>Q .next) E cV) E s) :
  b_ (c_ H w) A (exec (.Expr (.Call (.Attribute (.Name x px) m ap) as [] cp) p) u') Q E s:=
 wpAny_Expr_any (wpAny_Call_method X (WA B hl) mO pa slot hty h) (oy hf)
theorem RA(h:Qb N a=R):∃ Z,N.get a=f (.list Z):=by revert h;exact Y2 (λO O h=>⟨_,by assumption⟩)
theorem RC(h:Qc N a=R):∃ Z,N.get a=f (.dict Z):=by revert h;exact Y4 (λO O h=>⟨_,by assumption⟩)
theorem Gg(I:Inv H w b s D N)(r:bB b.heap s.heap D (.ref a) u)(h:Qb N a=R):s.TypeIs u "list"/\(∀ a,u=.ref a->∃ ob,s.heap.get? a=f ob/\ob.dict=V):=by obtain⟨Z,hx⟩:=RA h;obtain⟨c,M,eE,hm,⟨n,t⟩,q⟩:=I.cT hx r;clear r;subst eE;exact⟨⟨_,t,X⟩,λd e=>by cases e;exact⟨_,t,X⟩⟩
theorem N3(I:Inv H w b s D N)(r:bB b.heap s.heap D (.ref a) u)(h:Qc N a=R):s.TypeIs u "dict"/\(∀ a,u=.ref a->∃ ob,s.heap.get? a=f ob/\ob.dict=V):=by obtain⟨Z,hx⟩:=RC h;refine bA (I.kG hx r) λc M aL hm t q=>?_;clear r;subst aL;refine zJ (id t) λo es ep Y L O=>?_;exact⟨t.typeIs,λd e=>by cases e;exact⟨_,Y,L.2.1⟩⟩
theorem mU(h:tT m k e=f (o,as)):∃ x p ap cp,o=.Name x p/\e=.Call (.Attribute (.Name x p) m ap) as [] cp/\(ap.endLine==cp.line)=R/\as.length=k:=by revert h;refine MQ (λo' m' as' q=>aZ (λhm h=>?_) nS);refine gI h (ff (NX q) λx p ap cp Y L h3=>?_);obtain⟨iA,h5⟩:=hm;clear q;subst iA;exact Tt x p ap cp Y L h3 h5
theorem Kz(Y':Gx b mg mb):bG H w b mg mb n (.append l e):=by refine bG.inl (λu' nm sc st U' cm bV hk hg hb=>?_) λO O O=>X;revert U';refine dI (λee hv U'=>?_);obtain⟨p,rfl⟩:=mS hv;revert U';refine Fu (λo a hm U'=>?_);refine wC (mU hm) λx px ap cp aL J0 mO O=>?_;subst aL;subst J0;refine JB U' λY L h3=>?_;have VO:=(sound Y' (.var l) u' nm sc (.inl _) Y cm.1 bV hk hg hb).1;have VE:=(sound Y' e u' nm sc (.inl a) h3 cm.2 bV hk hg hb).1;intro A E s D N T' C bh K' Q hA I hc aN K;revert aN;refine iM (λs1 la e1=>aZ (λhL=>?_) nS);refine aM (λs2 v e2 aN=>?_);refine dF (lq aN) λe3 bK fJ=>?_;subst bK;clear aN;subst fJ;refine N2 hk mO (λe he=>by rw[az]at he;clear hv hm h3 VE;subst he;exact L) (by exact iD _) Uy UA F.type_list_append (VO A E s D N s1 bh _ _ hA I hc e1 λu1 t1 cR I1 S1 r1=>?_);refine cC (Gg I1 r1 hL) λg1 g2=>?_;refine⟨g1,g2,HJ (wz ?_ (aH L)) (aH L)⟩;exact VE A E t1 cR s1 s2 bh _ _ hA I1 (hc.bl I S1) e2 λu2 t2 gH I2 S2 r2=>zG (JU I2 (I1.rep S2 aX.nil r1) r2 e3 λt3 vb I3 S3=>K .next t3 vb I3 (((hc.bl I S1).bl I1 S2).bl I2 S3) (((S1.trans S2).trans S3).up hc) Z')
theorem KA(Y':Gx b mg mb):bG H w b mg mb n (.extend l e):=by refine bG.inl (λu' nm sc st U' cm bV hk hg hb=>?_) λO O O=>X;revert U';refine dI (λee hv U'=>?_);obtain⟨p,rfl⟩:=mS hv;revert U';refine Fu (λo a hm U'=>?_);refine wC (mU hm) λx px ap cp aL J0 mO O=>?_;subst aL;subst J0;refine JB U' λY L h3=>?_;have VO:=(sound Y' (.var l) u' nm sc (.inl _) Y cm.1 bV hk hg hb).1;have VE:=(sound Y' e u' nm sc (.inl a) h3 cm.2 bV hk hg hb).1;intro A E s D N T' C bh K' Q hA I hc aN K;revert aN;refine iM (λs1 la e1=>aZ (λhL=>?_) nS);refine aM (λs2 v e2 aN=>?_);refine dF (lq aN) λe3 bK fJ=>?_;subst bK;clear aN;subst fJ;refine N2 hk mO (λe he=>by rw[az]at he;clear hv hm h3 VE;subst he;exact L) (by exact iD _) Uy F.slot_list_extend F.type_list_extend (VO A E s D N s1 bh _ _ hA I hc e1 λu1 t1 cR I1 S1 r1=>?_);refine cC (Gg I1 r1 hL) λg1 g2=>?_;refine⟨g1,g2,HJ (wz ?_ (aH L)) (aH L)⟩;exact VE A E t1 cR s1 s2 bh _ _ hA I1 (hc.bl I S1) e2 λu2 t2 gH I2 S2 r2=>zG (JV I2 (I1.rep S2 aX.nil r1) r2 e3 λt3 vb I3 S3=>K .next t3 vb I3 (((hc.bl I S1).bl I1 S2).bl I2 S3) (((S1.trans S2).trans S3).up hc) Z')
theorem RD(Y':Gx b mg mb):bG H w b mg mb n (.qu l e):=by refine bG.inl (λu' nm sc st U' cm bV hk hg hb=>?_) λO O O=>X;revert U';refine dI (λee hv U'=>?_);obtain⟨p,rfl⟩:=mS hv;revert U';refine Fu (λo a hm U'=>?_);refine wC (mU hm) λx px ap cp aL J0 mO O=>?_;subst aL;subst J0;refine JB U' λY L h3=>?_;have VO:=(sound Y' (.var l) u' nm sc (.inl _) Y cm.1 bV hk hg hb).1;have VE:=(sound Y' e u' nm sc (.inl a) h3 cm.2 bV hk hg hb).1;intro A E s D N T' C bh K' Q hA I hc aN K;revert aN;refine iM (λs1 la e1=>aZ (λhL=>?_) nS);refine aM (λs2 v e2 aN=>?_);refine dF (lq aN) λe3 bK fJ=>?_;subst bK;clear aN;subst fJ;refine N2 hk mO (λe he=>by rw[az]at he;clear hv hm h3 VE;subst he;exact L) (by exact iD _) F.plainAttrs_dict Qh F.type_dict_pop (VO A E s D N s1 bh _ _ hA I hc e1 λu1 t1 cR I1 S1 r1=>?_);refine cC (N3 I1 r1 hL) λg1 g2=>?_;refine⟨g1,g2,HJ (wz ?_ (aH L)) (aH L)⟩;exact VE A E t1 cR s1 s2 bh _ _ hA I1 (hc.bl I S1) e2 λu2 t2 gH I2 S2 r2=>zG (Nf (two:=N') (more:=[]) hA.a I2 (I1.rep S2 aX.nil r1) r2 X e3 λO t3 vb I3 S3=>K .next t3 vb I3 (((hc.bl I S1).bl I1 S2).bl I2 S3) (((S1.trans S2).trans S3).up hc) Z')
theorem RE(Y':Gx b mg mb):bG H w b mg mb n (.qt l e):=by refine bG.inl (λu' nm sc st U' cm bV hk hg hb=>?_) λO O O=>X;revert U';refine dI (λee hv U'=>?_);obtain⟨p,rfl⟩:=mS hv;refine ia λGq zq=>?_;revert U';refine U5 (λo a z hm U'=>?_);refine wC (mU hm) λx px ap cp aL J0 mO O=>?_;subst aL;subst J0;simp only[jb,jQ]at U';obtain⟨⟨⟨Y,L⟩,h3⟩,h4⟩:=U';refine gx (tM h4) λzk zp fJ=>?_;clear hv hm h4;subst fJ;have VO:=(sound Y' (.var l) u' nm sc (.inl _) Y cm.1 bV hk hg hb).1;refine zq ?_;clear zq;intro A E s D N T' C bh K' Q hA I hc aN K;refine ia λGq zq=>?_;revert aN;refine iM (λs1 la e1=>aZ (λhL=>?_) nS);refine aM (λs2 v e2 aN=>?_);refine dF (lq aN) λe3 bK fJ=>?_;subst bK;clear aN;subst fJ;refine zq ?_;clear zq;refine N2 hk mO (Yy.mpr ⟨L,Yy.mpr ⟨X,λO h=>nomatch h⟩⟩) (by simp) F.plainAttrs_dict Qh F.type_dict_pop (VO A E s D N s1 bh _ _ hA I hc e1 λu1 t1 cR I1 S1 r1=>?_);refine cC (N3 I1 r1 hL) λg1 g2=>?_;refine⟨g1,g2,HJ (wz ?_ (aH L)) (aH L)⟩;refine((sound Y' e u' nm sc (.inl a) h3 cm.2 bV hk hg hb).1) A E t1 cR s1 s2 bh _ _ hA I1 (hc.bl I S1) e2 λu2 t2 gH I2 S2 r2=>wz (Md (zG ?_)) X;exact Nf (two:=R) (more:=[.none]) hA.a I2 (I1.rep S2 aX.nil r1) r2 X e3 λO t3 vb I3 S3=>K .next t3 vb I3 (((hc.bl I S1).bl I1 S2).bl I2 S3) (((S1.trans S2).trans S3).up hc) Z'
theorem RF(Y':Gx b mg mb):bG H w b mg mb n (.sort l):=by refine bG.inl (λu' nm sc st U' cm bV hk hg hb=>?_) λO O O=>X;revert U';refine dI (λee hv U'=>?_);obtain⟨p,rfl⟩:=mS hv;revert U';refine U4 (λo hm U'=>?_);refine wC (mU hm) λx px ap cp aL J0 mO O=>?_;subst aL;clear hv hm;subst J0;have VO:=(sound Y' (.var l) u' nm sc (.inl _) U' cm bV hk hg hb).1;intro A E s D N T' C bh K' Q hA I hc aN K;refine ia λGq zq=>?_;revert aN;refine iM (λs1 la e1=>aZ (λhL aN=>?_) nS);refine dF (lq aN) λe3 bK fJ=>?_;subst bK;clear aN;subst fJ;refine zq ?_;clear zq;refine N2 hk mO (λe he=>nomatch he) (by exact jP _) Uy F.slot_list_sort F.type_list_sort (VO A E s D N s1 bh _ _ hA I hc e1 λu1 t1 cR I1 S1 r1=>?_);refine cC (Gg I1 r1 hL) λg1 g2=>?_;refine⟨g1,g2,callWith_method0 ?_⟩;exact QZ hA.a I1 r1 e3 λt3 vb I3 S3=>K .next t3 vb I3 ((hc.bl I S1).bl I1 S3) ((S1.trans S3).up hc) Z'
theorem RG(Y':Gx b mg mb):bG H w b mg mb n (.expr e):=by
 refine bG.inl (λu' nm sc st U' cm bV hk hg hb=>?_) λO O O=>X;revert U';refine dI (λv hv U'=>?_);obtain⟨p,rfl⟩:=mS hv;simp only[jb]at U';have iv:=(sound Y' e u' nm sc (.inl v) U'.2 cm bV hk hg hb).1;intro A E s D N T' C bh K' Q hA I hc aN K;revert aN;refine aM (λs1 x e1 aN=>?_);revert K;refine JC aN ?_;intro K;have Kv:R? v V p.line u'=pure N':=by(clear hv iv;cases v)<;>first|rfl|((dsimp only[NY]at U';simp at U');done)
 exact wpAny_Expr_any (iv A E s D N s1 C x _ hA I hc e1 λu t1 cR I1 S1 r1=>K .next t1 cR I1 (hc.bl I S1) (S1.up hc) Z') (oy hk) Kv
end
section
variable{w:dc}{b s s1 s':aJ}{mg mb:pS}{D mD b9 F' fp wr:cc}{N σs T' ae τ kP:St}{A:da}{E:cM}{u':r?}{nm:NM}{sc:SC}{C bh:al}{n:a_}
theorem KB(hc:ER b u' sc C s D):∀ a∈je u' sc,∃ o,s.heap.get? a=f o:=λa B=>by
 rcases(kI (u':=u') (sc:=sc) (ns:=[]) (λO h=>nomatch h)).sub a B with rfl|⟨x,hx⟩
 .refine ah (hc.uZ) λo ho O=>?_;exact⟨o,ho⟩
 .refine ah (hc.qN hx) λo ho O=>?_;exact⟨o,ho⟩
theorem WB(Y':Gx b mg mb)(hx:bG H w b mg mb n x):bG H w b mg mb n (.gE C' ik it x):=by
 refine bG.inl (λu' nm sc st U' cm bV hk hg hb=>?_) λO O O=>X;refine ia λGq zq=>?_;revert U';refine MN (λt i y hv U'=>?_);obtain⟨p,eE⟩:=Rw hv;clear hv;subst eE;revert U';refine nz (λtn LN=>dI (λi' Bz U'=>?_));simp only[jb,jQ]at U';obtain⟨⟨⟨⟨⟨⟨Y,L⟩,h3⟩,h4⟩,h5⟩,h6⟩,h7⟩:=U';have hm:=vf h5;refine zq ?_;clear zq;have W0:=kI (u':=u') (sc:=sc) (ns:=tn) λy hy=>cz (DX h3 hy) λi hi=>⟨i,hm _ hi⟩;have aj:=hx u' nm sc (.inr y) h7 cm.2.2 bV hk hg hb;intro A E s D N T' C bh K' Q hA I hc aN K;refine ia λGq zq=>?_;dsimp only[ex]at aN;revert aN;refine aM (λae v e1=>oM (λZ lk e2=>dv (λσs kA=>mJ (λdZ r VZ=>dv (λo6 rh aN=>?_)))));simp only[dN,rP]at aN;obtain⟨iA,j5⟩:=aN;subst iA;subst j5;refine zq ?_;clear zq;refine wpAny_For (Bx Y' (sound Y' it) Bz h6 cm.2.1 cm.1 bV hk hg hb hA I hc e1 e2 λt1 cR itA Wi tk I1 S1 W=>?_) (gT Y);have M1:=I1.more (h':=Wi) (t:=tk) W.keep W.low;refine jh (sz M1.1 kA) λIs Kn JY hl3=>?_;have R1:=hc.bl I S1;have Ub:=KB R1;refine zJ (jk.make (F':=je u' sc) (target:=t) hA.hh (o3 L) I1 Is W (λO O e=>e) Kn (λa B=>.inr ⟨mT R1 a B,Ub a B⟩) (λa B=>cz (Ub a B) λo ho=>⟨o,W.keep a o ho⟩)) λfp wr St h2 LM tJ=>?_;have R4:=R1.bl I1 M1.2
 have ok:aX (je u' sc++wr) Wi:=λa B B' ht=>by
  rcases fG.mp B with B|B
  .exact xt R4 a B B' ht
  .exact h2.Bu LM a B B' ht
 have ZU:u'.locals∉wr:=(h2.Km _ aQ).1;have ZV:∀ x c,u'.cells.lookup x=f c->c∉wr:=λy c U' m=>by refine ah (R1.qN U') λo ho O=>?_;rw[(tJ c m).1]at ho;exact nS ho
 have fin:∀(s6 s7:aJ) (CB:cc) (fl:Flow),Inv H w b s7 CB dZ->ER b u' sc bh s7 CB->dB (je u' sc++wr) {t1 with heap:=Wi,toks:=tk} s6 cR CB σs dZ->(∀ a o,a∉wr->s6.heap.get? a=f o->s7.heap.get? a=f o)->T8 b.heap s7.heap CB K' fl->Q fl s7:=by intro s6 s7 CB fl I6 R6 S6 hk6 hf;have S2:dB (je u' sc) t1 s7 cR CB σs dZ:=S6.past hk6 W.keep (λa B=>(tJ a B).1) (λa B=>.inl B) (λa B=>⟨B,(h2.Km a B).1⟩) λi a hi m=>(h2.Ya a m).1 (dU hi);obtain⟨I9,S9⟩:=o5 I1 I6 kA rh S2;exact K fl s7 CB I9 R6 ((S1.up hc).trans S9) hf
 refine codeAny_forLoop_any (λk s3=>∃ j gH τ eF,k=Z.length-j/\j<=Z.length/\St j s3.heap/\Inv H w b s3 gH τ/\ER b u' sc eF s3 gH/\dB (je u' sc++wr) {t1 with heap:=Wi,toks:=tk} s3 cR gH σs τ/\lT (ox (ex x) C') (Z.drop j) τ eF=f (dZ,bh,K')) ?_ Z.length ⟨0,cR,σs,C,X,jP _,LM,Is,R4,dB.refl _ _ _ _,by exact J List.drop_zero VZ⟩;rintro k s3 ⟨j,gH,τ,eF,rfl,hj,st,I3,R3,S3,qy⟩;by_cases RH:j<Z.length
 .rw[Yx RH]at qy;dsimp only[lT]at qy;refine h2.next RH st I3 S3 ok λv cV z hz adE=>?_;rw[lJ RH]at hz;obtain rfl:=aw hz;refine adE _ _ λs4 I4 T9 S4 st4 r4 k4=>?_;have R4':ER b u' sc eF s4 gH:=R3.step I3 T9 (h2.Bu st) ZU ZV;cases hb4:dr C' Z[j] eF with|none=>(dsimp only[ox]at qy;simp[hb4]at qy)|some Q6=>
   dsimp only[ox]at qy;rw[hb4]at qy;refine tO (F':=je u' sc) hA.hh LN h3 hm W0 hb4 I4 R4' r4 λs5 I5 R5 S5 O=>?_;have st5:=h2.frame st4 I4 S4 S5 ok (xt R4')
   have up:∀{sa sb:aJ} {ρa ρb:cc} {τa τb:Mine.Internal.St},(∀ a∈wr,a∉ρa)->ER b u' sc Q6 sa ρa->dB (je u' sc) sa sb ρa ρb τa τb->dB (je u' sc++wr) sa sb ρa ρb τa τb:=λhw Ra S=>S.weaken (λa B=>uN _ B) λa B=>by
    rcases fG.mp B with B|B
    .exact mT Ra a B
    .exact hw a B
   have hw2:∀ a∈wr,a∉gH:=λa B=>h2.zY S4 B
   have S15:=S4.trans (S5.weaken (λa B=>uN _ B) λa B=>by
    rcases fG.mp B with B|B
    .exact mT R4' a B
    .exact hw2 a B)
   revert qy;refine MS (λs6' sl6 v6 e6 qy=>?_) (λs6' sl6 f6 e6 d9 qy=>?_) nS
   .simp only[dN,rP]at qy;obtain⟨mj,oN,qv⟩:=qy;clear rh;subst mj;subst oN;clear K VZ;subst qv;refine aj A _ s5 gH τ _ Q6 _ _ _ hA I5 R5 e6 λfl s6 CB I6 R6 S6 hf=>?_;cases fl with|ret u=>exact fin s6 s6 CB (.ret u) I6 R6 (S15.trans (up hw2 R5 S6)) (λO O O e=>e) hf|_=>exact hf.elim
   .refine aj A _ s5 gH τ _ Q6 _ _ _ hA I5 R5 e6 λfl s6 CB I6 R6 S6 hf=>?_
    have go:∃ m,m<Z.length-j/\∃ j gH τ eF,m=Z.length-j/\j<=Z.length/\St j s6.heap/\Inv H w b s6 gH τ/\ER b u' sc eF s6 gH/\dB (je u' sc++wr) {t1 with heap:=Wi,toks:=tk} s6 cR gH σs τ/\lT (ox (ex x) C') (Z.drop j) τ eF=f (dZ,bh,K'):=
     ⟨Z.length-(j+1),by grind,j+1,CB,_,_,X,RH,h2.frame st5 I5 S15 S6 ok (xt R5),I6,R6,S15.trans (up hw2 R5 S6),qy⟩
    cases f6 with|ret v=>exact(d9 v X).elim|next=>(cases fl with|next=>exact go|_=>exact hf.elim)|cont=>cases fl with|cont=>exact go|_=>exact hf.elim
 .have RH:j=Z.length:=by lia
  clear hj;subst RH;rw[List.drop_length]at qy;dsimp only[lT]at qy;simp only[dN,rP]at qy;obtain⟨vA,yD,Dc⟩:=qy;clear rh;subst vA;subst yD;clear K VZ;subst Dc;exact h2.done st I3 S3 λh' tk' I' Fj=>Mf (fin s3 _ gH .next I' (R3.kept Fj (h2.Bu st) ZU ZV) S3 Fj Z')
theorem WC(Y':Gx b mg mb):∀ c:CS,bG H w b mg mb n c:=by intro c;induction c with|assign i e=>exact Ku Y'|bj is e=>exact Gf Y'|dd o i e=>exact Kw Y'|aug k i e=>exact Wz Y'|iJ k o i e=>exact Ky Y'|ret e=>exact Ww Y'|iff t a c B U'=>exact Wx Y' B U'|kF t a B=>exact Rz Y' B|gE C' ik it a B=>exact WB Y' B|cont=>exact Ry|qt d k=>exact RE Y'|qu d k=>exact RD Y'|append l e=>exact Kz Y'|extend l e=>exact KA Y'|sort l=>exact RF Y'|expr e=>exact RG Y'|raise=>exact NZ|skip=>exact Rx|seq a c B U'=>exact Wv B U'
end
theorem RI:∀(n i:a_),ao (q8 n) i=.ub:=λw'=>by induction w' with|zero=>(intro i;cases i<;>rfl)|succ n ih=>intro z1;cases z1 with|zero=>exact X|succ i=>exact ih i
theorem xu:∀(as bs:al) (i:a_),ao (as++bs) i=if i<as.length then ao as i else ao bs (i-as.length):=λw'=>by induction w' with|nil=>intro bs i;rfl|cons a as ih=>intro bs z2;cases z2 with|zero=>rfl|succ i=>refine J Mb ?_;refine J (ih bs i) ?_;simp only[fD,Nat.add_lt_add_iff_right,Nat.add_sub_add_right];rfl
theorem xv(kf:o_->af s?):∀(bs:d_ (o_ × aY)) (m:pS) (x:o_),x∉bs.map (·.1)->J? kf bs m x=m x
 |[],O,O',O''=>X
 |(y,v)::bs,m,x,h=>by
  simp only[bW,aT,wx]at h;refine J (xv kf bs _ x h.2) ?_;split
  .exact ak h.1
  .rfl
theorem N4(kf:o_->af s?):∀(ps:d_ o_) (M:dG) (m:pS) (i:a_) (x:o_) (v:aY),ps.Nodup->ps[i]?=f x->M[i]?=f v->kf x=f .local->J? kf (ps.zip M) m x=f v:=λw'=>by induction w' with|nil=>intro O O i O O O h O O;exact nS h|cons p ps ih=>intro z1;cases z1 with|nil=>intro O i O O O O h O;exact nS h|cons u M=>
   intro m z3
   cases z3 with
   |zero=>
    intro x v hn Y L hk;simp only[Qp,dN]at Y L;subst Y L;dsimp only[zip_cons_cons,J?];rw[xv]
    .rw[ai hk,ai X]
    .intro m;exact ah (eR.mp m) λq hq e=>(gw.mp hn).1 (e▸(UX hq).1)
   |succ i=>intro x v hn Y L hk;exact J uQ (ih M _ i x v (gw.mp hn).2 (by simpa using Y) (by simpa using L) hk)
theorem xw(kf:o_->af s?):∀(bs:d_ (o_ × aY)) (m:pS) (x:o_),x∉bs.map (·.1)->K? kf bs m x=m x
 |[],O,O',O''=>X
 |(y,v)::bs,m,x,h=>by
  simp only[bW,aT,wx]at h;refine J (xw kf bs _ x h.2) ?_;split
  .rfl
  .exact ak h.1
theorem N5(kf:o_->af s?):∀(ps:d_ o_) (M:dG) (m:pS) (i:a_) (x:o_) (v:aY),ps.Nodup->ps[i]?=f x->M[i]?=f v->kf x≠f .local->K? kf (ps.zip M) m x=f v:=λw'=>by induction w' with|nil=>intro O O i O O O h O O;exact nS h|cons p ps ih=>intro z1;cases z1 with|nil=>intro O i O O O O h O;exact nS h|cons u M=>
   intro m z3
   cases z3 with
   |zero=>
    intro x v hn Y L hk;simp only[Qp,dN]at Y L;subst Y L;dsimp only[zip_cons_cons,K?];rw[xw]
    .rw[ak hk,ai X]
    .intro m;exact ah (eR.mp m) λq hq e=>(gw.mp hn).1 (e▸(UX hq).1)
   |succ i=>intro x v hn Y L hk;exact J uQ (ih M _ i x v (gw.mp hn).2 (by simpa using Y) (by simpa using L) hk)
theorem gF:∀{l l':d_ (o_ × bU)} (x:o_),l.map (·.1)=l'.map (·.1)->(l.lookup x).isSome=(l'.lookup x).isSome|[],[],O,O'=>X|[],O::O',O'',h=>by simp at h|O::O',[],O'',h=>by simp at h|(a,c)::l,(a',c')::l',x,h=>by simp only[bW,List.cons.injEq]at h;obtain⟨eE,h⟩:=h;subst eE;simp -iota only [qz,qz];cases x==a with|true=>rfl|false=>exact gF x h
def DZ(names:NM)(ps:d_ o_)(sc:SC):e_:=
 sc.all (λp=>(decide (names.lookup p.1=f .local)||(decide (names.lookup p.1=f .cell)&&((cellsFrom 0 names []).lookup p.1).isSome))&&!(p.1==("__debug__":o_))&&(decide (ps.length<=p.2)||decide (ps[p.2]?=f p.1))) &&
 j7 (sc.map (·.1))&&j7 (sc.map (·.2))&&j7 ps&&ps.all (λx=>decide (names.lookup x=f .local)||(decide (names.lookup x=f .cell)&&((cellsFrom 0 names []).lookup x).isSome))
section
variable{w:dc}{b s s1 s':aJ}{mg mb:pS}{D b9:cc}{N T':St}{A:da}{nm:NM}{sc:SC}{n:a_}
theorem N6(h:(ao (as++q8 k) i).Dy=N'):i<as.length/\ao (as++q8 k) i=ao as i:=by
 rw[xu]at h ⊢;split
 .rename_i q;exact⟨q,X⟩
 .rename_i q
  rw[ak q,RI]at h;exact tF h
theorem vg:∀{as:al} {i:a_} {z:AV},as[i]?=f z->ao as i=z|[],O,O',h=>by exact nS h|a::as,0,z,h=>by(dsimp only[ao]at h ⊢;simpa using h)|a::as,i+1,z,h=>vg (as:=as) (i:=i) (by simpa using h)
theorem sE{α β:Type}{K':α->β}:∀{l:d_ α},(l.map K').Nodup->∀{a b:α},a∈l->b∈l->K' a=K' b->a=b:=by intro w';induction w' with|nil=>(intro O O O h O O;exact nomatch h)|cons x l ih=>
  intro hn a b B hb e;rw[bW,gw]at hn;rcases aT.mp B with Y|Y<;>rcases aT.mp hb with L|L
  .exact J Y (J L X)
  .exact g_ (eR.mpr ⟨b,L,by exact dR e (J Y X)⟩) hn.1
  .exact g_ (eR.mpr ⟨a,Y,by exact J e (J L X)⟩) hn.1
  .exact ih hn.2 Y L e
theorem Gh{tk:Tok}(Rq:DZ scope.names ps sc=R)(D0:scope.kind=.function)(I:Inv H w b s D N)(hlen:as.length=ps.length)(r:aG b.heap s.heap D as M)(F:Fr s.heap s.heap.objs.size sj (J? (envOfC name scope s.heap.objs.size fa cd).kindOf (ps.zip M) λO=>V)) (aj:Cl s.heap.objs.size (cellsFrom (s.heap.objs.size+1) scope.names []) sj (K? (envOfC name scope s.heap.objs.size fa cd).kindOf (ps.zip M) λO=>V)) :
  ER b (envOfC name scope s.heap.objs.size fa cd) sc (as++q8 k) {s with heap:=sj,toks:=tk} D:=by
 refine ia λGq zq=>?_;dsimp only[DZ]at Rq;simp only[jb,mG,qr,jQ,rR]at Rq;obtain⟨⟨⟨⟨c1,c2⟩,c3⟩,c4⟩,c5⟩:=Rq;have CA:=js c4;have hr:aG b.heap sj D as M:=r.mono (λc B' t=>ah t λo Y L=>⟨o,F.keep c o Y,L⟩) eS;refine zq ?_;clear zq
 have arg:∀ x i,(x,i)∈sc->(ao (as++q8 k) i).Dy=N'->∃ u,ps[i]?=f x/\M[i]?=f u/\bB b.heap sj D (ao (as++q8 k) i) u:=λx i hx hu=>by
  refine cC (N6 hu) λY L=>?_;rcases(c1 (x,i) hx).2 with h|h
  .exact g_ h (Nat.not_le.mpr (hlen▸Y))
  .have hi:i<M.length:=J hr.length Y;have hv:M[i]?=f M[i]:=lJ hi;refine ah (hr.get' hv) λz M8 M9=>kz (M[i]) h hv ?_;refine J L (J (vg M8) ?_);exact M9
 have fresh:∀ a,s.heap.objs.size<=a->s.heap.get? a=V:=λa B=>by cases q:s.heap.get? a with|none=>rfl|some o=>exact g_ (mF q) (wo.mpr B)
 have out:∀ a,s.heap.objs.size<=a->a∉D/\b.heap.get? a=V:=λa B=>by
  refine⟨λm=>?_,?_⟩
  .refine ah (I.cls a m) λo ho O=>?_;rw[fresh a B]at ho;exact nS ho
  .cases q:b.heap.get? a with|none=>rfl|some o=>(exact dR (fresh a B) (J (I.keep a o q) X))
 have above:∀ x c,(cellsFrom (s.heap.objs.size+1) scope.names []).lookup x=f c->s.heap.objs.size<c:=λx c e=>aj.above x c (HF e);refine⟨D0,X,X,⟨_,F.ns,λx i hx hl hu=>?_⟩,λx c U'=>⟨_,aj.cell x c U',λi hx hl hu=>?_⟩,λx i hx=>?_,out _ (fB _),λx c U'=>⟨(out c (kD (above x c U'))).1,(out c (kD (above x c U'))).2,rU (above x c U')⟩,λx y c Y L=>?_,λx y i Y L=>?_,λx i j Y L=>?_,λx i hx=>?_⟩
 .exact bY (arg x i hx hu) λu Y L h3=>aK u (N4 _ ps M _ i x u CA Y L hl) h3
 .refine bY (arg x i hx hu) λu Y L h3=>?_;exact aK u (N5 _ ps M _ i x u CA Y L (by refine J hl ?_;decide)) h3
 .rcases(c1 (x,i) hx).1.1 with h|⟨h,L⟩
  .exact .inl h
  .refine .inr ⟨h,?_⟩;rw[gF x (cellsFrom_names scope.names 0 (s.heap.objs.size+1) [] [] X)]at L;exact wt.mp L
 .exact PySem.name_of_addr aj.apart (HF Y) (HF L)
 .exact c8 Prod.fst (sE (js c3) Y L X)
 .exact c8 Prod.snd (sE (js c2) Y L X)
 .exact(c1 (x,i) hx).1.2
theorem WD(Y':Gx b mg mb)(hmg:mg K'=f (.ref fa))(ho:b.heap.get? fa=f o)(hd:o.data=.func (X_ name params body scope pm cd doc))(X6:b.heap.CodeRec cd name)(aak:∀ M:dG,M.length=ps.length->bindArgs (X_ name params body scope pm cd doc) ⟨M,[]⟩=pure (ps.zip M)) (Rq:DZ scope.names ps sc=R) (adK:sD ha scope.names sc (.inr body)=R) (cm:Qd H w b mg mb n ha)(D0:scope.kind=.function) (hco:scope.isCoroutine=N') (adL:scope.isGenerator=N'):gh H w b mg (n+1) K' (bt ps.length more ha):=by
 refine C5 fa o _ hmg ho hd (λA E s D N T' as M z Q hA I r aN K=>?_);revert aN;refine aZ (λhlen aN=>?_) nS;have hvl:M.length=ps.length:=r.length.trans hlen;have WE:=Rq;dsimp only[DZ]at WE;simp only[jb,mG,qr,jQ,rR]at WE;refine wpAny_call (call_cells_ret (by have:=hA.dp;omega) (I.keep fa o ho) hd ?_ ?_ (aak M hvl) (λx hx=>?_) (λsj tk F aj=>?_) hco adL D0)
 .exact Y'.nl.keeps I.keep
 .exact X6.keeps I.keep
 .have hx1:=(UX (a:=x.1) (b:=x.2) hx).1;rcases WE.2 x.1 hx1 with h|⟨h,L⟩
  .exact .inl h
  .exact .inr ⟨h,by exact dR (gF x.1 (cellsFrom_names scope.names 0 (s.heap.objs.size+1) [] [] X)) L⟩
 .have hc:=Gh (k:=more) (tk:=tk) Rq D0 I hlen r F aj;have vs:=I.more (t:=tk) F.keep (I.gZ F.keep);have SB:=WC (w:=w) (n:=n) Y' ha (envOfC name scope s.heap.objs.size fa cd) scope.names sc (.inr body) adK cm (λO=>X) D0 X X;have hA':DB n (A.deeper (envOfC name scope s.heap.objs.size fa cd)):=⟨hA.hh,by have:=hA.un;show A.units+3+200+20*n<zk;omega,by have:=hA.dp;show A.depth+1+n<recursionLimit;omega⟩
  have fresh:∀ a∈je (envOfC name scope s.heap.objs.size fa cd) sc,s.heap.get? a=V:=λa B=>by
   have hge:s.heap.objs.size<=a:=by
    rcases(kI (u':=envOfC name scope s.heap.objs.size fa cd) (sc:=sc) (ns:=[]) (λO h=>nomatch h)).sub a B with rfl|⟨x,hx⟩
    .exact fB _
    .exact kD (aj.above x a (HF hx))
   cases q:s.heap.get? a with|none=>rfl|some o=>exact g_ (mF q) (wo.mpr hge)
  have step:∀{s':aJ} {b9:cc} {T':St},dB (je (envOfC name scope s.heap.objs.size fa cd) sc) {s with heap:=sj,toks:=tk} s' D b9 N T'->dB [] s s' D b9 N T':=λS'=>((vs.2.weaken (λO m=>nomatch m) (mT hc)).trans S').forget fresh;revert aN;refine U6 (λs1 k9 v e1 aN=>?_) (λs1 k9 e1 aN=>?_)
  .revert K;refine gI aN ?_;intro K;refine SB _ _ _ D N _ _ _ _ _ hA' vs.1 hc e1 λfl s' b9 I' R' S' hf=>?_;cases fl with|ret u=>exact K u s' b9 I' (step S') hf|_=>exact hf.elim
  .revert K;refine gI aN ?_;intro K;refine SB _ _ _ D N _ _ _ _ _ hA' vs.1 hc e1 λfl s' b9 I' R' S' hf=>?_;cases fl with|next=>exact K .none s' b9 I' (step S') bB.none|_=>exact hf.elim
end
end Mine.Internal
end
section
namespace Mine.Internal
noncomputable def bf:aC->a_->PV|[],O=>.any|x::O,0=>x|O::r,i+1=>bf r i
noncomputable def bM:aC->a_->PV->aC|[],O,O'=>[]|O::r,0,v=>v::r|x::r,i+1,v=>x::bM r i v
noncomputable def allB:aC->af (al)
 |[]=>f []
 |.b v::r=>match allB r with|f l=>f (v::l) |V=>V
 |O::O'=>V
def ie(Z:aC):PV:=match allB Z with|f ws=>.b (.tup ws)|V=>.tup Z
def eh:cf->aC->aC->af (aC)|[],[],M=>f M|i::is,x::Z,M=>eh is Z (bM M i x)|O,O',O''=>V
noncomputable def ft:PV->af (aC)|.b (.tup Z)=>f (Z.map .b)|.tup Z=>f Z|_=>V
def cS(is:cf)(v:PV)(M:aC):af (aC):=match is with|[i]=>f (bM M i v)|is=>match ft v with|f Z=>eh is Z M|V=>V
def N7(o:AL)(x y:PV):fm:=match x,y with|.b (.int a),.b (.int c)=>(match cU o a c with|f z=>f (.b (.int z))|V=>V)|.list Z,.list ys=>(match o with|.add=>if Z.length<=lim/\ys.length<=lim then f (.list (Z++ys)) else .none|_=>V)|.list Z,.b (.int k)=>(match o with|.mul=>(match Z with|[.b (.int v)]=>if 0<=k/\k<=1000000 then f (.list (k_ k.toNat (.b (.int v)))) else .none|_=>V)|_=>V)|O,O'=>V
def nL(o:AM)(x y:PV):af e_:=match x,y with|.b x,.b y=>fw ⟨0,.nil⟩ o x y|.list Z,.list ys=>(match Z.isEmpty||ys.isEmpty with|R=>(match o with|.eq=>f (Z.isEmpty&&ys.isEmpty)|.ne=>f (!(Z.isEmpty&&ys.isEmpty))|_=>V)|N'=>V)|O,O'=>V
def WG(x c:PV):af e_:=match x with|.b x=>(match c with|.b (.tup Z)=>ji x Z|.list ys=>(match allB ys with|f Z=>ji x Z|V=>V)|.dict bJ=>(match x with|.tup k=>(match keyOf k with|f k=>f (jR bJ k).isSome|V=>V)|_=>V)|_=>V)|_=>V
noncomputable def yz {α:Type} (Z:d_ α) (i:G):af α:=match i with|.ofNat n=>Z[n]?|.negSucc n=>if n<Z.length then Z[Z.length-1-n]? else .none
def ml(a i:PV):fm:=match a,i with
 |.b (.tup Z),.b (.int i)=>if Z.length<=lim then(match yz Z i with|f v=>f (.b v) |V=>V) else .none
 |.tup Z,.b (.int i)=>if Z.length<=lim then yz Z i else .none
 |.list Z,.b (.int i)=>if Z.length<=lim then yz Z i else .none
 |.dict bJ,.b (.tup k)=>match keyOf k with
  |f k=>match jR bJ k with|f v=>f (.b v) |V=>V
  |V=>V
 |O,O'=>V
def nM:PV->af (al)|.b (.tup Z)=>f Z|.list ys=>allB ys|.dict bJ=>f (bJ.map λp=>iH p.1)|_=>V
def tu(b:BI)(as:aC):fm:=match b with|.abs=>(match as with|[.b (.int i)]=>f (.b (.int (if i<0 then -i else i)))|_=>V)|.int=>(match as with|[.b (.int i)]=>f (.b (.int i))|_=>V)|.len=>(match as with|[.b (.tup Z)]=>if Z.length<=lim then f (.b (.int Z.length)) else .none|[.list Z]=>if Z.length<=lim then f (.b (.int Z.length)) else .none|[.dict Z]=>if Z.length<=lim then f (.b (.int Z.length)) else .none|_=>V)|.list=>(match as with|[.list Z]=>if Z.length<=lim then f (.list Z) else .none|_=>V)|.tuple=>(match as with|[.list Z]=>if Z.length<=lim then f (ie Z) else .none|_=>V)|.dict=>(match as with|[.dict Z]=>if Z.length<=lim/\Z.all (λp=>smallKey p.1)=R then f (.dict Z) else .none|_=>V)|.sum=>(match as with|[v]=>(match nM v with|f Z=>(match sumInts Z 0 with|f z=>f (.b (.int z))|V=>V)|V=>V)|_=>V)|.yC=>(match as with|[v]=>(match nM v with|f (.int x::Z)=>(match iL Z x with|f z=>f (.b (.int z))|V=>V)|_=>V)|_=>V)|.max2=>(match as with|[.b (.int a),.b (.int c)]=>f (.b (.int (if c>a then c else a)))|_=>V)|.min2=>(match as with|[.b (.int a),.b (.int c)]=>f (.b (.int (if c<a then c else a)))|_=>V)|.any=>(match as with|[v]=>(match nM v with|f Z=>(match boolsOf Z with|f l=>f (.b (.bool (l.any id)))|V=>V)|V=>V)|_=>V)|.all=>match as with|[v]=>(match nM v with|f Z=>(match boolsOf Z with|f l=>f (.b (.bool (l.all id)))|V=>V)|V=>V)|_=>V
def Ad(a k:PV):fm:=match a,k with|.b (.tup Z),.b (.int (.ofNat k))=>if k<Z.length/\Z.length<=lim then f (.b (.tup (Z.take k))) else .none|.list Z,.b (.int (.ofNat k))=>if Z.length<=lim then f (.list (Z.take k)) else .none|O,O'=>V
def sF(a k:PV):fm:=match a,k with|.list Z,.b (.int (.ofNat k))=>if Z.length<=lim then f (.list (Z.drop k)) else .none|O,O'=>V
def fy:a_->aC->aC|O,[]=>[]|i,x::r=>ie [.b (.int i),x]::fy (i+1) r
def D3(k:tA)(v:PV):af (aC):=match k,v with|.plain,.b (.tup Z)=>f (Z.map .b)|.plain,.tup Z=>f Z|.plain,.list Z=>f Z|.plain,.dict bJ=>f (bJ.map λp=>.b (iH p.1))|.range,.b (.int n)=>if 0<=n/\n<=1000000 then f ((gY n).map .b) else .none|.enum,.b (.tup Z)=>f (fy 0 (Z.map .b))|.enum,.list Z=>f (fy 0 Z)|.rev,.list Z=>f Z.reverse|O,O'=>V
noncomputable abbrev WH:=aC->fm
noncomputable def lu (K':PV->af (aC)):aC->af (aC)|[]=>f []|x::Z=>match K' x with|f ys=>(match lu K' Z with|f zs=>f (ys++zs)|V=>V)|V=>V
def Ae(K':PV->af (aA × AV)):aC->c9->af (c9)|[],G'=>f G'|x::Z,G'=>match K' x with|f (k,v)=>Ae K' Z (iI G' k v)|V=>V
def D4(g:WH)(C':cf)(M:aC)(x:PV):af (aC):=match cS C' x M with|f vs2=>(match g vs2 with|f y=>f [y]|V=>V)|V=>V
def rm(c g:WH)(C':cf)(M:aC)(x:PV):af (aC):=match cS C' x M with|f vs2=>(match c vs2 with|f (.b (.bool R))=>(match g vs2 with|f y=>f [y]|V=>V)|f (.b (.bool N'))=>f []|_=>V)|V=>V
def Gi:cf->aC->aC|[],M=>M|i::is,M=>bM (Gi is M) i .any
def WI(qF:WH)(tB:tA)(g:WH)(C' tgt2:cf)(M:aC)(x:PV):af (aC):=match cS C' x (Gi tgt2 M) with|f vs2=>(match qF vs2 with|f v2=>(match D3 tB v2 with|f Qa=>lu (D4 g tgt2 vs2) Qa|V=>V)|V=>V)|V=>V
def rn(r:fm)(ik:tA)(K':PV->af (aC)):fm:=match r with|f v=>(match D3 ik v with|f Z=>(match lu K' Z with|f ys=>if ys.length<=lim then f (.list ys) else .none|V=>V)|V=>V)|V=>V
def xx(k g:WH)(C':cf)(M:aC)(x:PV):af (aA × AV):=match cS C' x M with|f vs2=>(match k vs2 with|f (.b (.tup kt))=>(match g vs2 with|f (.b y)=>(match keyOf kt with|f ks=>f (ks,y)|V=>V)|_=>V)|_=>V)|V=>V
def BF(r:fm)(ik:tA)(K':PV->af (aA × AV)):fm:=match r with
 |f v=>match D3 ik v with
  |f Z=>if Z.length<=lim then match Ae K' Z []with
   |f bJ=>if bJ.length<=lim then f (.dict bJ) else .none
   |V=>V else .none
  |V=>V
 |V=>V
def dO:PV->af e_|.b v=>f v.isNone|.any=>V|_=>f N'
def ax:CE->WH|.k v,O=>f (.b v)|.glob O v,O'=>f (.b v)|.var i,M=>(match bf M i with|.any=>V|.b .ub=>V|v=>f v)|.bin o a b,M=>(match ax a M with|f x=>(match ax b M with|f y=>N7 o x y|V=>V)|V=>V)|.neg a,M=>(match ax a M with|f (.b (.int i))=>f (.b (.int (-i)))|_=>V)|.cmp o a b,M=>(match ax a M with|f x=>(match ax b M with|f y=>(match nL o x y with|f r=>f (.b (.bool r))|V=>V)|V=>V)|V=>V)|.isNone y a,M=>(match ax a M with|f x=>(match dO x with|f r=>f (.b (.bool (r==y)))|V=>V)|V=>V)|.isin y a b,M=>(match ax a M with|f x=>(match ax b M with|f c=>(match WG x c with|f r=>f (.b (.bool (r==y)))|V=>V)|V=>V)|V=>V)|.and a b,M=>(match ax a M with|f (.b (.bool R))=>ax b M|f (.b (.bool N'))=>f (.b (.bool N'))|_=>V)|.or a b,M=>(match ax a M with|f (.b (.bool N'))=>ax b M|f (.b (.bool R))=>f (.b (.bool R))|_=>V)|.not a,M=>(match ax a M with|f (.b (.bool b))=>f (.b (.bool (!b)))|_=>V)|.ite t a b,M=>(match ax t M with|f (.b (.bool R))=>ax a M|f (.b (.bool N'))=>ax b M|_=>V)|.call O O' P as,M=>(match P.mu with|R=>V|N'=>match ax as M with|f (.tup Z)=>P.fn Z|_=>V)|.bi b as,M=>(match ax as M with|f (.tup Z)=>tu b Z|_=>V)|.idx a i,M=>(match ax a M with|f x=>(match ax i M with|f y=>ml x y|V=>V)|V=>V)|.gJ a k,M=>(match ax a M with|f x=>(match ax k M with|f y=>Ad x y|V=>V)|V=>V)|.fq a k,M=>(match ax a M with|f x=>(match ax k M with|f y=>sF x y|V=>V)|V=>V)|.bc as,M=>(match ax as M with|f (.tup Z)=>f (ie Z)|_=>V)|.lst as,M=>(match ax as M with|f (.tup Z)=>f (.list Z)|_=>V)|.gz,O=>f (.dict [])|.kX k v,M=>(match ax k M with|f (.b (.tup kt))=>(match ax v M with|f (.b y)=>(match keyOf kt with|f ks=>f (.dict [(ks,y)])|V=>V)|_=>V)|_=>V)|.bq e C' ik it,M=>rn (ax it M) ik (D4 (ax e) C' M)|.bR e C' ik it c,M=>rn (ax it M) ik (rm (ax c) (ax e) C' M)|.dH e C' ik it tgt2 tB qF,M=>rn (ax it M) ik (WI (ax qF) tB (ax e) C' tgt2 M)|.jT k e C' ik it,M=>BF (ax it M) ik (xx (ax k) (ax e) C' M)|.bad,O=>V|.nil,O=>f (.tup [])|.cons e r,M=>match ax e M with|f x=>(match ax r M with|f (.tup Z)=>f (.tup (x::Z))|_=>V)|V=>V
def eL(i:a_):CE->e_|.var j=>i==j|.bin O a b=>(eL i a||eL i b)|.neg a=>eL i a|.cmp O a b=>(eL i a||eL i b)|.isNone O a=>eL i a|.isin O a b=>(eL i a||eL i b)|.and a b=>(eL i a||eL i b)|.or a b=>(eL i a||eL i b)|.not a=>eL i a|.ite t a b=>(eL i t||eL i a||eL i b)|.call O O' O'' as=>eL i as|.bi O as=>eL i as|.idx a b=>(eL i a||eL i b)|.gJ a b=>(eL i a||eL i b)|.fq a b=>(eL i a||eL i b)|.bc as=>eL i as|.lst as=>eL i as|.kX k v=>(eL i k||eL i v)|.bq e O O' it=>(eL i e||eL i it)|.bR e O O' it c=>(eL i e||eL i it||eL i c)|.dH e O O' it O'' O''' qF=>(eL i e||eL i it||eL i qF)|.jT k v O O' it=>(eL i k||eL i v||eL i it)|.cons e r=>(eL i e||eL i r)|.k ..=>N'|.glob ..=>N'|.gz=>N'|.bad=>N'|.nil=>N'
noncomputable def WJ:BI->e_|.list=>R|.dict=>R|_=>N'
def fresh:CE->e_|.bin ..=>R|.gz=>R|.kX ..=>R|.lst O=>R|.bq ..=>R|.bR ..=>R|.dH ..=>R|.jT ..=>R|.gJ ..=>R|.fq ..=>R|.call O O' P O''=>P.fr|.bi b O=>WJ b|.ite O a b=>fresh a&&fresh b|.k ..=>N'|.glob ..=>N'|.var ..=>N'|.neg ..=>N'|.cmp ..=>N'|.isNone ..=>N'|.isin ..=>N'|.and ..=>N'|.or ..=>N'|.not ..=>N'|.idx ..=>N'|.bc ..=>N'|.bad=>N'|.nil=>N'|.cons ..=>N'
set_option genCtorIdx false in
inductive kQ where
 |next|cont|ret (v:PV)
gen_injective_theorems% kQ
def fu(mu:cf)(c:CE):e_:=mu.any λi=>eL i c
def ro(m rd fr:e_)(iv:PV):e_:=match iv with|.b O=>!m|.dict O=>(if m then fr else !rd||fr)|.list Vs=>(if m then fr&&(!rd||(allB Vs).isSome) else !rd||(fr&&(allB Vs).isSome))|_=>!m&&!rd
noncomputable def isObj:PV->e_|.list O=>R|.dict O=>R|_=>N'
noncomputable abbrev Uc:=aC->af (aC × kQ)
noncomputable def dQ (K':PV->Uc):aC->Uc|[],M=>f (M,.next)|x::Z,M=>match K' x M with|f (vs1,.ret v)=>f (vs1,.ret v)|f (vs1,O)=>dQ K' Z vs1|V=>V
def cn(g:Uc)(C':cf)(x:PV)(M:aC):af (aC × kQ):=match cS C' x M with|f T5=>g T5|V=>V
noncomputable def eY (t:WH) (K':Uc):a_->Uc|0,O=>V|n+1,M=>match t M with|f (.b (.bool R))=>(match K' M with|f (vs2,.ret v)=>f (vs2,.ret v)|f (vs2,O)=>eY t K' n vs2|V=>V)|f (.b (.bool N'))=>f (M,.next)|_=>V
def j8(o:PV)(M' v:AV):fm:=match o with|.list Z=>(match M' with|.int (.ofNat i)=>if i<Z.length/\Z.length<=lim then f (.list (Z.set i (.b v))) else .none|_=>V)|.dict bJ=>(match M' with|.tup k=>(match keyOf k with|f k=>if bJ.length<=lim then f (.dict (iI bJ k v)) else .none|V=>V)|_=>V)|_=>V
def D5(two:e_)(o:PV)(k:AV):fm:=match o with|.dict bJ=>(match k with|.tup k=>(match keyOf k with|f k=>(if bJ.length<=lim then match two||(jR bJ k).isSome with|R=>f (.dict (lK bJ k))|N'=>V else .none)|V=>V)|_=>V)|_=>V
def D6(o:PV):fm:=match o with|.list ys=>(match allB ys with|f Z=>(if 2<=Z.length/\Z.length<64 then match w4 Z&&sq Z with|R=>f (.list ys.reverse)|N'=>V else .none)|V=>V)|_=>V
def ly(M:aC)(i:a_)(r:fm):af (aC × kQ):=match r with|f iv=>f (bM M i iv,.next)|V=>V
def aD(mu:cf):CS->Uc|.assign i e,M=>(match ax e M with|f iv=>(match ro (mu.contains i) (fu mu e) (fresh e) iv with|R=>f (bM M i iv,.next)|N'=>V)|V=>V)|.bj is e,M=>(match ax e M with|f iv=>(match (!(is.any mu.contains))&&ro N' (fu mu e) N' iv with|R=>(match ft iv with|f Z=>(match eh is Z M with|f vs1=>f (vs1,.next)|V=>V)|V=>V)|N'=>V)|V=>V)|.dd o i e,M=>(match mu.contains o with|R=>(match ax e M with|f (.b v)=>(match ax i M with|f (.b M')=>ly M o (j8 (bf M o) M' v)|_=>V)|_=>V)|N'=>V)|.aug k i e,M=>(match mu.contains i with|R=>V|N'=>match bf M i with|.b (.int x)=>(match ax e M with|f (.b (.int y))=>(match cU k x y with|f z=>f (bM M i (.b (.int z)),.next)|V=>V)|_=>V)|_=>V)|.iJ k o i e,M=>(match mu.contains o with|R=>(match ax i M with|f (.b M')=>(match ml (bf M o) (.b M') with|f (.b (.int x))=>(match ax e M with|f (.b (.int y))=>(match cU k x y with|f z=>ly M o (j8 (bf M o) M' (.int z))|V=>V)|_=>V)|_=>V)|_=>V)|N'=>V)|.ret e,M=>(match ax e M with|f iv=>f (M,.ret iv)|V=>V)|.iff t a b,M=>(match ax t M with|f (.b (.bool R))=>aD mu a M|f (.b (.bool N'))=>aD mu b M|_=>V)|.kF t b,M=>eY (ax t) (aD mu b) 100000 M|.gE C' ik it b,M=>(match C'.any mu.contains with|R=>V|N'=>match it with|.var i=>(match mu.contains i with|R=>(match ik with|.plain=>(match bf M i with|.list Z=>dQ (cn (aD mu b) C') Z (bM M i .any)|_=>V)|_=>V)|N'=>match D3 ik (bf M i) with|f Z=>dQ (cn (aD mu b) C') Z M|V=>V)|it=>match fu mu it with|R=>V|N'=>match ax it M with|f iv=>(match D3 ik iv with|f Z=>dQ (cn (aD mu b) C') Z M|V=>V)|V=>V)|.cont,M=>f (M,.cont)|.qt d k,M=>(match mu.contains d with|R=>(match ax k M with|f (.b kv)=>ly M d (D5 R (bf M d) kv)|_=>V)|N'=>V)|.qu d k,M=>(match mu.contains d with|R=>(match ax k M with|f (.b kv)=>ly M d (D5 N' (bf M d) kv)|_=>V)|N'=>V)|.append l e,M=>(match mu.contains l with|R=>(match bf M l with|.list Z=>(match ax e M with|f iv=>(match ro N' (fu mu e) (fresh e) iv with|R=>if Z.length<=lim then f (bM M l (.list (Z++[iv])),.next) else .none|N'=>V)|V=>V)|_=>V)|N'=>V)|.extend l e,M=>(match mu.contains l with|R=>(match bf M l with|.list Z=>(match ax e M with|f (.list ys)=>(match (fresh e&&(allB ys).isSome) with|R=>if Z.length<=lim/\ys.length<=lim then f (bM M l (.list (Z++ys)),.next) else .none|N'=>V)|_=>V)|_=>V)|N'=>V)|.sort l,M=>(match mu.contains l with|R=>ly M l (D6 (bf M l))|N'=>V)|.expr (.call K' F P as),M=>(match P.mu with|R=>(match as with|.cons (.var i) r=>(match mu.contains i with|R=>(match ax r M with|f (.tup Vs)=>(match (allB Vs).isSome with|R=>(match isObj (bf M i) with|R=>ly M i (P.fn (bf M i::Vs))|N'=>V)|N'=>V)|_=>V)|N'=>V)|_=>V)|N'=>match ax as M with|f (.tup Vs)=>(match P.fn Vs with|f O=>f (M,.next)|V=>V)|_=>V)|.skip,M=>f (M,.next)|.seq a b,M=>(match aD mu a M with|f (vs1,.next)=>aD mu b vs1|r=>r)|O,O'=>V
noncomputable def bz:a_->aC|0=>[]|n+1=>.any::bz n
def prun(mu:cf)(np more:a_)(ha:CS):aC->fm:=λas=>if as.length=np then match aD mu ha (as++bz more) with|f (O,.ret iv)=>f iv|f (O,.next)=>f (.b .none)|_=>V else .none
def CC(mu:cf):CS->e_|.ret (.var i)=>mu.contains i|.ret e=>fresh e|.iff O a b=>CC mu a&&CC mu b|.kF O b=>CC mu b|.gE O O' O'' b=>CC mu b|.seq a b=>CC mu a&&CC mu b|_=>R
def bO(K:Fn->gy->Prop):CE->Prop|.bin O a b=>bO K a/\bO K b|.neg a=>bO K a|.cmp O a b=>bO K a/\bO K b|.isNone O a=>bO K a|.isin O a b=>bO K a/\bO K b|.and a b=>bO K a/\bO K b|.or a b=>bO K a/\bO K b|.not a=>bO K a|.ite t a b=>bO K t/\bO K a/\bO K b|.call O F P as=>K F P/\bO K as|.bi O as=>bO K as|.idx a b=>bO K a/\bO K b|.gJ a b=>bO K a/\bO K b|.fq a b=>bO K a/\bO K b|.bc as=>bO K as|.lst as=>bO K as|.kX k v=>bO K k/\bO K v|.bq e O O' it=>bO K e/\bO K it|.bR e O O' it c=>bO K e/\bO K it/\bO K c|.dH e O O' it O'' O''' qF=>bO K e/\bO K it/\bO K qF|.jT k v O O' it=>bO K k/\bO K v/\bO K it|.cons e r=>bO K e/\bO K r|.k ..=>f?|.glob ..=>f?|.var ..=>f?|.gz=>f?|.bad=>f?|.nil=>f?
def fg(K:Fn->gy->Prop):CS->Prop|.assign O e=>bO K e|.bj O e=>bO K e|.dd o i e=>bO K (.var o)/\bO K i/\bO K e|.aug O O' e=>bO K e|.iJ O o i e=>bO K (.var o)/\bO K i/\bO K e|.ret e=>bO K e|.iff t a b=>bO K t/\fg K a/\fg K b|.kF t b=>bO K t/\fg K b|.gE O O' it b=>bO K it/\fg K b|.qt d k=>bO K (.var d)/\bO K k|.qu d k=>bO K (.var d)/\bO K k|.append l e=>bO K (.var l)/\bO K e|.extend l e=>bO K (.var l)/\bO K e|.sort l=>bO K (.var l)|.expr e=>bO K e|.seq a b=>fg K a/\fg K b|.cont=>f?|.raise=>f?|.skip=>f?
theorem tU:ax (.var i) M=(match bf M i with|.any=>V|.b .ub=>V|v=>f v):=rfl
theorem mV:ax (.bin o a b) M=(match ax a M with|f x=>(match ax b M with|f y=>N7 o x y|V=>V)|V=>V):=rfl
theorem ju:ax (.cmp o a b) M=(match ax a M with|f x=>(match ax b M with|f y=>(match nL o x y with|f r=>f (.b (.bool r))|V=>V)|V=>V)|V=>V):=rfl
theorem sG:ax (.or a b) M=(match ax a M with|f (.b (.bool N'))=>ax b M|f (.b (.bool R))=>f (.b (.bool R))|_=>V):=rfl
theorem pZ:ax (.ite t a b) M=(match ax t M with|f (.b (.bool R))=>ax a M|f (.b (.bool N'))=>ax b M|_=>V):=rfl
theorem rp:ax (.call u1 u2 P as) M=(match P.mu with|R=>V|N'=>match ax as M with|f (.tup Z)=>P.fn Z|_=>V):=rfl
theorem jX:ax (.bi b as) M=(match ax as M with|f (.tup Z)=>tu b Z|_=>V):=rfl
theorem mW:ax (.idx a i) M=(match ax a M with|f x=>(match ax i M with|f y=>ml x y|V=>V)|V=>V):=rfl
theorem eZ:ax (.bc as) M=(match ax as M with|f (.tup Z)=>f (ie Z)|_=>V):=rfl
theorem Af:ax (.lst as) M=(match ax as M with|f (.tup Z)=>f (.list Z)|_=>V):=rfl
theorem bX:ax (.cons e r) M=(match ax e M with|f x=>(match ax r M with|f (.tup Z)=>f (.tup (x::Z))|_=>V)|V=>V):=rfl
theorem ej:aD mu (.bj is e) M=(match ax e M with|f iv=>(match (!(is.any mu.contains))&&ro N' (fu mu e) N' iv with|R=>(match ft iv with|f Z=>(match eh is Z M with|f vs1=>f (vs1,.next)|V=>V)|V=>V)|N'=>V)|V=>V):=rfl
theorem Ag:aD mu (.iff t a b) M=(match ax t M with|f (.b (.bool R))=>aD mu a M|f (.b (.bool N'))=>aD mu b M|_=>V):=rfl
theorem p0:aD mu (.seq a b) M=(match aD mu a M with|f (vs1,.next)=>aD mu b vs1|r=>r):=rfl
theorem tV:ax (.and a b) M=(match ax a M with|f (.b (.bool R))=>ax b M|f (.b (.bool N'))=>f (.b (.bool N'))|_=>V):=rfl
theorem BG:aD mu (.assign i e) M=(match ax e M with|f iv=>(match ro (mu.contains i) (fu mu e) (fresh e) iv with|R=>f (bM M i iv,.next)|N'=>V)|V=>V):=rfl
theorem Ah:aD mu (.ret e) M=(match ax e M with|f iv=>f (M,.ret iv)|V=>V):=rfl
theorem KD:ax (.not a) M=(match ax a M with|f (.b (.bool b))=>f (.b (.bool (!b)))|_=>V):=rfl
theorem Gj:ax (.isin y a b) M=(match ax a M with|f x=>(match ax b M with|f c=>(match WG x c with|f r=>f (.b (.bool (r==y)))|V=>V)|V=>V)|V=>V):=rfl
end Mine.Internal
end
section
open PySem
namespace Mine.Internal
variable{ha:Sort _}{r:ha}{Y':Prop}
theorem N8{x:af (aC × kQ)}{F:(aC)->ha}{j':(af (aC × kQ))->ha}:(∀ a,x=f (a,kQ.next)->F a=r->Y')->(j' x=r->Y')->(match x with|f (a,kQ.next)=>F a|a=>j' a)=r->Y':=by rcases x with _|w1<;>first|exact λk O=>k _ X|exact λO k=>k|(rcases w1 with ⟨_,w3⟩<;>rcases w3 with _|_|_<;>first|exact λk O=>k _ X|exact λO k=>k)
theorem aal{x:af (aC × kQ)}{F:(aC)->PV->ha}{j':(aC)->ha}{K:(af (aC × kQ))->ha}:(∀ a b,x=f (a,kQ.ret b)->F a b=r->Y')->(∀ a,x=f (a,kQ.next)->j' a=r->Y')->(K x=r->Y')->(match x with|f (a,kQ.ret b)=>F a b|f (a,kQ.next)=>j' a|a=>K a)=r->Y':=by rcases x with _|w1<;>first|exact λk O O=>k _ _ X|exact λO k O=>k _ X|exact λO O k=>k|(rcases w1 with ⟨_,w3⟩<;>rcases w3 with _|_|_<;>first|exact λk O O=>k _ _ X|exact λO k O=>k _ X|exact λO O k=>k)
theorem aam{x:af (aC × kQ)}{F j':(aC)->ha}{K:(af (aC × kQ))->ha}:(∀ a,x=f (a,kQ.cont)->F a=r->Y')->(∀ a,x=f (a,kQ.next)->j' a=r->Y')->(K x=r->Y')->(match x with|f (a,kQ.cont)=>F a|f (a,kQ.next)=>j' a|a=>K a)=r->Y':=by rcases x with _|w1<;>first|exact λk O O=>k _ X|exact λO k O=>k _ X|exact λO O k=>k|(rcases w1 with ⟨_,w3⟩<;>rcases w3 with _|_|_<;>first|exact λk O O=>k _ X|exact λO k O=>k _ X|exact λO O k=>k)
theorem spW{x:af (aC × kQ)}{F:aC->PV->ha}{j':aC->kQ->ha}{K:ha}:(∀ a b,x=f (a,kQ.ret b)->F a b=r->Y')->(∀ a b,x=f (a,b)->(∀ v,b≠kQ.ret v)->j' a b=r->Y')->(K=r->Y')->(match x with|f (a,kQ.ret b)=>F a b|f (a,b)=>j' a b|V=>K)=r->Y':=by
 intro k l m;rcases x with _|⟨a,b⟩
 .exact m
 .cases b
  .exact l _ _ X (λO=>nofun)
  .exact l _ _ X (λO=>nofun)
  .exact k _ _ X
end Mine.Internal
end
section
namespace Mine.Internal
noncomputable def Tr.has:Tr->a_->e_|.nil,O=>N'|.node O l r,i=>if i=0 then R else if i%2=1 then l.has (i/2) else r.has (i/2-1)
theorem Tr.vY(e:Ent):∀(t:Tr) (a i:a_),t.has i=R->(t.put a e).has i=R
 |.nil,O,O',h=>by exact fT h
 |.node v l r,a,i,h=>by
  dsimp only[Tr.put];by_cases B:a=0
  .exact J (ai B) h
  .refine J (ak B) ?_;by_cases pa:a%2=1
   .refine J (ai pa) ?_;dsimp only[Tr.has]at h ⊢;by_cases hi:i=0
    .simp[hi]
    .rw[ak hi]at h ⊢;by_cases pi:i%2=1
     .rw[ai pi]at h ⊢;exact Tr.vY e l _ _ h
     .rw[ak pi]at h ⊢;exact h
   .refine J (ak pa) ?_;dsimp only[Tr.has]at h ⊢;by_cases hi:i=0
    .simp[hi]
    .rw[ak hi]at h ⊢;by_cases pi:i%2=1
     .rw[ai pi]at h ⊢;exact h
     .rw[ak pi]at h ⊢;exact Tr.vY e r _ _ h
theorem Tr.BH:∀(t:Tr) (i:a_),(t.get i).isSome=R->t.has i=R
 |.nil,O,h=>by exact fT h
 |.node v l r,i,h=>by
  dsimp only[Tr.get,Tr.has]at h ⊢;by_cases hi:i=0
  .simp[hi]
  .rw[ak hi]at h ⊢;by_cases pi:i%2=1
   .rw[ai pi]at h ⊢;exact Tr.BH l _ h
   .rw[ak pi]at h ⊢;exact Tr.BH r _ h
theorem Tr.Gk(e:Ent):∀(t:Tr) (a:a_),t.has a=R->((t.put a e).get a).isSome=R
 |.nil,O,h=>by exact fT h
 |.node v l r,a,h=>by
  dsimp only[Tr.put];by_cases B:a=0
  .refine J (ai B) ?_;(dsimp only[Tr.get];simp[B])
  .refine J (ak B) ?_;dsimp only[Tr.has]at h;rw[ak B]at h;by_cases pa:a%2=1
   .rw[ai pa]at h ⊢;(dsimp only[Tr.get];refine J (ak B) (J (ai pa) ?_));exact Tr.Gk e l _ h
   .rw[ak pa]at h ⊢;(dsimp only[Tr.get];refine J (ak B) (J (ak pa) ?_));exact Tr.Gk e r _ h
theorem IM{i a:a_}(h:i<a/2):2*i+1<a:=eA (show 2*i+1<2*(i+1) from lN _) (aR (HC 2 h) (Nat.mul_div_le a 2))
theorem WK{i a:a_}(h:i<a/2-1):2*i+2<a:=rT (lN _) (IM (Nat.add_lt_of_lt_sub h))
theorem Tr.xy(e:Ent):∀(t:Tr) (a:a_),(∀ i,i<a->t.has i=R)->((t.put a e).get a).isSome=R
 |.nil,a,h=>by cases a with|zero=>rfl|succ a=>have:=h 0 (by exact rS _ _);exact fT this
 |.node v l r,a,h=>by
  dsimp only[Tr.put];by_cases B:a=0
  .refine J (ai B) ?_;(dsimp only[Tr.get];simp[B])
  .refine J (ak B) ?_;by_cases pa:a%2=1
   .refine J (ai pa) ?_;dsimp only[Tr.get];refine J (ak B) (J (ai pa) ?_);refine Tr.xy e l _ λi hi=>?_
    have:=h (2*i+1) (IM hi)
    dsimp only[Tr.has]at this;rw[ak (by simp),ai (by simp)]at this;rwa [show(2*i+1)/2=i from by lia]at this
   .refine J (ak pa) ?_;dsimp only[Tr.get];refine J (ak B) (J (ak pa) ?_);refine Tr.xy e r _ λi hi=>?_
    have:=h (2*i+2) (WK hi)
    dsimp only[Tr.has]at this;rw[ak (by lia),ak (by simp)]at this;rwa [show(2*i+2)/2-1=i from by simp]at this
structure WF(N:St):Prop where
 out:∀ i,N.n<=i->N.ent i=.none
 has:∀ i,i<N.n->N.t.has i=R
theorem WF.lt(h:WF N)(he:N.ent i=f e):i<N.n:=by
 rcases Nat.lt_or_ge i N.n with q|q
 .exact q
 .rw[h.out i q]at he;exact nS he
theorem BJ{N:St}{i:a_}{o:AO}(h:N.get i=f o):∃ K',N.ent i=f ⟨K',o⟩:=by unfold St.get at h;obtain⟨⟨K',o'⟩,he,eE⟩:=HE.mp h;clear h;subst eE;exact⟨K',he⟩
theorem gU{N:St}{i:a_}{e:Ent}(h:N.ent i=f e):N.get i=f e.obj:=by unfold St.ent at h;unfold St.get;exact J h X
theorem iV{N:St}{i:a_}{o:AO}(h:N.ent i=f ⟨N',o⟩):N.getM i=f o:=by unfold St.ent at h;unfold St.getM;exact J h X
theorem fj{N:St}{i:a_}{o:AO}(h:N.getM i=f o):N.ent i=f ⟨N',o⟩:=by unfold St.getM at h;unfold St.ent;revert h;refine YU (λO e h=>?_);refine J e ?_;obtain rfl:=aw h;rfl
theorem dx{N T':St}{i:a_}(h:T'.ent i=N.ent i):T'.get i=N.get i:=by unfold St.ent at h;unfold St.get;exact J h X
theorem cN{N T':St}{i:a_}(h:T'.ent i=N.ent i):T'.getM i=N.getM i:=by unfold St.ent at h;unfold St.getM;exact J h X
theorem iW(h:WF N)(o:AO):∃ T',N.push o=f T'/\WF T'/\T'.n=N.n+1/\∀ j,T'.ent j=if j=N.n then f ⟨N',o⟩ else N.ent j:=by
 have hq:=Tr.xy ⟨N',o⟩ N.t N.n h.has;have hg:=Tr.vS ⟨N',o⟩ N.t N.n hq;refine Ts ⟨N.n+1,N.t.put N.n ⟨N',o⟩⟩ ?_ ⟨λi hi=>?_,λi hi=>?_⟩ X hg
 .unfold St.push;dsimp only;exact J hq X
 .show(N.t.put N.n _).get i=_;replace hi:N.n+1<=i:=hi;exact J (hg _) (J (ak (by exact rU ‹_›)) (h.out i (by exact kD ‹_›)))
 .show(N.t.put N.n _).has i=R;replace hi:i<N.n+1:=hi;rcases Nat.lt_or_ge i N.n with q|q
  .exact Tr.vY _ _ _ _ (h.has i q)
  .obtain rfl:i=N.n:=by lia
   exact Tr.BH _ _ hq
theorem sH(h:WF N)(hi:i<N.n)(e:Ent):∃ T',N.JD i e=f T'/\WF T'/\T'.n=N.n/\∀ j,T'.ent j=if j=i then f e else N.ent j:=by
 have hq:=Tr.Gk e N.t i (h.has i hi);have hg:=Tr.vS e N.t i hq;refine Ts ⟨N.n,N.t.put i e⟩ ?_ ⟨λj hj=>?_,λj hj=>?_⟩ X hg
 .unfold St.JD;dsimp only;exact J hq X
 .show(N.t.put i _).get j=_;replace hj:N.n<=j:=hj;exact J (hg _) (J (ak (by lia)) (h.out j hj))
 .exact Tr.vY _ _ _ _ (h.has j hj)
noncomputable abbrev Vw:=a_->af AO
def view(j':jS)(N:St):Vw:=λn=>match j' n with|R=>V|N'=>N.get n
noncomputable def hide (n:a_) (W:Vw):Vw:=λi=>if i=n then .none else W i
mutual
def VR(W:Vw):PV->AV->Prop|.any,O=>f?|.b w,v=>v=w|.tup Vs,v=>∃ Z,v=.tup Z/\bZ W Vs Z|.list Vs,v=>∃ n Z,v=.ref n/\W n=f (.list Z)/\bZ W Vs Z|.dict bJ,v=>∃ n,v=.ref n/\W n=f (.dict bJ)
def bZ(W:Vw):aC->al->Prop|[],Z=>Z=[]|iv::Vs,Z=>∃ x r,Z=x::r/\VR W iv x/\bZ W Vs r
end
mutual
theorem VR.mono(h:∀ n o,W n=f o->W' n=f o):∀{iv:PV} {v:AV},VR W iv v->VR W' iv v|.any,O,O'=>by dsimp only[VR]|.b O,O',r=>by exact r|.tup Vs,O,r=>(by dsimp only[VR]at r ⊢;obtain⟨Z,e,q⟩:=r;exact aK Z e (bZ.mono h q))|.list Vs,O,r=>(by dsimp only[VR]at r ⊢;obtain⟨n,Z,e,q,s⟩:=r;exact fI n Z e (h _ _ q) (bZ.mono h s))|.dict bJ,O,r=>by dsimp only[VR]at r ⊢;obtain⟨n,e,q⟩:=r;exact aK n e (h _ _ q)
theorem bZ.mono(h:∀ n o,W n=f o->W' n=f o):∀{Vs:aC} {Z:al},bZ W Vs Z->bZ W' Vs Z|[],O,r=>by exact r|iv::Vs,O,r=>by dsimp only[bZ]at r ⊢;obtain⟨x,r',e,q,s⟩:=r;exact fI x r' e (VR.mono h q) (bZ.mono h s)
end
section
variable{W:Vw}{j':jS}{N T' ae aq bo:St}
theorem VR.any:VR W .any v:=by dsimp only[VR]
theorem VR.b(v:AV):VR W (.b v) v:=by dsimp only[VR]
theorem VR.bF(h:VR W (.b w) v):v=w:=by dsimp only[VR]at h;exact h
theorem VR.bD(h:VR W (.tup Vs) v):∃ Z,v=.tup Z/\bZ W Vs Z:=by dsimp only[VR]at h;exact h
theorem VR.cK(h:VR W (.list Vs) v):∃ n Z,v=.ref n/\W n=f (.list Z)/\bZ W Vs Z:=by dsimp only[VR]at h;exact h
theorem VR.gN(h:VR W (.dict bJ) v):∃ n,v=.ref n/\W n=f (.dict bJ):=by dsimp only[VR]at h;exact h
theorem VR.tup(h:bZ W Vs Z):VR W (.tup Vs) (.tup Z):=by exact aK Z X h
theorem VR.list(e:W n=f (.list Z))(h:bZ W Vs Z):VR W (.list Vs) (.ref n):=by exact fI n Z X e h
theorem VR.dict(e:W n=f (.dict bJ)):VR W (.dict bJ) (.ref n):=by exact aK n X e
theorem bZ.nil:bZ W [] []:=by dsimp only[bZ]
theorem bZ.nil_inv(h:bZ W [] Z):Z=[]:=by dsimp only[bZ]at h;exact h
theorem bZ.cons(a:VR W iv x)(b:bZ W Vs Z):bZ W (iv::Vs) (x::Z):=by exact fI x Z X a b
theorem bZ.cons_inv(h:bZ W (iv::Vs) Z):∃ x r,Z=x::r/\VR W iv x/\bZ W Vs r:=by dsimp only[bZ]at h;exact h
theorem bZ.length:∀{Vs:aC} {Z:al},bZ W Vs Z->Z.length=Vs.length:=by intro w';cases w' with|nil=>intro O h;exact J h.nil_inv X|cons iv Vs=>intro O h;(refine aW (h.cons_inv) λx r aL O q=>?_;clear h;subst aL);simp[q.length]
theorem bZ.append:∀{Vs Us:aC} {Z ys:al},bZ W Vs Z->bZ W Us ys->bZ W (Vs++Us) (Z++ys):=by intro w';cases w' with|nil=>intro O O O h q;exact J h.nil_inv q|cons iv Vs=>intro O O O h q;(refine aW (h.cons_inv) λx r aL a s=>?_;clear h;subst aL);exact bZ.cons a (s.append q)
theorem bZ.bs:∀(Z:al),bZ W (Z.map .b) Z:=λw'=>by induction w' with|nil=>exact bZ.nil|cons x Z ih=>exact bZ.cons (VR.b x) (ih)
theorem bZ.get:∀{Vs:aC} {Z:al},bZ W Vs Z->∀{i:a_} {iv:PV},Vs[i]?=f iv->∃ x,Z[i]?=f x/\VR W iv x:=by intro w';cases w' with|nil=>intro O O i iv e;exact nS e|cons iv Vs=>intro O h i U e;refine aW (h.cons_inv) λx r aL a s=>?_;clear h;subst aL;cases i with|zero=>simp at e;subst e;exact aK x X a|succ i=>simpa using s.get (i:=i) (iv:=U) (by simpa using e)
theorem bZ.take:∀{Vs:aC} {Z:al},bZ W Vs Z->∀ k,bZ W (Vs.take k) (Z.take k):=by intro w';cases w' with|nil=>intro O h k;refine J h.nil_inv ?_;simpa using bZ.nil|cons iv Vs=>intro O h k;refine aW (h.cons_inv) λx r aL a s=>?_;clear h;subst aL;cases k with|zero=>exact bZ.nil|succ k=>exact bZ.cons a (s.take k)
theorem bZ.drop:∀{Vs:aC} {Z:al},bZ W Vs Z->∀ k,bZ W (Vs.drop k) (Z.drop k):=by intro w';cases w' with|nil=>intro O h k;refine J h.nil_inv ?_;simpa using bZ.nil|cons iv Vs=>intro O h k;have h0:=h;refine aW (h.cons_inv) λx r aL a s=>?_;clear h;subst aL;cases k with|zero=>exact h0|succ k=>exact s.drop k
theorem bZ.reverse:∀{Vs:aC} {Z:al},bZ W Vs Z->bZ W Vs.reverse Z.reverse:=by intro w';cases w' with|nil=>intro O h;exact J h.nil_inv bZ.nil|cons iv Vs=>intro O h;refine aW (h.cons_inv) λx r aL a s=>?_;clear h;subst aL;exact J CW (J CW (s.reverse.append (bZ.cons a bZ.nil)))
theorem bZ.set:∀{Vs:aC} {Z:al},bZ W Vs Z->∀(k:a_) {iv:PV} {v:AV},VR W iv v->bZ W (Vs.set k iv) (Z.set k v):=by intro w';cases w' with|nil=>intro O h k O O O;refine J h.nil_inv ?_;simpa using bZ.nil|cons iv Vs=>intro O h k O O q;refine aW (h.cons_inv) λx r aL a s=>?_;clear h;subst aL;cases k with|zero=>exact bZ.cons q s|succ k=>exact bZ.cons a (s.set k q)
theorem bZ.allB:∀{Vs:aC} {Z ws:al},bZ W Vs Z->allB Vs=f ws->Z=ws:=by intro w';cases w' with|nil=>intro O O h e;refine J h.nil_inv ?_;(dsimp only[Mine.Internal.allB]at e;simpa using e)|cons iv Vs=>intro O ws h e;refine aW (h.cons_inv) λx r aL a s=>?_;subst aL;cases iv with|b w=>(revert e;refine dY (λl hl e=>?_);obtain rfl:=aw e;exact J a.bF (J (s.allB hl) X))|_=>exact nS e
theorem sI:∀{Vs:aC} {ws:al},allB Vs=f ws->bZ W Vs ws:=by intro w';induction w' with|nil=>intro O e;(dsimp only[allB]at e;simp at e);subst e;exact bZ.nil|cons iv Vs ih=>intro ws e;cases iv with|b w=>(revert e;refine dY (λl hl e=>?_);obtain rfl:=aw e;exact bZ.cons (VR.b w) (ih hl))|_=>exact nS e
theorem VR.pack(h:bZ W Vs Z):VR W (ie Vs) (.tup Z):=by dsimp only[ie];cases e:allB Vs with|some ws=>exact J (h.allB e) (VR.b _)|none=>exact VR.tup h
theorem VR.items(h:VR W iv v)(e:ft iv=f Vs):∃ Z,v=.tup Z/\bZ W Vs Z:=by
 dsimp only[ft]at e;revert e;refine MD (λO br e=>?_) (λO br e=>?_);subst br;rotate_left;subst br;rotate_left
 .obtain rfl:=aw e;exact aK _ h.bF (bZ.bs _)
 .obtain rfl:=aw e;exact h.bD
structure Ext(N T':St):Prop where
 wf:WF T'
 le:N.n<=T'.n
 ent:∀ i,i<N.n->T'.ent i=N.ent i
theorem Ext.refl(h:WF N):Ext N N:=⟨h,fB _,λO O=>X⟩
theorem Ext.trans(a:Ext ae aq)(b:Ext aq bo):Ext ae bo:=⟨b.wf,aR a.le b.le,λi hi=>(b.ent i (eA hi a.le)).trans (a.ent i hi)⟩
theorem lz(h:WF N){n:a_}{o:AO}(e:N.get n=f o):n<N.n:=by obtain⟨K',q⟩:=BJ e;exact h.lt q
theorem Ext.get(x:Ext N T')(h:WF N){n:a_}{o:AO}(e:N.get n=f o):T'.get n=f o:=by exact J (dx (x.ent n (lz h e))) e
theorem aF(e:view j' N n=f o):j' n=N'/\N.get n=f o:=by revert e;exact zL nS λq e=>⟨q,e⟩
theorem dw(h:j' n=N')(e:N.get n=f o):view j' N n=f o:=by dsimp only[view];exact J h e
theorem Ext.view(x:Ext N T')(h:WF N)(n:a_)(o:AO)(e:view j' N n=f o):view j' T' n=f o:=by obtain⟨a,b⟩:=aF e;exact dw a (x.get h b)
theorem mX{aj:jS}(h:∀ n,aj n=R->j' n=R)(n:a_)(o:AO)(e:view j' N n=f o):view aj N n=f o:=by obtain⟨a,b⟩:=aF e;refine dw ?_ b;cases q:aj n with|false=>rfl|true=>rw[h n q]at a;exact tF a
theorem IP(h:i≠n):hide n W i=W i:=ak h
theorem KF(n:a_)(h:∀ i o,i≠n->W i=f o->W' i=f o)(i:a_)(o:AO)(e:hide n W i=f o):hide n W' i=f o:=by dsimp only[hide]at e ⊢;revert e;refine C7 nS λq e=>?_;exact J (ak q) (h i o q e)
def Fr(k:a_)(W:Vw)(N:St):PV->AV->Prop|.b O,O'=>f?|.list Vs,z=>∃ n Z,z=.ref n/\k<=n/\N.getM n=f (.list Z)/\bZ (hide n W) Vs Z|.dict bJ,z=>∃ n,z=.ref n/\k<=n/\N.getM n=f (.dict bJ)|O,O'=>False
def tw(j':jS)(N:St):Prop:=∀ n,j' n=R->n<N.n
theorem tw.ext(h:tw j' N)(x:Ext N T'):tw j' T':=λn q=>eA (h n q) x.le
theorem tw.not(h:tw j' N)(q:N.n<=n):j' n=N':=by cases e:j' n with|false=>rfl|true=>exact g_ (h n e) (wo.mpr q)
def Out(j':jS)(N:St)(fr:e_)(iv:PV)(r:jn):Prop:=∃ T' z,r=f (T',z)/\Ext N T'/\VR (view j' T') iv z/\(fr=R->Fr N.n (view j' T') T' iv z)
theorem Fr.low(h:Fr k W N iv z)(q:k'<=k):Fr k' W N iv z:=by cases iv with|b O=>trivial|list Vs=>(obtain⟨n,Z,a,b,c⟩:=h;exact fI n Z a (aR q b) c)|dict bJ=>(obtain⟨n,a,b,c⟩:=h;exact kz n a (aR q b) c)|_=>exact h.elim
theorem Out.after(x:Ext N ae)(h:Out j' ae fr iv r):Out j' N fr iv r:=by obtain⟨T',z,a,b,c,d⟩:=h;exact qJ T' z a (x.trans b) c (λq=>(d q).low x.le)
theorem Out.plain(x:Ext N ae)(h:VR (view j' ae) iv v)(hb:fr=R->Fr N.n (view j' ae) ae iv v):Out j' N fr iv (f (ae,v)):=⟨ae,v,X,x,h,hb⟩
theorem Out.val(x:Ext N ae):Out j' N fr (.b v) (f (ae,v)):=⟨ae,v,X,x,VR.b v,λO=>Z'⟩
theorem Out.weak(h:Out j' N fr iv r)(q:fr'=R->fr=R):Out j' N fr' iv r:=by obtain⟨T',z,a,b,c,d⟩:=h;exact qJ T' z a b c (λe=>d (q e))
theorem Out.jv{Vs:aC}{Z:al}{fr:e_}(x:Ext N ae)(hk:tw j' N)(h:bZ (view j' ae) Vs Z):Out j' N fr (.list Vs) (jj ae (.list Z)):=by
 refine ky (iW x.wf (.list Z)) λT' hp hw hn he=>?_;have B:T'.ent ae.n=f ⟨N',.list Z⟩:=J (he _) (J (ai X) X);have aj:Ext ae T':=⟨hw,by lia,λi hi=>by exact J (he _) (J (ak (by lia)) X)⟩;refine qJ T' (.ref ae.n) (by dsimp only[jj];exact J hp X) (x.trans aj) (VR.list (dw (hk.not x.le) (gU B)) (h.mono (aj.view x.wf))) (λO=>⟨ae.n,Z,X,x.le,iV B,h.mono λn o e=>?_⟩)
 have:=lz x.wf (aF e).2
 exact J (IP (by omega)) (aj.view x.wf n o e)
theorem Out.p6{bJ:c9}{fr:e_}(x:Ext N ae)(hk:tw j' N):Out j' N fr (.dict bJ) (jj ae (.dict bJ)):=by refine ky (iW x.wf (.dict bJ)) λT' hp hw hn he=>?_;have B:T'.ent ae.n=f ⟨N',.dict bJ⟩:=J (he _) (J (ai X) X);have aj:Ext ae T':=⟨hw,by lia,λi hi=>by exact J (he _) (J (ak (by lia)) X)⟩;exact qJ T' (.ref ae.n) (by dsimp only[jj];exact J hp X) (x.trans aj) (VR.dict (dw (hk.not x.le) (gU B))) (λO=>⟨ae.n,X,x.le,iV B⟩)
def Sl(W:Vw)(P:a_->Prop)(M:aC)(C:al):Prop:=M.length<=C.length/\∀ i,P i->VR W (bf M i) (ao C i)
theorem dA:∀(M:aC) (i j:a_) (v:PV),bf (bM M i v) j=if i=j then(if i<M.length then v else .any) else bf M j:=λw'=>by induction w' with|nil=>intro i j v;dsimp only[bM,bf];simp|cons x M ih=>intro z1;cases z1 with|zero=>(intro z2;cases z2 with|zero=>intro v;rfl|succ j=>intro v;rfl)|succ i=>intro z2;cases z2 with|zero=>intro v;rfl|succ j=>intro v;dsimp only[bM,bf];simp[ih i j v]
theorem bk:∀(C:al) (i j:a_) (v:AV),ao (aE C i v) j=if i=j then(if i<C.length then v else .ub) else ao C j:=λw'=>by induction w' with|nil=>intro i j v;dsimp only[aE,ao];simp|cons x C ih=>intro z1;cases z1 with|zero=>(intro z2;cases z2 with|zero=>intro v;rfl|succ j=>intro v;rfl)|succ i=>intro z2;cases z2 with|zero=>intro v;rfl|succ j=>intro v;dsimp only[aE,ao];simp[ih i j v]
theorem mY:∀(M:aC) (i:a_) (v:PV),(bM M i v).length=M.length:=λw'=>by induction w' with|nil=>intro O O;exact X|cons O M ih=>intro z1;cases z1 with|zero=>intro O;exact X|succ i=>intro v;dsimp only[bM];simp[ih i v]
theorem o9:∀(C:al) (i:a_) (v:AV),(aE C i v).length=C.length:=λw'=>by induction w' with|nil=>intro O O;exact X|cons O C ih=>intro z1;cases z1 with|zero=>intro O;exact X|succ i=>intro v;dsimp only[aE];simp[ih i v]
theorem Sl.mono{P:a_->Prop}(s:Sl W P M C)(h:∀ n o,W n=f o->W' n=f o):Sl W' P M C:=⟨s.1,λi hi=>(s.2 i hi).mono h⟩
theorem Sl.sub{P P':a_->Prop}(s:Sl W P M C)(h:∀ i,P' i->P i):Sl W P' M C:=⟨s.1,λi hi=>s.2 i (h i hi)⟩
theorem Sl.set{P:a_->Prop}(s:Sl W P M C)(h:VR W iv v)(i:a_):Sl W P (bM M i iv) (aE C i v):=by
 refine⟨by refine J (mY _ _ _) (J (o9 _ _ _) ?_);exact s.1,λj hj=>?_⟩;refine J (dA _ _ _ _) (J (bk _ _ _ _) ?_);split
 .rename_i e
  split
  .rename_i q
   refine J (ai (eA q s.1)) ?_;exact h
  .exact VR.any
 .exact s.2 j hj
theorem Sl.bindL{P:a_->Prop}:∀{is:cf} {Vs M eT:aC} {Z C:al},Sl W P M C->bZ W Vs Z->eh is Vs M=f eT->∃ bh,bindL is Z C=f bh/\Sl W P eT bh:=by intro w';cases w' with|nil=>(intro z1;cases z1 with|nil=>intro O O Z C s h e;refine J h.nil_inv ?_;dsimp only[eh]at e;rw[dN]at e;subst e;exact aK C X s|cons O O=>intro O O O O s h e;exact nS e)|cons i is=>intro z1;cases z1 with|nil=>intro O O O O s h e;exact nS e|cons iv Vs=>intro M eT Z C s h e;refine aW (h.cons_inv) λx r aL a q=>?_;clear h;subst aL;dsimp only[eh]at e;exact(s.set a i).bindL q e
theorem xA(e:cS is iv M=f eT):(∃ i,is=[i]/\eT=bM M i iv)\/∃ Vs,ft iv=f Vs/\eh is Vs M=f eT/\∀ Z C,dr is (.tup Z) C=bindL is Z C:=by
 rcases is with _|⟨i,_|⟨j,is⟩⟩
 .revert e;exact de (λVs hi e=>.inr ⟨Vs,hi,e,λO O=>X⟩)
 .exact .inl ⟨i,X,(aw e).symm⟩
 .revert e;exact de (λVs hi e=>.inr ⟨Vs,hi,e,λO O=>X⟩)
theorem Sl.dr{P:a_->Prop}(s:Sl W P M C)(h:VR W iv v)(e:cS is iv M=f eT):∃ bh,dr is v C=f bh/\Sl W P eT bh:=by
 refine C1 λGq kq=>?_;rcases xA e with ⟨i,rfl,rfl⟩|⟨Vs,hi,e,hb⟩
 .exact kq _ X (s.set h _)
 .refine ah (h.items hi) λZ bK q=>?_;clear h;subst bK;exact ah (s.bindL q e) λbh Y L=>kq bh ((hb _ _).trans Y) L
theorem Sl.clear{P:a_->Prop}(s:Sl W P M C):∀(is:cf),Sl W P (Gi is M) (dS is C):=λw'=>by cases w' with|nil=>exact s|cons i is=>exact(s.clear is).set VR.any i
def BK(j':jS)(N:St)(lk:af a_):Prop:=∀ n,lk=f n->j' n=N'/\∃ e,N.ent n=f e
theorem IQ{lk:af a_}(h:WF N)(hl:BK j' N lk):∃ ae,lR N lk=f ae/\WF ae/\ae.n=N.n/\(∀ i,ae.get i=N.get i)/\(∀ i,lk≠f i->ae.ent i=N.ent i)/\∀ n,lk=f n->∃ e,N.ent n=f e/\ae.ent n=f ⟨R,e.obj⟩:=by cases lk with|none=>(exact Mv N X h X (λO=>X) (λO O=>X) (λn e=>by cases e))|some n=>
  obtain⟨_,e,he⟩:=hl n X;refine ky (sH h (h.lt he) ⟨R,e.obj⟩) λae Y L h3 h4=>?_;have hs:N.t.get n=f e:=he;refine⟨ae,by(dsimp only[lR];(dsimp only[St.kE];refine J hs ?_));exact Y,L,h3,λi=>?_,λi q=>by rw[h4,ak];rintro rfl;exact q X,λm q=>?_⟩
  .by_cases q:i=n
   .clear hl Y hs;subst q;exact J (gU he) (J (gU (e:=⟨R,e.obj⟩) (by exact J (h4 _) (J (ai X) X))) X)
   .exact dx (by exact J (h4 _) (J (ak q) X))
  .obtain rfl:=aw q;exact aK e he (by exact J (h4 _) (J (ai X) X))
theorem Ai{lk:af a_}(h:WF N)(hl:BK j' N lk)(L:WF aq)(hn:N.n<=aq.n)(he:∀ n,lk=f n->∃ e,N.ent n=f e/\aq.ent n=f ⟨R,e.obj⟩) :
  ∃ bo,iK aq (rZ N lk) lk=f bo/\WF bo/\bo.n=aq.n/\(∀ i,bo.get i=aq.get i)/\(∀ i,lk≠f i->bo.ent i=aq.ent i)/\∀ n,lk=f n->bo.ent n=N.ent n:=by
 cases lk with|none=>(exact Mv aq X L X (λO=>X) (λO O=>X) (λn e=>by cases e))|some n=>
  refine ah (he n X) λe h3 h4=>?_;have hs:aq.t.get n=f ⟨R,e.obj⟩:=h4;have hf:N.flag n=e.locked:=by have:N.t.get n=f e:=h3;unfold St.flag;exact J this X
  refine ky (sH L (L.lt h4) e) λbo h5 h6 h7 h8=>?_;refine Mv bo (by(dsimp only[iK,rZ,St.kE];refine J hs (J hf ?_));exact h5) h6 h7 (λi=>?_) (λi q=>by rw[h8,ak];rintro rfl;exact q X) (λm q=>?_)
  .by_cases q:i=n
   .clear hl he h3 hs hf h5;subst q;exact J (gU (e:=e) (by exact J (h8 _) (J (ai X) X))) (J (gU h4) X)
   .exact dx (by exact J (h8 _) (J (ak q) X))
  .obtain rfl:=aw q;exact J (h8 _) (J (ai X) (J h3 X))
theorem cW(h:∀ i,T'.get i=N.get i):view j' T'=view j' N:=by funext n;dsimp only[view];exact J (h _) X
theorem bZ.enum:∀{Vs:aC} {Z:al} (i:a_),bZ W Vs Z->bZ W (fy i Vs) (qG i Z):=by intro w';cases w' with|nil=>intro O i h;exact J h.nil_inv bZ.nil|cons iv Vs=>intro O i h;refine aW (h.cons_inv) λx r aL a s=>?_;clear h;subst aL;exact bZ.cons (VR.pack (bZ.cons (VR.b _) (bZ.cons a bZ.nil))) (s.enum (i+1))
theorem IS{ik:tA}{iv:PV}{v:AV}{Vs:aC}(h:VR (view j' N) iv v)(e:D3 ik iv=f Vs):∃ Z lk,jc N ik v=f (Z,lk)/\bZ (view j' N) Vs Z/\BK j' N lk:=by
 have RJ:BK j' N .none:=λn q=>by exact nS q
 have vZ:∀{n:a_} {o:AO},view j' N n=f o->BK j' N (f n):=λq m e=>by obtain rfl:=aw e;exact⟨(aF q).1,cz (BJ (aF q).2) λK' hf=>⟨_,hf⟩⟩
 cases ik with
 |plain=>cases iv with
  |b iv=>cases iv with|tup ws=>(obtain rfl:=aw e;exact J h.bF (fI _ _ X (bZ.bs _) RJ))|_=>exact nS e
  |tup Ws=>obtain rfl:=aw e;((refine ah (h.bD) λZ bK q=>?_;clear h;subst bK));exact fI _ _ X q RJ
  |list Ws=>obtain rfl:=aw e;(refine aW (h.cK) λn Z aL q s=>?_;clear h;subst aL);exact fI Z (f n) (by(dsimp only[jc];exact J ((aF q).2) X)) s (vZ q)
  |dict bJ=>
   obtain rfl:=aw e;refine ah (h.gN) λn bK q=>?_;clear h;subst bK;refine fI (bJ.map λp=>iH p.1) (f n) (by(dsimp only[jc];exact J ((aF q).2) X)) ?_ (vZ q)
   have:=bZ.bs (W:=view j' N) (bJ.map λp=>iH p.1)
   rwa [fE]at this
  |any=>exact nS e
 |range=>cases iv with|b iv=>(cases iv with|int n=>(revert e;refine aZ (λq e=>?_) nS;obtain rfl:=aw e;refine J h.bF ?_;(exact fI _ _ (by dsimp only[jc];exact J (ai q) X) (bZ.bs _) RJ))|_=>exact nS e)|_=>exact nS e
 |enum=>cases iv with|b iv=>(cases iv with|tup ws=>(obtain rfl:=aw e;exact J h.bF (fI _ _ X ((bZ.bs _).enum 0) RJ))|_=>exact nS e)|list Ws=>(obtain rfl:=aw e;(refine aW (h.cK) λn Z aL q s=>?_;clear h;subst aL);exact fI _ (f n) (by(dsimp only[jc];exact J ((aF q).2) X)) (s.enum 0) (vZ q))|_=>exact nS e
 |rev=>cases iv with|list Ws=>(obtain rfl:=aw e;(refine aW (h.cK) λn Z aL q s=>?_;clear h;subst aL);exact fI _ (f n) (by(dsimp only[jc];exact J ((aF q).2) X)) s.reverse (vZ q))|_=>exact nS e
theorem D7{α:Type}{lk:af a_}{K':St->af (St × α)}{xs:St->α->Prop}(h:WF N)(hl:BK j' N lk)(hZ:∀ ae aq a,(∀ i,aq.get i=ae.get i)->(∀ i,N.n<=i->aq.ent i=ae.ent i)->xs ae a->xs aq a)(hf:∀ ae,WF ae->ae.n=N.n->(∀ i,ae.get i=N.get i)->∃ aq a,K' ae=f (aq,a)/\Ext ae aq/\xs aq a):∃ bo a,j6 N lk K'=f (bo,a)/\Ext N bo/\xs bo a:=by
 refine C3 λGq kq=>Mk (IQ h hl) λae Y L h3 h4 h5 h6=>aW (hf ae L h3 h4) λaq a h7 h8 h9=>?_;obtain⟨bo,k1,k2,k3,k4,k5,k6⟩:=Ai h hl h8.wf (by refine dR h3 ?_;exact h8.le) λn q=>by refine ah (h6 n q) λe e1 e2=>?_;(exact aK e e1 (by refine J (h8.ent n (L.lt e2)) ?_;exact e2))
 refine kq bo a (by(dsimp only[j6];refine J Y ?_;try dsimp only;refine J h7 ?_;try dsimp only;exact J k1 X)) ⟨k2,by refine J k3 (dR h3 ?_);exact h8.le,λi hi=>?_⟩ (hZ _ _ _ k4 (λi hi=>k5 i λq=>?_) h9)
 .by_cases q:lk=f i
  .exact k6 i q
  ·((exact J (k5 i q) (J (h8.ent i (by refine J h3 ?_;exact hi)) (J (h5 i q) X))))
 .obtain⟨_,e,he⟩:=hl i q
  have:=h.lt he
  lia
theorem BL{α:Type}{lk:af a_}{K':St->af (St × α)}{xs:St->α->Prop}(h:WF N)(hl:BK j' N lk)(hZ:∀ ae aq a,(∀ i,aq.get i=ae.get i)->xs ae a->xs aq a)(hf:∀ ae,WF ae->ae.n=N.n->(∀ i,ae.get i=N.get i)->∃ aq a,K' ae=f (aq,a)/\Ext ae aq/\xs aq a):∃ bo a,j6 N lk K'=f (bo,a)/\Ext N bo/\xs bo a:=
 D7 h hl (λa b c q O r=>hZ a b c q r) hf
end
section
variable{W:Vw}{j':jS}{N T' ae aq bo:St}
theorem N9(h:Ext N ae)(hk:tw j' N)(rx:VR (view j' ae) aj x)(ry:VR (view j' ae) h1 y)(e:N7 o aj h1=f iv):Out j' N R iv (ot ae o x y):=by
 cases aj with
 |b aj=>cases aj with|int p=>(cases h1 with|b h1=>(cases h1 with|int q=>(revert e;refine gP (λz hz e=>?_);obtain rfl:=aw e;refine J rx.bF (J ry.bF ?_);(dsimp only[ot];refine J hz ?_;try dsimp only);exact Out.val h)|_=>exact nS e)|_=>exact nS e)|_=>exact nS e
 |list Xs=>cases h1 with
  |list Ys=>cases o with|add=>(revert e;refine aZ (λq e=>?_) nS;obtain rfl:=aw e;refine aW (rx.cK) λn Z aL q1 s1=>?_;clear rx;subst aL;refine aW (ry.cK) λm ys aL q2 s2=>?_;clear ry;subst aL;(dsimp only[ot];refine J ((aF q1).2) (J ((aF q2).2) ?_);try dsimp only);refine J (ai (show Z.length<=lim/\ys.length<=lim by rw[s1.length,s2.length];exact q)) ?_;exact Out.jv h hk (s1.append s2))|_=>exact nS e
  |b h1=>cases h1 with
   |int k=>cases o with
    |mul=>
     rcases Xs with _|⟨_|(_|_|_|v|_|_|_|_)|_|_|_,_|⟨_,_⟩⟩<;>first|exact nS e|skip
     revert e;refine aZ (λq e=>?_) nS;obtain rfl:=aw e;refine aW (rx.cK) λn Z aL q1 s1=>?_;clear rx;subst aL;refine aW (s1.cons_inv) λx r aL a s=>?_;clear s1;subst aL;rw[a.bF,s.nil_inv]at q1;refine J ry.bF ?_;(dsimp only[ot];refine J ((aF q1).2) ?_;try dsimp only);refine J (ai q) ?_
     have:=bZ.bs (W:=view j' ae) (k_ k.toNat (.int v))
     rw[List.map_replicate]at this;exact Out.jv h hk this
    |_=>exact nS e
   |_=>exact nS e
  |_=>exact nS e
 |_=>exact nS e
theorem bZ.empty(h:bZ W Vs Z):Z.isEmpty=Vs.isEmpty:=by cases Vs with|nil=>exact J h.nil_inv X|cons iv Vs=>(refine eD (h.cons_inv) λx r aL O=>?_;clear h;subst aL);rfl
theorem tW(e:fw ⟨0,.nil⟩ o x y=f r):fw N o x y=f r:=by cases x with|ref n=>(cases y with|ref m=>exact nS e|_=>exact e)|_=>first|exact e|(cases y<;>exact e)
theorem Oa(rx:VR (view j' N) aj x)(ry:VR (view j' N) h1 y)(e:nL o aj h1=f r):fw N o x y=f r:=by
 dsimp only[nL]at e;revert e;refine Vb (λO O br bK e=>?_) (λXs Ys br bK e=>?_);subst br;subst bK;rotate_left;subst br;subst bK;rotate_left
 ·(refine J rx.bF (J ry.bF ?_));exact tW e
 .refine aW (rx.cK) λn Z aL q1 s1=>?_;clear rx;subst aL;refine aW (ry.cK) λm ys aL q2 s2=>?_;clear ry;subst aL;have l1:Z.isEmpty=Xs.isEmpty:=s1.empty;have l2:ys.isEmpty=Ys.isEmpty:=s2.empty;dsimp only[fw];(simp -iota only [(aF q1).2,(aF q2).2,l1,l2];dsimp only[(aF q1).2,(aF q2).2,l1,l2];simp -iota only [(aF q1).2,(aF q2).2,l1,l2]);exact e
theorem RK(rx:VR (view j' N) aj x)(rc:VR (view j' N) sl c)(e:WG aj sl=f r):Ft N x c=f r:=by
 dsimp only[WG]at e;revert e;refine Fv (λO br e=>?_);subst br;refine J rx.bF ?_;revert e;refine MF (λO br e=>?_) (λO br e=>?_) (λO br e=>?_);subst br;rotate_left;subst br;rotate_left;subst br;rotate_left
 .exact J rc.bF e
 .revert e;refine dY (λws hw e=>?_);refine aW (rc.cK) λn Z aL q s=>?_;clear rc;subst aL;rw[s.allB hw]at q;(dsimp only[Ft];refine J ((aF q).2) ?_);exact e
 .refine ah (rc.gN) λn bK q=>?_;clear rc;subst bK;(dsimp only[Ft];refine J ((aF q).2) ?_);exact e
theorem aan:∀(Z:al) (i:G),Mt Z i=yz Z i:=λZ i=>by cases i<;>rfl
theorem bZ.yz(h:bZ W Vs Z)(e:yz Vs i=f iv):∃ x,Mt Z i=f x/\VR W iv x:=by cases i with|ofNat n=>exact h.get e|negSucc n=>revert e;refine aZ (λq e=>?_) nS;refine ah (h.get e) λx Y L=>aK x ?_ L;dsimp only[Mt];(refine J (ai (by rw[h.length];exact q)) (J h.length ?_));exact Y
theorem D8(rx:VR (view j' N) aj x)(ri:VR (view j' N) I i)(e:ml aj I=f iv):∃ z,ib N x i=f z/\VR (view j' N) iv z:=by
 unfold ml at e;revert e;refine Va (λO O br bK e=>?_) (λO O br bK e=>?_) (λO O br bK e=>?_) (λO O br bK e=>?_);subst br;subst bK;rotate_left;subst br;subst bK;rotate_left;subst br;subst bK;rotate_left;subst br;subst bK;rotate_left
 .revert e;refine aZ (λq=>?_) nS;refine AS (λv hv e=>?_);obtain rfl:=aw e;(refine J rx.bF ?_;refine J ri.bF ?_);exact⟨v,by dsimp only[ib];refine J (ai q) (J (aan _ _) ?_);exact hv,VR.b v⟩
 .revert e;refine aZ (λq e=>?_) nS;((refine ah (rx.bD) λZ bK s=>?_;clear rx;subst bK));refine J ri.bF (ah (s.yz e) λz Y L=>?_);(exact aK z (by dsimp only[ib];(refine J (ai (by rw[s.length];exact q)) ?_);exact Y) L)
 .revert e;refine aZ (λq e=>?_) nS;(refine aW (rx.cK) λn Z aL q1 s=>?_;clear rx;subst aL);refine J ri.bF (ah (s.yz e) λz Y L=>?_);(exact aK z (by(dsimp only[ib];refine J ((aF q1).2) ?_;try dsimp only);(refine J (ai (by rw[s.length];exact q)) ?_);exact Y) L)
 .revert e;refine fx (λk hk=>AS (λv hv e=>?_));obtain rfl:=aw e;((refine ah (rx.gN) λn bK q=>?_;clear rx;subst bK));refine J ri.bF ?_;(exact aK v (by(dsimp only[ib];refine J ((aF q).2) ?_;refine J hk ?_;try dsimp only);exact hv) (VR.b v))
theorem nN(r:VR (view j' N) iv v)(e:nM iv=f Z):jI N v=f Z:=by
 dsimp only[nM]at e;revert e;refine MF (λO br e=>?_) (λO br e=>?_) (λO br e=>?_);subst br;rotate_left;subst br;rotate_left;subst br;rotate_left
 .obtain rfl:=aw e;exact J r.bF X
 .refine aW (r.cK) λn ys aL q s=>?_;clear r;subst aL;dsimp only[jI];(exact J ((aF q).2) (J (s.allB e) X))
 .obtain rfl:=aw e;refine ah (r.gN) λn bK q=>?_;clear r;subst bK;dsimp only[jI];exact J ((aF q).2) X
theorem bZ.gi(h:bZ W [iv] Z):∃ x,Z=[x]/\VR W iv x:=by refine aW (h.cons_inv) λx r aL a s=>?_;clear h;subst aL;exact J s.nil_inv (aK x X a)
theorem bZ.v5(h:bZ W [iv,U] Z):∃ x y,Z=[x,y]/\VR W iv x/\VR W U y:=by refine aW (h.cons_inv) λx r aL a s=>?_;subst aL;refine ah (s.gi) λy bK b=>?_;clear s h;subst bK;exact fI x y X a b
theorem RL(h:Ext N ae)(hk:tw j' N)(r:bZ (view j' ae) Vs Z)(e:tu k Vs=f iv):Out j' N (WJ k) iv (jd ae k Z):=by
 cases k with
 |abs=>dsimp only[tu]at e;revert e;refine ME (λO br e=>?_);subst br;refine ah (r.gi) λx bK a=>?_;clear r;subst bK;obtain rfl:=aw e;exact J a.bF (Out.val h)
 |int=>dsimp only[tu]at e;revert e;refine ME (λO br e=>?_);subst br;refine ah (r.gi) λx bK a=>?_;clear r;subst bK;obtain rfl:=aw e;exact J a.bF (Out.val h)
 |len=>
  dsimp only[tu]at e;revert e;refine U7 (λO br e=>?_) (λO br e=>?_) (λO br e=>?_);subst br;rotate_left;subst br;rotate_left;subst br;rotate_left
  .revert e;refine aZ (λq e=>?_) nS;refine ah (r.gi) λx bK a=>?_;clear r;subst bK;obtain rfl:=aw e;refine J a.bF ?_;dsimp only[jd];exact J (ai q) (Out.val h)
  .revert e;refine aZ (λq e=>?_) nS;refine ah (r.gi) λx bK a=>?_;subst bK;refine aW (a.cK) λn ys aL q1 s=>?_;clear a r;subst aL;obtain rfl:=aw e;(dsimp only[jd];refine J ((aF q1).2) ?_;try dsimp only);(refine J (ai (by rw[s.length];exact q)) (J s.length ?_));exact Out.val h
  .revert e;refine aZ (λq e=>?_) nS;refine ah (r.gi) λx bK a=>?_;subst bK;refine ah (a.gN) λn bK q1=>?_;clear a r;subst bK;obtain rfl:=aw e;(dsimp only[jd];refine J ((aF q1).2) ?_;try dsimp only);exact J (ai q) (Out.val h)
 |list=>dsimp only[tu]at e;revert e;refine MH (λO br=>?_);subst br;refine aZ (λq e=>?_) nS;refine ah (r.gi) λx bK a=>?_;subst bK;refine aW (a.cK) λn ys aL q1 s=>?_;clear a r;subst aL;obtain rfl:=aw e;(dsimp only[jd];refine J ((aF q1).2) ?_;try dsimp only);(refine J (ai (by rw[s.length];exact q)) ?_);exact Out.jv h hk s
 |tuple=>dsimp only[tu]at e;revert e;refine MH (λO br=>?_);subst br;refine aZ (λq e=>?_) nS;refine ah (r.gi) λx bK a=>?_;subst bK;refine aW (a.cK) λn ys aL q1 s=>?_;clear a r;subst aL;obtain rfl:=aw e;(dsimp only[jd];refine J ((aF q1).2) ?_;try dsimp only);(refine J (ai (by rw[s.length];exact q)) ?_);exact Out.plain h (VR.pack s) (λe=>by exact fT e)
 |dict=>dsimp only[tu]at e;revert e;refine U8 (λO br=>?_);subst br;refine aZ (λq e=>?_) nS;refine ah (r.gi) λx bK a=>?_;subst bK;refine ah (a.gN) λn bK q1=>?_;clear a r;subst bK;obtain rfl:=aw e;(dsimp only[jd];refine J ((aF q1).2) ?_;try dsimp only);exact J (ai q) (Out.p6 h hk)
 |sum=>dsimp only[tu]at e;revert e;refine AN (λO br=>?_);subst br;refine dY (λO hi=>gP (λz hz e=>?_));refine ah (r.gi) λx bK a=>?_;clear r;subst bK;obtain rfl:=aw e;(dsimp only[jd];refine J (nN a hi) ?_;try dsimp only;refine J hz ?_;try dsimp only);exact Out.val h
 |yC=>dsimp only[tu]at e;revert e;refine AN (λO br=>?_);subst br;refine TB (λO O hi=>gP (λz hz e=>?_));refine ah (r.gi) λx bK a=>?_;clear r;subst bK;obtain rfl:=aw e;(dsimp only[jd];refine J (nN a hi) ?_;try dsimp only;refine J hz ?_;try dsimp only);exact Out.val h
 |max2=>dsimp only[tu]at e;revert e;refine MG (λO O br e=>?_);subst br;refine aW (r.v5) λx y aL a b=>?_;clear r;subst aL;obtain rfl:=aw e;(refine J a.bF (J b.bF ?_));exact Out.val h
 |min2=>dsimp only[tu]at e;revert e;refine MG (λO O br e=>?_);subst br;refine aW (r.v5) λx y aL a b=>?_;clear r;subst aL;obtain rfl:=aw e;(refine J a.bF (J b.bF ?_));exact Out.val h
 |any=>dsimp only[tu]at e;revert e;refine AN (λO br=>?_);subst br;refine dY (λO hi=>r8 (λz hz e=>?_));refine ah (r.gi) λx bK a=>?_;clear r;subst bK;obtain rfl:=aw e;(dsimp only[jd];refine J (nN a hi) ?_;try dsimp only;refine J hz ?_;try dsimp only);exact Out.val h
 |all=>dsimp only[tu]at e;revert e;refine AN (λO br=>?_);subst br;refine dY (λO hi=>r8 (λz hz e=>?_));refine ah (r.gi) λx bK a=>?_;clear r;subst bK;obtain rfl:=aw e;(dsimp only[jd];refine J (nN a hi) ?_;try dsimp only;refine J hz ?_;try dsimp only);exact Out.val h
theorem KG(h:Ext N ae)(hk:tw j' N)(rx:VR (view j' ae) aj x)(rk:VR (view j' ae) K k)(e:Ad aj K=f iv):Out j' N R iv (tC ae x k):=by
 unfold Ad at e;revert e;refine Vc (λO O br bK e=>?_) (λO O br bK e=>?_);subst br;subst bK;rotate_left;subst br;subst bK;rotate_left
 .revert e;refine aZ (λq e=>?_) nS;obtain rfl:=aw e;(refine J rx.bF (J rk.bF ?_));dsimp only[tC];exact J (ai q) (Out.val h)
 .revert e;refine aZ (λq e=>?_) nS;obtain rfl:=aw e;refine aW (rx.cK) λn ys aL q1 s=>?_;clear rx;subst aL;refine J rk.bF ?_;(dsimp only[tC];refine J ((aF q1).2) ?_;try dsimp only);(refine J (ai (by rw[s.length];exact q)) ?_);exact Out.jv h hk (s.take _)
theorem D9(h:Ext N ae)(hk:tw j' N)(rx:VR (view j' ae) aj x)(rk:VR (view j' ae) K k)(e:sF aj K=f iv):Out j' N R iv (oJ ae x k):=by unfold sF at e;revert e;refine U9 (λO O br bK=>?_);subst br;subst bK;refine aZ (λq e=>?_) nS;obtain rfl:=aw e;refine aW (rx.cK) λn ys aL q1 s=>?_;clear rx;subst aL;refine J rk.bF ?_;(dsimp only[oJ];refine J ((aF q1).2) ?_;try dsimp only);(refine J (ai (by rw[s.length];exact q)) ?_);exact Out.jv h hk (s.drop _)
theorem Ea(h:VR W iv v)(e:dO iv=f r):v.isNone=r:=by cases iv with|any=>exact nS e|b w=>refine J h.bF ?_;(dsimp only[dO]at e;simpa using e)|tup Vs=>(refine ah (h.bD) λZ aL O=>?_;clear h;subst aL);(dsimp only[dO]at e;simp at e);subst e;rfl|list Vs=>(refine eD (h.cK) λn Z aL O=>?_;clear h;subst aL);(dsimp only[dO]at e;simp at e);subst e;rfl|dict bJ=>(refine ah (h.gN) λn aL O=>?_;clear h;subst aL);(dsimp only[dO]at e;simp at e);subst e;rfl
end
def OB(W:Vw)(iv:PV)(o:AO):Prop:=match iv with|.list Vs=>∃ Z,o=.list Z/\bZ W Vs Z|.dict bJ=>o=.dict bJ|_=>False
def Gl(F:Fn)(P:gy):Prop:=∀(N:St) (j':jS) (as:al) (Vs:aC) (iv:PV),WF N->tw j' N->bZ (view j' N) Vs as->P.fn Vs=f iv->Out j' N P.fr iv (F N as)
abbrev MO(r:jn)(j':jS)(n:a_)(V':PV)(N:St):Prop:=∃ T' o',r=f (T',.none)/\WF T'/\N.n<=T'.n/\T'.getM n=f o'/\OB (view j' T') V' o'/\∀ i,i<N.n->i≠n->T'.ent i=N.ent i
def WL(F:Fn)(P:gy):Prop:=∀(N:St) (j':jS) (n:a_) (o:AO) (as:al) (iv V':PV) (Vs:aC),WF N->tw j' N->j' n=R->N.getM n=f o->OB (view j' N) iv o->bZ (view j' N) Vs as->P.fn (iv::Vs)=f V' ->
 MO (F N (.ref n::as)) j' n V' N
def KC(F:Fn)(P:gy):Prop:=match P.mu with|R=>WL F P|N'=>Gl F P
section
variable{W:Vw}{j':jS}{N T' c7 ae aq bo:St}{C:al}{M:aC}
abbrev Qe(c:CE):Prop:=∀(N:St) (j':jS) (C:al) (M:aC) (iv:PV),WF N->tw j' N->Sl (view j' N) (λi=>eL i c=R) M C->ax c M=f iv->Out j' N (fresh c) iv (ev c N C)
def PS(c:CE):Prop:=bO KC c->Qe c
theorem vh(pa:Qe a)(pb:Qe b)(h:WF N)(hk:tw j' N)(s:Sl (view j' N) (λi=>(eL i a||eL i b)=R) M C)(ea:ax a M=f A)(eb:ax b M=f ha) :
  ∃ ae aq x y,ev a N C=f (ae,x)/\ev b ae C=f (aq,y)/\Ext N aq/\VR (view j' aq) A x/\VR (view j' aq) ha y:=by
 refine bA (pa N j' C M A h hk (s.sub λi q=>by simp[q]) ea) λae x e1 x1 r1 O=>?_;refine bA (pb ae j' C M ha x1.wf (hk.ext x1) ((s.mono (x1.view h)).sub λi q=>by simp[q]) eb) λaq y e2 x2 r2 O=>?_;exact YQ ae aq x y e1 e2 (x1.trans x2) (r1.mono (x2.view x1.wf)) r2
theorem e_k(v:AV):PS (.k v):=λO N j' C M iv h hk s e=>by dsimp only[ax]at e;rw[dN]at e;subst e;exact Out.val (Ext.refl h)
theorem WM(x:U?)(v:AV):PS (.glob x v):=λO N j' C M iv h hk s e=>by dsimp only[ax]at e;rw[dN]at e;subst e;exact Out.val (Ext.refl h)
theorem vv{x iv:PV}(e:(match x with|.any=>V|.b .ub=>V|v=>f v)=f iv):x=iv/\x≠.any/\x≠.b .ub:=by cases x with|any=>exact nS e|b w=>(cases w<;>first|exact nS e|exact⟨aw e,nofun,nofun⟩)|_=>exact⟨aw e,nofun,nofun⟩
theorem RM(Y:bf M i≠.any)(L:bf M i≠.b .ub):ax (.var i) M=f (bf M i):=by show(match bf M i with|.any=>V|.b .ub=>V|v=>f v)=_;cases h:bf M i with|any=>exact g_ h Y|b w=>(cases w<;>first|rfl|exact g_ h L)|_=>rfl
theorem WN(h:ao C i≠.ub):ev (.var i) N C=f (N,ao C i):=by show(match ao C i with|.ub=>V|v=>f (N,v))=_;cases hx:ao C i<;>first|rfl|exact g_ hx h
theorem aao(i:a_):PS (.var i):=λO N j' C M iv h hk s e=>by
 have hr:=s.2 i (by(dsimp only[eL];simp));refine dF (vv e) λaL n1 n2=>?_;clear e;subst aL;have nu:ao C i≠.ub:=λq=>by rw[q]at hr;cases hv:bf M i with|any=>exact n1 hv|b w=>rw[hv]at hr;have:=hr.bF;clear hr;subst this;exact n2 hv|tup O=>(rw[hv]at hr;(refine ah (hr.bD) λO q O=>?_);cases q)|list O=>(rw[hv]at hr;(refine eD (hr.cK) λO O q O=>?_);cases q)|dict O=>rw[hv]at hr;(refine ah (hr.gN) λO q O=>?_);cases q
 refine J (WN nu) ?_;exact Out.plain (Ext.refl h) hr λq=>by exact fT q
theorem aap(B:PS a)(hb:PS b):PS (.bin o a b):=λK N j' C M iv h hk s e=>by revert e;refine ca (λA ea=>ca (λha eb e=>rX (vh (B K.1) (hb K.2) h hk s ea eb) λae aq x y e1 e2 x2 r1 r2=>?_));(dsimp only[ev];(refine J e1 ?_;try dsimp only;refine J e2 ?_;try dsimp only));exact N9 x2 hk r1 r2 e
theorem aaq(B:PS a):PS (.neg a):=λK N j' C M iv h hk s e=>by revert e;refine AP (λi ea e=>?_);obtain rfl:=aw e;refine bA (B K N j' C M _ h hk s ea) λae x e1 x1 r1 O=>?_;rw[r1.bF]at e1;dsimp only[ev];refine J e1 ?_;exact Out.val x1
theorem aar(B:PS a):PS (.not a):=λK N j' C M iv h hk s e=>by revert e;refine Ve (λi ea e=>?_);obtain rfl:=aw e;refine bA (B K N j' C M _ h hk s ea) λae x e1 x1 r1 O=>?_;rw[r1.bF]at e1;dsimp only[ev];refine J e1 ?_;exact Out.val x1
theorem aas(B:PS a)(hb:PS b):PS (.cmp o a b):=λK N j' C M iv h hk s e=>by revert e;refine ca (λA ea=>ca (λha eb=>eG (λr er e=>?_)));obtain rfl:=aw e;refine rX (vh (B K.1) (hb K.2) h hk s ea eb) λae aq x y e1 e2 x2 r1 r2=>?_;(dsimp only[ev];(refine J e1 ?_;try dsimp only;refine J e2 ?_;try dsimp only;refine J (Oa r1 r2 er) ?_;try dsimp only));exact Out.val x2
theorem Ob(B:PS a):PS (.isNone y a):=λK N j' C M iv h hk s e=>by revert e;refine ca (λA ea=>eG (λr er e=>?_));obtain rfl:=aw e;refine bA (B K N j' C M _ h hk s ea) λae x e1 x1 r1 O=>?_;(dsimp only[ev];(refine J e1 ?_;try dsimp only;refine J (Ea r1 er) ?_;try dsimp only));exact Out.val x1
theorem WO(B:PS a)(hb:PS b):PS (.isin y a b):=λK N j' C M iv h hk s e=>by revert e;refine ca (λA ea=>ca (λha eb=>eG (λr er e=>?_)));obtain rfl:=aw e;refine rX (vh (B K.1) (hb K.2) h hk s ea eb) λae aq x y e1 e2 x2 r1 r2=>?_;(dsimp only[ev];(refine J e1 ?_;try dsimp only;refine J e2 ?_;try dsimp only;refine J (RK r1 r2 er) ?_;try dsimp only));exact Out.val x2
theorem aat(B:PS a)(hb:PS b):PS (.and a b):=λK N j' C M iv h hk s e=>by
 revert e;refine tD (λea e=>?_) (λea e=>?_)
 .refine bA (B K.1 N j' C M _ h hk (s.sub λi q=>by(dsimp only[eL];simp[q])) ea) λae x e1 x1 r1 O=>?_;rw[r1.bF]at e1;dsimp only[ev];refine J e1 ?_;exact((hb K.2 ae j' C M iv x1.wf (hk.ext x1) ((s.mono (x1.view h)).sub λi q=>by(dsimp only[eL];simp[q])) e).after x1).weak λq=>by exact fT q
 .refine bA (B K.1 N j' C M _ h hk (s.sub λi q=>by(dsimp only[eL];simp[q])) ea) λae x e1 x1 r1 O=>?_;obtain rfl:=aw e;rw[r1.bF]at e1;dsimp only[ev];refine J e1 ?_;exact Out.val x1
theorem adN(B:PS a)(hb:PS b):PS (.or a b):=λK N j' C M iv h hk s e=>by
 revert e;refine Vd (λea e=>?_) (λea e=>?_)
 .refine bA (B K.1 N j' C M _ h hk (s.sub λi q=>by(dsimp only[eL];simp[q])) ea) λae x e1 x1 r1 O=>?_;rw[r1.bF]at e1;dsimp only[ev];refine J e1 ?_;exact((hb K.2 ae j' C M iv x1.wf (hk.ext x1) ((s.mono (x1.view h)).sub λi q=>by(dsimp only[eL];simp[q])) e).after x1).weak λq=>by exact fT q
 .refine bA (B K.1 N j' C M _ h hk (s.sub λi q=>by(dsimp only[eL];simp[q])) ea) λae x e1 x1 r1 O=>?_;obtain rfl:=aw e;rw[r1.bF]at e1;dsimp only[ev];refine J e1 ?_;exact Out.val x1
theorem aau(ht:PS t)(B:PS a)(hb:PS b):PS (.ite t a b):=λK N j' C M iv h hk s e=>by
 revert e;refine tD (λea e=>?_) (λea e=>?_)
 .refine bA (ht K.1 N j' C M _ h hk (s.sub λi q=>by(dsimp only[eL];simp[q])) ea) λae x e1 x1 r1 O=>?_;rw[r1.bF]at e1;dsimp only[ev];refine J e1 ?_;exact((B K.2.1 ae j' C M iv x1.wf (hk.ext x1) ((s.mono (x1.view h)).sub λi q=>by(dsimp only[eL];simp[q])) e).after x1).weak λq=>by(dsimp only[fresh]at q;simp at q);exact q.1
 .refine bA (ht K.1 N j' C M _ h hk (s.sub λi q=>by(dsimp only[eL];simp[q])) ea) λae x e1 x1 r1 O=>?_;rw[r1.bF]at e1;dsimp only[ev];refine J e1 ?_;exact((hb K.2.2 ae j' C M iv x1.wf (hk.ext x1) ((s.mono (x1.view h)).sub λi q=>by(dsimp only[eL];simp[q])) e).after x1).weak λq=>by(dsimp only[fresh]at q;simp at q);exact q.2
theorem WQ(B:PS as):PS (.call K' F P as):=λK N j' C M iv h hk s e=>by refine ia λGq zq=>?_;revert e;refine zL nS λhm e=>?_;revert e;refine qV (λVs ea e=>?_);refine bA (B K.2 N j' C M _ h hk s ea) λae x e1 x1 r1 O=>?_;refine ah (r1.bD) λZ bK rs=>?_;clear r1;subst bK;refine zq ?_;clear zq;dsimp only[ev];refine J e1 ?_;have U':=K.1;dsimp only[KC]at U';rw[hm]at U';exact(U' ae j' Z Vs iv x1.wf (hk.ext x1) rs e).after x1
theorem adO(B:PS as):PS (.bi k as):=λK N j' C M iv h hk s e=>by revert e;refine qV (λVs ea e=>?_);refine bA (B K N j' C M _ h hk s ea) λae x e1 x1 r1 O=>?_;refine ah (r1.bD) λZ bK rs=>?_;clear r1;subst bK;dsimp only[ev];refine J e1 ?_;exact RL x1 hk rs e
theorem aav(B:PS a)(hb:PS b):PS (.idx a b):=λK N j' C M iv h hk s e=>by revert e;refine ca (λA ea=>ca (λha eb e=>rX (vh (B K.1) (hb K.2) h hk s ea eb) λae aq x y e1 e2 x2 r1 r2=>ah (D8 r1 r2 e) λz Y L=>?_));(dsimp only[ev];(refine J e1 ?_;try dsimp only;refine J e2 ?_;try dsimp only;refine J Y ?_;try dsimp only));exact Out.plain x2 L λq=>by exact fT q
theorem WR(B:PS a)(hb:PS b):PS (.gJ a b):=λK N j' C M iv h hk s e=>by revert e;refine ca (λA ea=>ca (λha eb e=>rX (vh (B K.1) (hb K.2) h hk s ea eb) λae aq x y e1 e2 x2 r1 r2=>?_));(dsimp only[ev];(refine J e1 ?_;try dsimp only;refine J e2 ?_;try dsimp only));exact KG x2 hk r1 r2 e
theorem Oc(B:PS a)(hb:PS b):PS (.fq a b):=λK N j' C M iv h hk s e=>by revert e;refine ca (λA ea=>ca (λha eb e=>rX (vh (B K.1) (hb K.2) h hk s ea eb) λae aq x y e1 e2 x2 r1 r2=>?_));(dsimp only[ev];(refine J e1 ?_;try dsimp only;refine J e2 ?_;try dsimp only));exact D9 x2 hk r1 r2 e
theorem WS(B:PS as):PS (.bc as):=λK N j' C M iv h hk s e=>by revert e;refine qV (λVs ea e=>?_);obtain rfl:=aw e;refine bA (B K N j' C M _ h hk s ea) λae x e1 x1 r1 O=>?_;refine ah (r1.bD) λZ bK rs=>?_;clear r1;subst bK;dsimp only[ev];refine J e1 ?_;exact Out.plain x1 (VR.pack rs) λq=>by exact fT q
theorem aaw(B:PS as):PS (.lst as):=λK N j' C M iv h hk s e=>by revert e;refine qV (λVs ea e=>?_);obtain rfl:=aw e;refine bA (B K N j' C M _ h hk s ea) λae x e1 x1 r1 O=>?_;refine ah (r1.bD) λZ bK rs=>?_;clear r1;subst bK;dsimp only[ev];refine J e1 ?_;exact Out.jv x1 hk rs
theorem RN:PS .gz:=λK N j' C M iv h hk s e=>by dsimp only[ax]at e;rw[dN]at e;subst e;exact Out.p6 (Ext.refl h) hk
theorem RO(B:PS a)(hb:PS b):PS (.kX a b):=λK N j' C M iv h hk s e=>by revert e;refine MI (λkt ea=>oK (λy eb=>fx (λks IK e=>?_)));obtain rfl:=aw e;refine rX (vh (B K.1) (hb K.2) h hk s ea eb) λae aq x y e1 e2 x2 r1 r2=>?_;rw[r1.bF]at e1;rw[r2.bF]at e2;(dsimp only[ev];(refine J e1 ?_;try dsimp only;refine J e2 ?_;refine J IK ?_;try dsimp only));exact Out.p6 x2 hk
theorem aax:PS .nil:=λK N j' C M iv h hk s e=>by dsimp only[ax]at e;rw[dN]at e;subst e;exact Out.plain (Ext.refl h) (VR.tup bZ.nil) λq=>by exact fT q
theorem WT(B:PS a)(hb:PS b):PS (.cons a b):=λK N j' C M iv h hk s e=>by revert e;refine ca (λA ea=>qV (λVs eb e=>?_));obtain rfl:=aw e;refine rX (vh (B K.1) (hb K.2) h hk s ea eb) λae aq x y e1 e2 x2 r1 r2=>?_;refine ah (r2.bD) λZ bK rs=>?_;clear r2;subst bK;(dsimp only[ev];(refine J e1 ?_;try dsimp only;refine J e2 ?_;try dsimp only));exact Out.plain x2 (VR.tup (bZ.cons r1 rs)) λq=>by exact fT q
theorem aay:PS .bad:=λK N j' C M iv h hk s e=>by exact nS e
theorem IT{K':St->AV->af (St × al)}{g:PV->af (aC)}(hf:∀ ae aj x Ys,Ext c7 ae->VR (view j' ae) aj x->g aj=f Ys->∃ aq ys,K' ae x=f (aq,ys)/\Ext ae aq/\bZ (view j' aq) Ys ys) :
  ∀(Xs:aC) (Z:al) (ae:St) (Ys:aC),Ext c7 ae->bZ (view j' ae) Xs Z->lu g Xs=f Ys->∃ aq ys,q7 K' Z ae=f (aq,ys)/\Ext ae aq/\bZ (view j' aq) Ys ys:=by
 intro w';induction w' with|nil=>intro O ae Ys x r e;refine J r.nil_inv ?_;dsimp only[lu]at e;rw[dN]at e;subst e;exact fI ae ([]) X (Ext.refl x.wf) bZ.nil|cons aj Xs ih=>intro O ae Ys x r e;refine aW (r.cons_inv) λy ys aL r1 rs=>?_;clear r;subst aL;revert e;refine de (λA ea=>de (λha eb e=>?_));obtain rfl:=aw e;exact aW (hf ae aj y A x r1 ea) λaq us Y L h3=>aW (ih ys aq ha (x.trans L) (rs.mono (L.view x.wf)) eb) λbo ws h4 h5 h6=>⟨bo,us++ws,by(dsimp only[q7];refine J Y ?_;try dsimp only;exact J h4 X),L.trans h5,(h3.mono (h5.view L.wf)).append h6⟩
theorem RP{K':St->AV->af (St × aA × AV)}{g:PV->af (aA × AV)}(hf:∀ ae aj x k v,Ext c7 ae->VR (view j' ae) aj x->g aj=f (k,v)->∃ aq,K' ae x=f (aq,k,v)/\Ext ae aq) :
  ∀(Xs:aC) (Z:al) (ae:St) (G' bJ:c9),Ext c7 ae->bZ (view j' ae) Xs Z->Ae g Xs G'=f bJ->∃ aq,Bm K' Z ae G'=f (aq,bJ)/\Ext ae aq:=by
 intro w';induction w' with|nil=>intro O ae G' bJ x r e;refine J r.nil_inv ?_;dsimp only[Ae]at e;rw[dN]at e;subst e;exact aK ae X (Ext.refl x.wf)|cons aj Xs ih=>intro O ae G' bJ x r e;refine aW (r.cons_inv) λy ys aL r1 rs=>?_;clear r;subst aL;refine ia λGq zq=>?_;revert e;refine MR (λk v ea e=>ah (hf ae aj y k v x r1 ea) λaq Y L=>ah (ih ys aq _ bJ (x.trans L) (rs.mono (L.view x.wf)) e) λbo h4 h5=>?_);refine zq ?_;clear zq;exact⟨bo,by(dsimp only[Bm];refine J Y ?_;try dsimp only;exact J h4 X),L.trans h5⟩
theorem sJ{r:jn}{hc iv:fm}{ik:tA}{K':St->AV->af (St × al)}{g:PV->af (aC)}{A iv:PV}{x:AV}(hx:Ext N ae)(hk:tw j' N)(ra:VR (view j' ae) A x)(hf:∀ c7,WF c7->c7.n=ae.n->(∀ i,c7.get i=ae.get i)->∀ aq aj x Ys,Ext c7 aq->VR (view j' aq) aj x->g aj=f Ys->∃ bo ys,K' aq x=f (bo,ys)/\Ext aq bo/\bZ (view j' bo) Ys ys)(e:rn (f A) ik g=f iv):Out j' N R iv (lU (f (ae,x)) ik K'):=by
 revert e;refine de (λXs hi=>de (λYs hm=>aZ (λoA e=>?_) nS));obtain rfl:=aw e;refine aW (IS ra hi) λZ lk Y L h3=>?_;refine aW (BL (K':=q7 K' Z) (xs:=λN ys=>bZ (view j' N) Ys ys) hx.wf h3 (λa b c q r=>by rwa [cW q]) λc7 w1 w2 w3=>IT (j':=j') (hf c7 w1 w2 w3) Xs Z c7 Ys (Ext.refl w1) (by exact J (cW w3) L) hm) λbo ys k1 k2 k3=>?_;(dsimp only[lU];(refine J Y ?_;try dsimp only;refine J k1 ?_;try dsimp only));refine J (ai (by rw[k3.length];exact oA)) ?_;exact Out.jv (hx.trans k2) hk k3
theorem Od{K':St->AV->af (St × aA × AV)}{g:PV->af (aA × AV)}(hx:Ext N ae)(hk:tw j' N)(ra:VR (view j' ae) A x)(hf:∀ c7,WF c7->c7.n=ae.n->(∀ i,c7.get i=ae.get i)->∀ aq aj x k v,Ext c7 aq->VR (view j' aq) aj x->g aj=f (k,v)->∃ bo,K' aq x=f (bo,k,v)/\Ext aq bo)(e:BF (f A) ik g=f iv):Out j' N R iv (Dv (f (ae,x)) ik K'):=by
 revert e;refine de (λXs hi=>aZ (λoA=>?_) nS);refine C9 (λbJ hm=>aZ (λaaz e=>?_) nS);obtain rfl:=aw e;refine aW (IS ra hi) λZ lk Y L h3=>?_;obtain⟨bo,ys,k1,k2,k3⟩:=BL (K':=λs0=>Bm K' Z s0 []) (xs:=λN ys=>ys=bJ) hx.wf h3 (λa b c q r=>r) λc7 w1 w2 w3=>by refine ah (RP (j':=j') (hf c7 w1 w2 w3) Xs Z c7 [] bJ (Ext.refl w1) (by exact J (cW w3) L) hm) λaq h4 h5=>?_;exact fI aq bJ h4 h5 X
 clear hm e;subst k3;(dsimp only[Dv];refine J Y ?_;try dsimp only);refine J (ai (by rw[L.length];exact oA)) ?_;(refine J k1 ?_;try dsimp only[Nk]);exact J (ai aaz) (Out.p6 (hx.trans k2) hk)
theorem Gm(hg:Qe g)(h:WF N)(hk:tw j' N)(s:Sl (view j' N) (λi=>eL i g=R) M C)(r:VR (view j' N) aj x)(e:D4 (ax g) C' M aj=f Ys) :
  ∃ aq ys,one (ev g) C' C N x=f (aq,ys)/\Ext N aq/\bZ (view j' aq) Ys ys:=by
 refine C3 λGq kq=>?_;revert e;refine de (λvs2 hb=>ca (λh1 ey e=>?_));obtain rfl:=aw e;refine ah (s.dr r hb) λeF Y L=>?_;refine bA (hg N j' eF vs2 h1 h hk L ey) λaq y h3 h4 h5 O=>?_;exact kq aq ([y]) (by(dsimp only[one];refine J Y ?_;try dsimp only;exact J h3 X)) h4 (bZ.cons h5 bZ.nil)
theorem Oe(U':Qe c)(hg:Qe g)(h:WF N)(hk:tw j' N)(s:Sl (view j' N) (λi=>(eL i g||eL i c)=R) M C)(r:VR (view j' N) aj x)(e:rm (ax c) (ax g) C' M aj=f Ys):∃ aq ys,zT (ev c) (ev g) C' C N x=f (aq,ys)/\Ext N aq/\bZ (view j' aq) Ys ys:=by
 refine C3 λGq kq=>?_;revert e;refine de (λvs2 hb e=>ah (s.dr r hb) λeF Y L=>?_);revert e;refine tD (λec e=>?_) (λec e=>?_)
 .revert e;refine ca (λh1 ey e=>?_);obtain rfl:=aw e;refine bA (U' N j' eF vs2 _ h hk (L.sub λi q=>by simp[q]) ec) λae y h3 h4 h5 O=>?_;rw[h5.bF]at h3;refine bA (hg ae j' eF vs2 h1 h4.wf (hk.ext h4) ((L.mono (h4.view h)).sub λi q=>by simp[q]) ey) λaq z h6 h7 h8 O=>?_;exact kq aq ([z]) (by(dsimp only[zT];refine J Y ?_;try dsimp only;refine J h3 ?_;try dsimp only;exact J h6 X)) (h4.trans h7) (bZ.cons h8 bZ.nil)
 .obtain rfl:=aw e;refine bA (U' N j' eF vs2 _ h hk (L.sub λi q=>by simp[q]) ec) λae y h3 h4 h5 O=>?_;rw[h5.bF]at h3;exact kq ae ([]) (by(dsimp only[zT,Y,h3];refine J Y ?_;dsimp only[zT,Y,h3];refine J h3 ?_;dsimp only[zT,Y,h3])) h4 bZ.nil
theorem WU(hi:Qe qF)(hg:Qe g)(h:WF N)(hk:tw j' N)(s:Sl (view j' N) (λi=>(eL i g||eL i qF)=R) M C)(r:VR (view j' N) aj x)(e:WI (ax qF) tB (ax g) C' tgt2 M aj=f Ys):∃ aq ys,two (ev qF) tB (ev g) C' tgt2 C N x=f (aq,ys)/\Ext N aq/\bZ (view j' aq) Ys ys:=by
 refine C3 λGq kq=>?_;revert e;refine de (λvs2 hb e=>ah ((s.clear tgt2).dr r hb) λeF Y L=>?_);revert e;refine ca (λA ea=>de (λXs hx e=>?_));refine bA (hi N j' eF vs2 A h hk (L.sub λi q=>by simp[q]) ea) λae y h3 h4 h5 O=>?_;refine aW (IS h5 hx) λZ lk k1 k2 k3=>?_;have s1:Sl (view j' ae) (λi=>eL i g=R) vs2 eF:=(L.mono (h4.view h)).sub λi q=>by simp[q]
 obtain⟨bo,ys,m1,m2,m3⟩:=BL (K':=q7 (one (ev g) tgt2 eF) Z) (xs:=λN ys=>bZ (view j' N) Ys ys) h4.wf k3 (λa b c q r=>by rwa [cW q]) λc7 w1 w2 w3=>
  IT (j':=j') (λaq aj x Ys x2 rx ex=>Gm hg x2.wf (λn q=>eA (hk.ext h4 n q) (by exact dR w2 x2.le)) (s1.mono λn o q=>x2.view w1 n o (by exact J (cW w3) q)) rx ex)
   Xs Z c7 Ys (Ext.refl w1) (by exact J (cW w3) k2) e
 exact kq bo ys (by(dsimp only[two];refine J Y ?_;try dsimp only;refine J h3 ?_;try dsimp only;refine J k1 ?_;try dsimp only;exact J m1 X)) (h4.trans m2) m3
theorem RQ(Wk:Qe k)(hg:Qe g)(h:WF N)(hk:tw j' N)(s:Sl (view j' N) (λi=>(eL i k||eL i g)=R) M C)(r:VR (view j' N) aj x)(e:xx (ax k) (ax g) C' M aj=f (kk,v)):∃ aq,Q4 (ev k) (ev g) C' C N x=f (aq,kk,v)/\Ext N aq:=by
 refine ia λGq zq=>?_;revert e;refine de (λvs2 hb e=>ah (s.dr r hb) λeF Y L=>?_);revert e;refine MI (λkt ec=>oK (λh1 ey=>fx (λks IK e=>?_)));refine zq ?_;clear zq;refine gI e ?_;refine bA (Wk N j' eF vs2 _ h hk (L.sub λi q=>by simp[q]) ec) λae y h3 h4 h5 O=>?_;rw[h5.bF]at h3;refine bA (hg ae j' eF vs2 _ h4.wf (hk.ext h4) ((L.mono (h4.view h)).sub λi q=>by simp[q]) ey) λaq z h6 h7 h8 O=>?_;rw[h8.bF]at h6;exact⟨aq,by(dsimp only[Q4];refine J Y ?_;try dsimp only;refine J h3 ?_;try dsimp only;refine J h6 ?_;exact J IK X),h4.trans h7⟩
theorem RT{x it:CE}{C':cf}{ik:tA}(hx:PS x)(hi:PS it):PS (.bq x C' ik it):=λK N j' C M iv h hk s e=>by dsimp only[ax]at e;cases ea:ax it M with|none=>rw[ea]at e;exact nS e|some A=>
  rw[ea]at e;refine bA (hi K.2 N j' C M A h hk (s.sub λi q=>by(dsimp only[eL];simp[q])) ea) λae y h3 h4 h5 O=>?_;dsimp only[ev];refine J h3 ?_;have s1:Sl (view j' ae) (λi=>eL i x=R) M C:=(s.mono (h4.view h)).sub λi q=>by(dsimp only[eL];simp[q])
  exact sJ (hc:=.none) (iv:=.none) (r:=.none) h4 hk h5 (λc7 w1 w2 w3 aq aj z Ys x2 rx ex=>Gm (hx K.1) x2.wf (λn q=>eA (hk.ext h4 n q) (by exact dR w2 x2.le)) (s1.mono λn o q=>x2.view w1 n o (by exact J (cW w3) q)) rx ex) e
theorem KH{x it c:CE}{C':cf}{ik:tA}(hx:PS x)(hi:PS it)(U':PS c):PS (.bR x C' ik it c):=λK N j' C M iv h hk s e=>by dsimp only[ax]at e;cases ea:ax it M with|none=>rw[ea]at e;exact nS e|some A=>
  rw[ea]at e;refine bA (hi K.2.1 N j' C M A h hk (s.sub λi q=>by(dsimp only[eL];simp[q])) ea) λae y h3 h4 h5 O=>?_;dsimp only[ev];refine J h3 ?_;have s1:Sl (view j' ae) (λi=>(eL i x||eL i c)=R) M C:=(s.mono (h4.view h)).sub λi q=>by(dsimp only[eL]at q ⊢;simp only[qr]at q ⊢);rcases q with q|q<;>simp[q]
  exact sJ (hc:=.none) (iv:=.none) (r:=.none) h4 hk h5 (λc7 w1 w2 w3 aq aj z Ys x2 rx ex=>Oe (U' K.2.2) (hx K.1) x2.wf (λn q=>eA (hk.ext h4 n q) (by exact dR w2 x2.le)) (s1.mono λn o q=>x2.view w1 n o (by exact J (cW w3) q)) rx ex) e
theorem Of{x it qF:CE}{C' tgt2:cf}{ik tB:tA}(hx:PS x)(hi:PS it)(Ro:PS qF):PS (.dH x C' ik it tgt2 tB qF):=λK N j' C M iv h hk s e=>by dsimp only[ax]at e;cases ea:ax it M with|none=>rw[ea]at e;exact nS e|some A=>
  rw[ea]at e;refine bA (hi K.2.1 N j' C M A h hk (s.sub λi q=>by(dsimp only[eL];simp[q])) ea) λae y h3 h4 h5 O=>?_;dsimp only[ev];refine J h3 ?_;have s1:Sl (view j' ae) (λi=>(eL i x||eL i qF)=R) M C:=(s.mono (h4.view h)).sub λi q=>by(dsimp only[eL]at q ⊢;simp only[qr]at q ⊢);rcases q with q|q<;>simp[q]
  exact sJ (hc:=.none) (iv:=.none) (r:=.none) h4 hk h5 (λc7 w1 w2 w3 aq aj z Ys x2 rx ex=>WU (Ro K.2.2) (hx K.1) x2.wf (λn q=>eA (hk.ext h4 n q) (by exact dR w2 x2.le)) (s1.mono λn o q=>x2.view w1 n o (by exact J (cW w3) q)) rx ex) e
theorem RU(Wk:PS k)(hx:PS x)(hi:PS it):PS (.jT k x C' ik it):=λK N j' C M iv h hk s e=>by dsimp only[ax]at e;cases ea:ax it M with|none=>rw[ea]at e;exact nS e|some A=>
  rw[ea]at e;refine bA (hi K.2.2 N j' C M A h hk (s.sub λi q=>by(dsimp only[eL];simp[q])) ea) λae y h3 h4 h5 O=>?_;dsimp only[ev];refine J h3 ?_;have s1:Sl (view j' ae) (λi=>(eL i k||eL i x)=R) M C:=(s.mono (h4.view h)).sub λi q=>by(dsimp only[eL]at q ⊢;simp only[qr]at q ⊢);rcases q with q|q<;>simp[q]
  exact Od h4 hk h5 (λc7 w1 w2 w3 aq aj z kk v x2 rx ex=>RQ (Wk K.1) (hx K.2.1) x2.wf (λn q=>eA (hk.ext h4 n q) (by exact dR w2 x2.le)) (s1.mono λn o q=>x2.view w1 n o (by exact J (cW w3) q)) rx ex) e
theorem jw:∀ c:CE,PS c:=by intro c;induction c with|k v=>exact e_k v|glob x v=>exact WM x v|var i=>exact aao i|bin o a b B hb=>exact aap B hb|neg a B=>exact aaq B|cmp o a b B hb=>exact aas B hb|isNone y a B=>exact Ob B|isin y a b B hb=>exact WO B hb|and a b B hb=>exact aat B hb|or a b B hb=>exact adN B hb|not a B=>exact aar B|ite t a b ht B hb=>exact aau ht B hb|call K' F P as B=>exact WQ B|bi k as B=>exact adO B|idx a b B hb=>exact aav B hb|gJ a b B hb=>exact WR B hb|fq a b B hb=>exact Oc B hb|bc as B=>exact WS B|lst as B=>exact aaw B|gz=>exact RN|kX a b B hb=>exact RO B hb|bq x C' ik it hx hi=>exact RT hx hi|bR x C' ik it c hx hi U'=>exact KH hx hi U'|dH x C' ik it tgt2 tB qF hx hi Ro=>exact Of hx hi Ro|jT k v C' ik it Wk hx hi=>exact RU Wk hx hi|bad=>exact aay|nil=>exact aax|cons a b B hb=>exact WT B hb
end
structure FR(mu:cf)(N:St)(j' aj:jS)(C:al)(M:aC):Prop where
 len:M.length<=C.length
 xh:∀ n,aj n=R->j' n=R
 hk:tw j' N
 pl:∀ i,mu.contains i=N'->VR (view j' N) (bf M i) (ao C i)
 ow:∀ i,mu.contains i=R->bf M i≠.any->∃ n o,ao C i=.ref n/\j' n=R/\aj n=N'/\N.getM n=f o/\OB (view j' N) (bf M i) o
 ap:∀ i j n,mu.contains i=R->mu.contains j=R->bf M i≠.any->bf M j≠.any->ao C i=.ref n->ao C j=.ref n->i=j
structure XP(mu:cf)(N T':St)(j' H' aj:jS)(bh:al)(eT:aC):Prop where
 wf:WF T'
 le:N.n<=T'.n
 fr:FR mu T' H' aj bh eT
 hh:∀ n,H' n=R->j' n=R\/N.n<=n
 kp:∀ i,i<N.n->(j' i=N'\/aj i=R)->T'.ent i=N.ent i
def Qf(k:a_)(fr:e_)(aj:jS)(N:St):kQ->Fl->Prop|.next,.next=>f?|.cont,.cont=>f?|.ret iv,.ret z=>VR (view aj N) iv z/\(fr=R->Fr k (view aj N) N iv z)|O,O'=>False
section
variable{mu:cf}{W W':Vw}{j' H' Og RV aj:jS}{N T' c7 ae aq bo:St}{C bh vi xB:al}{M eT Oh IU:aC}{k:a_}
theorem OB.mono(h:∀ n o,W n=f o->W' n=f o)(q:OB W iv o):OB W' iv o:=by cases iv with|list Vs=>(obtain⟨Z,e,r⟩:=q;exact aK Z e (r.mono h))|dict bJ=>exact q|_=>exact q.elim
theorem OB.vr(q:OB W iv o)(h:W n=f o):VR W iv (.ref n):=by cases iv with|list Vs=>(obtain⟨Z,rfl,r⟩:=q;exact VR.list h r)|dict bJ=>(cases q;exact VR.dict h)|_=>exact q.elim
theorem cX(h:N.getM n=f o):N.get n=f o:=gU (fj h)
theorem FR.Oi(F:FR mu N j' aj C M)(h:fu mu c=N'):Sl (view j' N) (λi=>eL i c=R) M C:=by refine⟨F.len,λi hi=>F.pl i ?_⟩;cases q:mu.contains i with|false=>rfl|true=>
  have:fu mu c=R:=by exact J (propext LX) (aK i (by simpa using q) hi)
  rw[h]at this;exact fT this
theorem FR.vj(F:FR mu N j' aj C M){P:a_->Prop}:Sl (view aj N) P M C:=by refine⟨F.len,λi O=>?_⟩;cases q:mu.contains i with|false=>exact(F.pl i q).mono (mX F.xh)|true=>cases hv:bf M i with|any=>exact VR.any|_=>refine fe (F.ow i q (by refine J hv ?_;intro x;cases x)) λn o e Y L h3 h4=>?_;refine J e (dR hv ?_);exact(h4.mono (mX F.xh)).vr (dw L (cX h3))
theorem FR.xk(F:FR mu N j' aj C M):tw aj N:=λn h=>F.hk n (F.xh n h)
theorem FR.ext(F:FR mu N j' aj C M)(h:WF N)(x:Ext N T'):FR mu T' j' aj C M where
 len:=F.len
 xh:=F.xh
 hk:=F.hk.ext x
 pl:=λi q=>(F.pl i q).mono (x.view h)
 ow:=λi q1 q2=>by refine fe (F.ow i q1 q2) λn o e Y L h3 h4=>?_;exact r6 n o e Y L (by exact J (cN (x.ent n (F.hk n Y))) h3) (h4.mono (x.view h))
 ap:=F.ap
theorem FR.xp(F:FR mu N j' aj C M)(h:WF N)(x:Ext N T'):XP mu N T' j' j' aj C M:=⟨x.wf,x.le,F.ext h x,λn q=>.inl q,λi hi O=>x.ent i hi⟩
theorem XP.trans(a:XP mu N ae j' Og aj vi Oh)(b:XP mu ae aq Og RV aj xB IU):XP mu N aq j' RV aj xB IU where
 wf:=b.wf
 le:=aR a.le b.le
 fr:=b.fr
 hh:=λn q=>by
  rcases b.hh n q with q|q
  .exact a.hh n q
  .exact .inr (aR a.le q)
 kp:=λi hi q=>by
  rw[b.kp i (eA hi a.le) ?_,a.kp i hi q];rcases q with q|q
  .left;cases e:Og i with|false=>rfl|true=>
    rcases a.hh i e with w|w
    .rw[q]at w;exact fT w
    .lia
  .exact .inr q
theorem XP.view(a:XP mu N T' j' H' aj C M)(h:WF N)(n:a_)(o:AO)(e:view j' N n=f o):Mine.Internal.view H' T' n=f o:=by obtain⟨q1,q2⟩:=aF e;have hl:=lz h q2;refine dw ?_ (by exact J (dx (a.kp n hl (.inl q1))) q2);cases w:H' n with|false=>rfl|true=>
  rcases a.hh n w with w|w
  .rw[q1]at w;exact fT w
  .lia
theorem FR.ig(F:FR mu N j' aj C M)(hi:mu.contains i=N')(r:VR (view j' N) iv v):FR mu N j' aj (aE C i v) (bM M i iv) where
 len:=J (mY _ _ _) (J (o9 _ _ _) F.len)
 xh:=F.xh
 hk:=F.hk
 pl:=λj q=>(Sl.set (P:=λj=>mu.contains j=N') ⟨F.len,F.pl⟩ r i).2 j q
 ow:=λj q1 q2=>by
  have d9:i≠j:=by intro mj;clear q2;subst mj;rw[hi]at q1;exact fT q1
  rw[dA,ak d9]at q2;simp only[dA,bk,ak d9,ak d9];exact F.ow j q1 q2
 ap:=λj l n q1 q2 q3 q4 q5 q6=>by
  have Y:i≠j:=by intro oN;clear q3 q5;subst oN;rw[hi]at q1;exact fT q1
  have L:i≠l:=by intro qv;clear q4 q6;subst qv;rw[hi]at q2;exact fT q2
  rw[dA,ak Y]at q3;rw[dA,ak L]at q4;rw[bk,ak Y]at q5;rw[bk,ak L]at q6;exact F.ap j l n q1 q2 q3 q4 q5 q6
theorem FR.bindL:∀{is:cf} {Vs M eT:aC} {Z C:al},FR mu N j' aj C M->is.any mu.contains=N'->bZ (view j' N) Vs Z->eh is Vs M=f eT->∃ bh,Mine.Internal.bindL is Z C=f bh/\FR mu N j' aj bh eT:=by intro w';induction w' with|nil=>(intro z1;cases z1 with|nil=>intro O O Z C F hi h e;refine J h.nil_inv ?_;dsimp only[eh]at e;rw[dN]at e;subst e;exact aK C X F|cons O O=>intro O O O O F hi h e;exact nS e)|cons i is ih=>intro z1;cases z1 with|nil=>intro O O O O F hi h e;exact nS e|cons iv Vs=>intro M eT Z C F hi h e;refine aW (h.cons_inv) λx r aL a q=>?_;clear h;subst aL;dsimp only[eh]at e;dsimp only[Mine.Internal.bindL];rw[uI,Jv]at hi;exact ih (F.ig hi.1 a) hi.2 q e
theorem FR.dr(F:FR mu N j' aj C M)(hi:is.any mu.contains=N')(h:VR (view j' N) iv v)(e:cS is iv M=f eT):∃ bh,Mine.Internal.dr is v C=f bh/\FR mu N j' aj bh eT:=by
 refine C1 λGq kq=>?_;rcases xA e with ⟨i,rfl,rfl⟩|⟨Vs,hp,e,hb⟩
 .simp only[uI,zE,Jw]at hi;exact kq _ X (F.ig hi h)
 .refine ah (h.items hp) λZ bK q=>?_;clear h;subst bK;exact ah (F.bindL hi q e) λbh Y L=>kq bh ((hb _ _).trans Y) L
theorem FR.BM(F:FR mu N j' aj C M)(h:WF N)(x:Ext N T')(hi:mu.contains i=R)(hn:N.n<=n)(hm:T'.getM n=f o)(r:OB (hide n (view j' T')) iv o) :
  XP mu N T' j' (λm=>j' m||m==n) aj (aE C i (.ref n)) (bM M i iv):=by
 have iQ:n<T'.n:=x.wf.lt (fj hm);have hX:aj n=N':=F.xk.not hn
 have vw:∀ m o,view j' N m=f o->view (λm=>j' m||m==n) T' m=f o:=λm o e=>by
  obtain⟨q1,q2⟩:=aF e
  have:=lz h q2
  refine dw ?_ (x.get h q2);exact J q1 (J (tT9 _) (uJ (by lia)))
 have vn:∀ m o,hide n (view j' T') m=f o->view (λm=>j' m||m==n) T' m=f o:=λm o e=>by revert e;refine C7 nS λd9 e=>?_;obtain⟨q1,q2⟩:=aF e;refine dw ?_ q2;exact J q1 (J (tT9 _) (uJ d9))
 refine⟨x.wf,x.le,⟨by refine J (mY _ _ _) (J (o9 _ _ _) ?_);exact F.len,λm q=>by exact J (F.xh m q) X,λm q=>?_,λj q=>?_,λj q1 q2=>?_,λj l m q1 q2 q3 q4 q5 q6=>?_⟩,λm q=>?_,λj hj q=>x.ent j hj⟩
 .rw[qr]at q;rcases q with q|q
  .exact eA (F.hk m q) x.le
  .rw[wu]at q;subst q;exact iQ
 .have d9:i≠j:=by rintro rfl;rw[hi]at q;exact tF q
  simp only[dA,bk,ak d9,ak d9];exact(F.pl j q).mono vw
 .by_cases e:i=j
  .subst e;rw[dA,ai X]at q2 ⊢;refine J (bk _ _ _ _) (J (ai X) ?_);split at q2
   rename_i hlen
   rotate_left;exact g_ X q2;refine J (ai hlen) (J (ai (eA hlen F.len)) ?_);exact r6 n o X (by simp) hX hm (r.mono vn)
  .rw[dA,ak e]at q2 ⊢;refine J (bk _ _ _ _) (J (ak e) (fe (F.ow j q1 q2) λm o' e1 Y L h3 h4=>?_));exact r6 m o' e1 (by simp[Y]) L (by exact J (cN (x.ent m (F.hk m Y))) h3) (h4.mono vw)
 .have root:∀ j,mu.contains j=R->bf (bM M i iv) j≠.any->ao (aE C i (.ref n)) j=.ref m->(i=j/\m=n)\/(i≠j/\bf M j≠.any/\ao C j=.ref m/\m<N.n):=λj q1 q3 q5=>by
   by_cases e:i=j
   .subst e;rw[dA,ai X]at q3;rw[bk,ai X]at q5;split at q3
    rename_i hlen
    rotate_left;exact g_ X q3;rw[ai (eA hlen F.len)]at q5;cases q5;exact .inl ⟨X,X⟩
   .rw[dA,ak e]at q3;rw[bk,ak e]at q5;refine aW (F.ow j q1 q3) λm' o' e1 Y O=>?_;rw[q5]at e1;cases e1;exact .inr ⟨e,q3,q5,F.hk m Y⟩
  rcases root j q1 q3 q5 with ⟨a1,a2⟩|⟨a1,a2,a3,a4⟩<;>rcases root l q2 q4 q6 with ⟨b1,b2⟩|⟨b1,b2,b3,b4⟩
  .exact dR a1 (dR b1 X)
  .lia
  .lia
  .exact F.ap j l m q1 q2 a2 b2 a3 b3
 .rw[qr]at q;rcases q with q|q
  .exact .inl q
  .rw[wu]at q;subst q;exact .inr hn
theorem FR.Ud(F:FR mu N j' aj C M)(h:WF N)(hi:mu.contains i=R)(d9:bf M i≠.any)(hs:ao C i=.ref n)(hH:j' n=R)(hX:aj n=N')(L:WF T') (h3:N.n<=T'.n) (hm:T'.getM n=f o) (r:OB (view j' T') iv o) (h4:∀ j,j<N.n->j≠n->T'.ent j=N.ent j):XP mu N T' j' j' aj C (bM M i iv):=by
 have vw:∀ m o,view j' N m=f o->view j' T' m=f o:=λm o e=>by obtain⟨q1,q2⟩:=aF e;refine dw q1 ?_;((refine J (dx (N:=N) (h4 m (lz h q2) (by rintro rfl;rw[hH]at q1;exact tF q1))) ?_));exact q2
 refine⟨L,h3,⟨by refine J (mY _ _ _) ?_;exact F.len,F.xh,λm q=>eA (F.hk m q) h3,λj q=>?_,λj q1 q2=>?_,λj l m q1 q2 q3 q4 q5 q6=>?_⟩,λm q=>.inl q,λj hj q=>?_⟩
 .have e:i≠j:=by rintro rfl;rw[hi]at q;exact tF q
  exact J (dA _ _ _ _) (J (ak e) ((F.pl j q).mono vw))
 .by_cases e:i=j
  .subst e;rw[dA,ai X]at q2 ⊢;split at q2
   rename_i hlen
   rotate_left;exact g_ X q2;exact J (ai hlen) (r6 n o hs hH hX hm r)
  .rw[dA,ak e]at q2 ⊢;refine fe (F.ow j q1 q2) λm o' e1 k1 k2 k3 k4=>?_
   have:m≠n:=by rintro rfl;exact e (F.ap i j _ hi q1 d9 q2 hs e1)
   (exact r6 m o' e1 k1 k2 (by refine J (cN (N:=N) (h4 m (F.hk m k1) this)) ?_;exact k3) (k4.mono vw))
 .have red:∀ j,bf (bM M i iv) j≠.any->bf M j≠.any:=λj q=>by
   rw[dA]at q;split at q
   rename_i e
   rotate_left;rotate_left
   .subst e;exact d9
   .exact q
  exact F.ap j l m q1 q2 (red j q3) (red l q4) q5 q6
 .refine h4 j hj ?_;rintro rfl;rcases q with q|q
  .rw[hH]at q;exact tF q
  .rw[hX]at q;exact fT q
theorem FR.turn(F:FR mu N j' aj C M)(h:WF N)(hi:mu.contains i=R)(d9:bf M i≠.any)(hs:ao C i=.ref n)(hH:j' n=R)(hX:aj n=N')(r:OB (view j' N) iv o) :
  ∃ T',N.set n o=f T'/\XP mu N T' j' j' aj C (bM M i iv):=by
 refine ky (sH h (F.hk n hH) ⟨N',o⟩) λT' Y L h3 h4=>?_;refine aK T' Y (F.Ud h hi d9 hs hH hX L (by lia) (iV (by exact J (h4 _) (J (ai X) X))) (r.mono λm o e=>?_) λj O q=>by exact J (h4 _) (J (ak q) X));refine cC (aF e) λq1 q2=>?_;refine dw q1 ?_;(refine J (dx (N:=N) (by rw[h4,ak];rintro rfl;rw[hH]at q1;exact tF q1)) ?_);exact q2
theorem mZ(F:FR mu N j' aj C M)(h:WF N)(K:bO KC c)(e:ax c M=f (.b w)):∃ T',ev c N C=f (T',w)/\Ext N T':=by refine bA (jw c K N aj C M _ h F.xk F.vj e) λT' z Y L h3 O=>?_;rw[h3.bF]at Y;exact aK T' Y L
theorem tX(F:FR mu N j' aj C M)(h:WF N)(K:bO KC c)(e:ax c M=f iv)(ok:ro N' (fu mu c) (fresh c) iv=R):∃ T' z,ev c N C=f (T',z)/\Ext N T'/\VR (view j' T') iv z:=by cases hr:fu mu c with|false=>refine bA (jw c K N j' C M _ h F.hk (F.Oi hr) e) λT' z Y L h3 O=>?_;exact fI T' z Y L h3|true=>
  rw[hr]at ok;refine bA (jw c K N aj C M _ h F.xk F.vj e) λT' z Y L h3 h4=>fI T' z Y L ?_
  cases iv with
  |b w=>exact J h3.bF (VR.b w)
  |dict bJ=>have hf:fresh c=R:=ok;refine bY (h4 hf) λn aL h5 h6=>?_;clear Y h3 h4;subst aL;exact VR.dict (dw (F.hk.not h5) (cX h6))
  |list Vs=>
   have hf:fresh c=R/\(allB Vs).isSome=R:=by(dsimp only[ro]at ok;simpa using ok)
   refine bA (h4 hf.1) λn Z aL h5 h6 h7=>?_;clear Y h3 h4;subst aL;obtain⟨ws,hw⟩:=wt.mp hf.2;refine VR.list (dw (F.hk.not h5) (cX h6)) ?_;exact J (h7.allB hw) (sI hw)
  |_=>exact fT ok
theorem RW(F:FR mu N j' aj C M)(h:WF N)(K:bO KC c)(e:ax c M=f iv)(ok:ro R (fu mu c) (fresh c) iv=R) :
  ∃ T' n o,ev c N C=f (T',.ref n)/\Ext N T'/\N.n<=n/\T'.getM n=f o/\OB (hide n (view j' T')) iv o:=by
 cases iv with
 |dict bJ=>
  have hf:fresh c=R:=by(dsimp only[ro]at ok;simpa using ok)
  refine bA (jw c K N aj C M _ h F.xk F.vj e) λT' z Y L h3 h4=>?_;refine bY (h4 hf) λn aL h5 h6=>?_;clear h3 h4;subst aL;exact Mx T' n _ Y L h5 h6 X
 |list Vs=>
  have hf:fresh c=R/\(fu mu c=N'\/(allB Vs).isSome=R):=by(dsimp only[ro]at ok;simpa using ok)
  cases hr:fu mu c with|false=>refine bA (jw c K N j' C M _ h F.hk (F.Oi hr) e) λT' z Y L h3 h4=>?_;refine bA (h4 hf.1) λn Z aL h5 h6 h7=>?_;clear h3 h4;subst aL;exact⟨T',n,_,Y,L,h5,h6,Z,X,h7⟩|true=>
   rw[hr]at hf;refine bA (jw c K N aj C M _ h F.xk F.vj e) λT' z Y L h3 h4=>?_;refine bA (h4 hf.1) λn Z aL h5 h6 h7=>?_;clear h3 h4;subst aL;have hs:(allB Vs).isSome=R:=by simpa using hf.2
   obtain⟨ws,hw⟩:=wt.mp hs;exact⟨T',n,_,Y,L,h5,h6,Z,X,by exact J (h7.allB hw) (sI hw)⟩
 |_=>exact fT ok
abbrev XO(r:af (St × al × Fl))(mu:cf)(N:St)(j' aj:jS)(M:aC)(K':kQ)(k:a_)(fr:e_):Prop:=∃ T' bh g H',r=f (T',bh,g)/\XP mu N T' j' H' aj bh M/\Qf k fr aj T' K' g
def XSx(mu:cf)(c:CS):Prop:=∀(N:St) (j' aj:jS) (C:al) (M eT:aC) (K':kQ) (k:a_),WF N->FR mu N j' aj C M->(∀ n,j' n=R->aj n=R\/k<=n)->k<=N.n->aD mu c M=f (eT,K') ->
 XO (ex c N C) mu N j' aj eT K' k (CC mu c)
def XS(mu:cf)(c:CS):Prop:=fg KC c->XSx mu c
theorem XP.low(a:XP mu N T' j' H' aj C M)(hb:∀ n,j' n=R->aj n=R\/k<=n)(hk:k<=N.n):∀ n,H' n=R->aj n=R\/k<=n:=λn q=>by
 rcases a.hh n q with q|q
 .exact hb n q
 .exact .inr (aR hk q)
theorem Oj:XS mu (.assign i c):=λK N j' aj C M eT K' k h F hb hk e=>by revert e;refine ca (λiv LP=>cx (λok e=>gI e ?_));cases hm:mu.contains i with|false=>rw[hm]at ok;exact aW (tX F h K LP ok) λT' z Y L h3=>⟨T',_,.next,j',by(dsimp only[ex];exact J Y X),⟨L.wf,L.le,(F.ext h L).ig hm h3,λn q=>.inl q,λj hj O=>L.ent j hj⟩,Z'⟩|true=>rw[hm]at ok;exact H8 (RW F h K LP ok) λT' n o Y L h3 h4 h5=>gA T' _ .next _ (by(dsimp only[ex];exact J Y X)) (F.BM h L hm h3 h4 h5) Z'
theorem RX(ok:ro N' rd N' iv=R)(hp:ft iv=f Vs):ro N' rd fr iv=R:=by
 dsimp only[ft]at hp;revert hp;refine MD (λO br hp=>?_) (λO br hp=>?_);clear ok;subst br;rotate_left;subst br;rotate_left
 .rfl
 .exact ok
theorem KI:XS mu (.bj is c):=λK N j' aj C M eT K' k h F hb hk e=>by refine ia λGq zq=>?_;revert e;refine ca (λiv LP=>cx (λok e=>?_));rw[jb,rR]at ok;revert e;refine de (λVs hp=>de (λvs1 IV e=>?_));refine zq ?_;clear zq;refine gI e (ia λGq zq=>aW (tX F h K LP (RX ok.2 hp)) λT' z Y L h3=>?_);refine ah (h3.items hp) λZ bK rs=>?_;clear h3;subst bK;refine ah ((F.ext h L).bindL ok.1 rs IV) λk9 h4 h5=>?_;refine zq ?_;clear zq;exact gA T' _ .next j' (by(dsimp only[ex,Y,h4];refine J Y ?_;dsimp only[ex,Y,h4];refine J h4 ?_;dsimp only[ex,Y,h4])) ⟨L.wf,L.le,h5,λn q=>.inl q,λj hj O=>L.ent j hj⟩ Z'
theorem aaA:XS mu (.aug o i c):=λK N j' aj C M eT K' k h F hb hk e=>by refine ia λGq zq=>?_;revert e;refine zL nS λhm e=>?_;revert e;refine Vh (λx hv=>AP (λy ey=>gP (λz ez e=>?_)));refine zq ?_;clear zq;refine gI e ?_;have hs:=F.pl i hm;rw[hv]at hs;refine ah (mZ F h K ey) λT' Y L=>?_;exact gA T' _ .next j' (by(dsimp only[ex,hs.bF,Y,ez];refine J hs.bF (J Y ?_);dsimp only[ex,hs.bF,Y,ez];refine J ez (J hs.bF (J Y ?_));dsimp only[ex,hs.bF,Y,ez])) ⟨L.wf,L.le,(F.ext h L).ig hm (VR.b _),λn q=>.inl q,λj hj O=>L.ent j hj⟩ Z'
theorem aaB:XS mu (.ret c):=λK N j' aj C M eT K' k h F hb hk e=>by
 revert e;refine ca (λiv LP e=>gI e (bA (jw c K N aj C M _ h F.xk F.vj LP) λT' z Y L h3 h4=>⟨T',C,.ret z,j',by(dsimp only[ex];exact J Y X),F.xp h L,h3,λUe=>?_⟩));by_cases hv:∃ i,c=.var i
 .obtain⟨i,eE⟩:=hv;clear K;subst eE;have LQ:mu.contains i=R:=Ue;dsimp only[ax]at LP;have WV:bf M i≠.any:=by intro q;rw[q]at LP;exact nS LP
  have hV:bf M i=iv:=by revert LP;refine Zf (λO q9=>nS q9) (λO q9=>nS q9) λLP=>?_;clear e h3 h4;obtain rfl:=aw LP;rfl
  refine fe (F.ow i LQ WV) λn o e1 k1 k2 k3 k4=>?_;have hz:T'=N/\z=.ref n:=by dsimp only[ev]at Y;rw[e1,dN,rP]at Y;exact⟨Y.1.symm,Y.2.symm⟩
  obtain⟨iA,j5⟩:=hz;clear h hk L;subst iA;subst j5
  have hkn:k<=n:=by
   rcases hb n k1 with q|q
   .rw[k2]at q;exact fT q
   .exact q
  rw[hV]at k4;have vw:∀ m o,view j' T' m=f o->hide n (view aj T') m=f o:=λm o q=>by obtain⟨q1,q2⟩:=aF q;refine J (IP (by intro AW;clear e1 k2 k3 h3 Y h4 hkn;subst AW;rw[k1]at q1;exact tF q1)) ?_;exact mX F.xh m o q
  cases iv with|b w=>trivial|list Vs=>(obtain⟨Z,rfl,r⟩:=k4;exact qJ n Z X hkn k3 (r.mono vw))|dict bJ=>(cases k4;exact kz n X hkn k3)|_=>exact k4.elim
 .have:fresh c=R:=by cases c with|var i=>exact g_ ⟨i,X⟩ hv|_=>exact Ue
  exact(h4 this).low hk
end
section
variable{mu:cf}{W W':Vw}{j' H' Og RV aj:jS}{N T' c7 ae aq bo:St}{C bh vi xB:al}{M eT Oh IU:aC}{k:a_}
theorem IW(hm:N.getM n=f o)(q:OB W iv o)(e:j8 iv M' v=f V'):∃ o',uS N n M' v=N.set n o'/\OB W V' o':=by cases iv with|list Vs=>(obtain⟨Z,eE,r⟩:=q;subst eE;dsimp only[j8]at e;revert e;refine TH (λi br=>?_);subst br;refine aZ (λc e=>?_) nS;obtain rfl:=aw e;refine⟨.list (Z.set i v),?_,_,X,r.set _ (VR.b v)⟩;dsimp only[uS];refine J hm ?_;exact ai (by exact J r.length c))|dict bJ=>(cases q;dsimp only[j8]at e;revert e;refine uV (λO br=>?_);subst br;refine fx (λks IK=>aZ (λc e=>?_) nS);obtain rfl:=aw e;refine aK _ ?_ X;dsimp only[uS];refine J hm (J IK ?_);exact ai c)|_=>exact q.elim
theorem Ug{two:e_}{n:a_}(hm:N.getM n=f o)(q:OB W iv o)(e:D5 two iv kv=f V'):∃ o',zS two N n kv=N.set n o'/\OB W V' o':=by refine C1 λGq kq=>?_;cases iv with|dict bJ=>(cases q;dsimp only[D5]at e;revert e;refine uV (λO br=>?_);subst br;refine fx (λks IK=>aZ (λc=>?_) nS);refine cx (λc2 e=>?_);obtain rfl:=aw e;refine kq _ ?_ X;(dsimp only[zS];(refine J hm ?_;refine J IK ?_;try dsimp only;refine J c2 ?_;try dsimp only));exact ai c)|list Vs=>exact nS e|_=>exact q.elim
theorem WW(hm:N.getM n=f o)(q:OB W iv o)(e:D6 iv=f V'):∃ o',Iu N n=N.set n o'/\OB W V' o':=by cases iv with|list Vs=>(refine ia λGq zq=>?_;obtain⟨Z,iA,r⟩:=q;subst iA;revert e;refine dY (λws hw=>aZ (λc=>?_) nS);refine cx (λc2 e=>?_);obtain rfl:=aw e;rw[<-r.allB hw]at c c2;refine zq ?_;clear zq;refine⟨.list Z.reverse,?_,_,X,r.reverse⟩;(dsimp only[Iu];(refine J hm ?_;try dsimp only;refine J c2 ?_;try dsimp only));exact ai c)|dict bJ=>exact nS e|_=>exact q.elim
theorem OB.Ol(q:OB W iv o)(hm:N.getM n=f o):(Qc N n=R/\∃ bJ,iv=.dict bJ)\/(Qb N n=R/\∃ Vs,iv=.list Vs):=by cases iv with|list Vs=>(obtain⟨Z,rfl,r⟩:=q;exact .inr ⟨by(dsimp only[Qb];exact J (cX hm) X),_,X⟩)|dict bJ=>(cases q;exact .inl ⟨by(dsimp only[Qc];exact J (cX hm) X),_,X⟩)|_=>exact q.elim
theorem m0(e:ly M i r=f (eT,K')):∃ V',r=f V'/\eT=bM M i V'/\K'=.next:=by dsimp only[ly]at e;revert e;refine ca (λiv br e=>?_);subst br;exact gI e (kz iv X X X)
theorem Om:XS mu (.dd j i c):=λK N j' aj C M eT K' k h F hb hk e=>by
 revert e;refine cx (λhm=>oK (λv ee=>oK (λM' ei e=>?_)));refine bY (m0 e) λV' hs fJ Gn=>?_;subst fJ;clear e;subst Gn;have d9:bf M j≠.any:=by intro q;rw[q]at hs;exact nS hs
 refine ia λGq zq=>ah (mZ F h K.2.2 ee) λae Y x1=>?_;have F1:=F.ext h x1;refine ah (mZ F1 x1.wf K.2.1 ei) λaq L x2=>?_;have F2:=F1.ext x1.wf x2;refine fe (F2.ow j hm d9) λn o e1 k1 k2 k3 k4=>ah (IW k3 k4 hs) λo' h3 k5=>ah (F2.turn x2.wf hm d9 e1 k1 k2 k5) λT' h4 x4=>?_;refine zq ?_;clear zq;refine⟨T',C,.next,j',?_,(F.xp h x1).trans ((F1.xp x1.wf x2).trans x4),Z'⟩;dsimp only[ex,ev,iR];refine J Y ?_;refine J e1 ?_;dsimp only;refine J L ?_;dsimp only;exact J h3 (J h4 X)
theorem Oo:XS mu (.iJ b j i c):=λK N j' aj C M eT K' k h F hb hk e=>by
 revert e;refine cx (λhm=>oK (λM' ei=>AP (λx ex_=>AP (λy ee=>gP (λz ez e=>?_)))));refine bY (m0 e) λV' hs fJ Gn=>?_;subst fJ;clear e;subst Gn;have d9:bf M j≠.any:=by intro q;rw[q]at hs;exact nS hs
 refine ia λGq zq=>ah (mZ F h K.2.1 ei) λae Y x1=>?_;have F1:=F.ext h x1;refine fe (F1.ow j hm d9) λn o e1 k1 k2 k3 k4=>?_;refine ah (D8 ((k4.mono (mX F1.xh)).vr (dw k2 (cX k3))) (VR.b M') ex_) λw hw rw_=>?_;rw[rw_.bF]at hw;refine ah (mZ F1 x1.wf K.2.2 ee) λaq L x2=>?_;have F2:=F1.ext x1.wf x2;refine fe (F2.ow j hm d9) λn' o2 Eb k1' k2' k3' k4'=>?_;rw[e1]at Eb;cases Eb;refine ah (IW k3' k4' hs) λo' h3 k5=>ah (F2.turn x2.wf hm d9 e1 k1' k2' k5) λT' h4 x4=>?_;refine zq ?_;clear zq;refine⟨T',C,.next,j',?_,(F.xp h x1).trans ((F1.xp x1.wf x2).trans x4),Z'⟩;dsimp only[ex,ev,iR];refine J e1 ?_;dsimp only;refine J Y ?_;dsimp only;refine J hw ?_;refine J L ?_;dsimp only;refine J ez ?_;dsimp only;exact J h3 (J h4 X)
theorem WX{j:a_}:XS mu (.qt j kk):=λK N j' aj C M eT K' k h F hb hk e=>by
 revert e;refine cx (λhm=>oK (λkv ei e=>?_));refine bY (m0 e) λV' hs fJ Gn=>?_;subst fJ;clear e;subst Gn;have d9:bf M j≠.any:=by intro q;rw[q]at hs;exact nS hs
 refine fe (F.ow j hm d9) λn0 o0 e1 O O k3 k4=>?_
 have hd:Qc N n0=R:=by
  rcases k4.Ol k3 with q|⟨_,Vs,q⟩
  .exact q.1
  .rw[q]at hs;exact nS hs
 refine ia λGq zq=>ah (mZ F h K.2 ei) λae Y x1=>?_;have F1:=F.ext h x1;refine fe (F1.ow j hm d9) λn o Eb k1 k2 k3 k4=>?_;rw[e1]at Eb;cases Eb;refine ah (Ug k3 k4 hs) λo' h3 k5=>ah (F1.turn x1.wf hm d9 e1 k1 k2 k5) λT' h4 x4=>?_;refine zq ?_;clear zq;refine gA T' C .next j' ?_ ((F.xp h x1).trans x4) Z';dsimp only[ex,ev,iR];refine J e1 ?_;dsimp only;refine J (ai hd) (J Y ?_);dsimp only;exact J h3 (J h4 X)
theorem WY{j:a_}:XS mu (.qu j kk):=λK N j' aj C M eT K' k h F hb hk e=>by
 revert e;refine cx (λhm=>oK (λkv ei e=>?_));refine bY (m0 e) λV' hs fJ Gn=>?_;subst fJ;clear e;subst Gn;have d9:bf M j≠.any:=by intro q;rw[q]at hs;exact nS hs
 refine fe (F.ow j hm d9) λn0 o0 e1 O O k3 k4=>?_
 have hd:Qc N n0=R:=by
  rcases k4.Ol k3 with q|⟨_,Vs,q⟩
  .exact q.1
  .rw[q]at hs;exact nS hs
 refine ia λGq zq=>ah (mZ F h K.2 ei) λae Y x1=>?_;have F1:=F.ext h x1;refine fe (F1.ow j hm d9) λn o Eb k1 k2 k3 k4=>?_;rw[e1]at Eb;cases Eb;refine ah (Ug k3 k4 hs) λo' h3 k5=>ah (F1.turn x1.wf hm d9 e1 k1 k2 k5) λT' h4 x4=>?_;refine zq ?_;clear zq;refine gA T' C .next j' ?_ ((F.xp h x1).trans x4) Z';dsimp only[ex,ev,iR];refine J e1 ?_;dsimp only;refine J (ai hd) (J Y ?_);dsimp only;exact J h3 (J h4 X)
theorem WZ:XS mu (.sort j):=λK N j' aj C M eT K' k h F hb hk e=>by
 revert e;refine cx (λhm e=>?_);refine bY (m0 e) λV' hs fJ Gn=>?_;subst fJ;clear e;subst Gn;have d9:bf M j≠.any:=by intro q;rw[q]at hs;exact nS hs
 refine fe (F.ow j hm d9) λn o e1 k1 k2 k3 k4=>?_
 have hd:Qb N n=R:=by
  rcases k4.Ol k3 with ⟨_,Vs,q⟩|q
  .rw[q]at hs;exact nS hs
  .exact q.1
 refine ah (WW k3 k4 hs) λo' h3 k5=>ah (F.turn h hm d9 e1 k1 k2 k5) λT' h4 x4=>gA T' C .next j' ?_ x4 Z';dsimp only[ex,ev,iR];refine J e1 ?_;dsimp only;exact J (ai hd) (J h3 (J h4 X))
theorem Oq:XS mu (.append j c):=λK N j' aj C M eT K' k h F hb hk e=>by
 refine ia λGq zq=>?_;revert e;refine cx (λhm=>Fw (λVs hv=>ca (λiv ee=>cx (λok=>aZ (λoA e=>?_) nS))));refine zq ?_;clear zq;refine gI e ?_;have d9:bf M j≠.any:=by refine J hv ?_;intro q;cases q
 refine fe (F.ow j hm d9) λn0 o0 e1 O O k3 k4=>?_
 have hd:Qb N n0=R:=by
  rcases k4.Ol k3 with ⟨_,_,q⟩|q
  .rw[hv]at q;cases q
  .exact q.1
 refine ia λGq zq=>aW (tX F h K.2 ee ok) λae z Y x1 r1=>?_;have F1:=F.ext h x1;refine fe (F1.ow j hm d9) λn o Eb k1 k2 k3 k4=>?_;rw[e1]at Eb;cases Eb;rw[hv]at k4;obtain⟨Z,j5,rs⟩:=k4;subst j5;have k5:OB (view j' ae) (.list (Vs++[iv])) (.list (Z++[z])):=⟨_,X,rs.append (bZ.cons r1 bZ.nil)⟩;refine ah (F1.turn x1.wf hm d9 e1 k1 k2 k5) λT' h4 x4=>?_;refine zq ?_;clear zq;refine gA T' C .next j' ?_ ((F.xp h x1).trans x4) Z';dsimp only[ex,ev,wZ];refine J e1 ?_;dsimp only;refine J (ai hd) (J Y ?_);dsimp only;refine J k3 ?_;dsimp only;refine J (ai (by rw[rs.length];exact oA)) ?_;exact J h4 X
theorem Ot:XS mu (.extend j c):=λK N j' aj C M eT K' k h F hb hk e=>by
 refine ia λGq zq=>?_;revert e;refine cx (λhm=>Fw (λVs hv=>Vf (λYs ee=>cx (λok e=>?_))));rw[jb]at ok;revert e;refine aZ (λoA e=>?_) nS;refine zq ?_;clear zq;refine gI e ?_;have d9:bf M j≠.any:=by refine J hv ?_;intro q;cases q
 refine fe (F.ow j hm d9) λn0 o0 e1 a1 O k3 k4=>?_
 have hd:Qb N n0=R:=by
  rcases k4.Ol k3 with ⟨_,_,q⟩|q
  .rw[hv]at q;cases q
  .exact q.1
 refine ia λGq zq=>bA (jw c K.2 N aj C M _ h F.xk F.vj ee) λae z Y x1 r1 f1=>?_;refine bA (f1 ok.1) λm ys aL hmn hgm rys=>?_;clear r1 f1;subst aL;obtain⟨ws,hw⟩:=wt.mp ok.2;have F1:=F.ext h x1;refine fe (F1.ow j hm d9) λn o Eb k1 k2 k3 k4=>?_;rw[e1]at Eb;cases Eb;rw[hv]at k4;obtain⟨Z,mj,rs⟩:=k4;subst mj;refine zq ?_;clear zq;have hys:bZ (view j' ae) Ys ys:=J (rys.allB hw) (sI hw);have k5:OB (view j' ae) (.list (Vs++Ys)) (.list (Z++ys)):=⟨_,X,rs.append hys⟩;refine ah (F1.turn x1.wf hm d9 e1 k1 k2 k5) λT' h4 x4=>?_;have bV:m≠n0:=by have:=F.hk n0 a1;lia
 refine gA T' C .next j' ?_ ((F.xp h x1).trans x4) Z';dsimp only[ex,ev,w0];refine J e1 ?_;dsimp only;refine J (ai hd) (J Y ?_);dsimp only;refine J k3 ?_;refine J (cX hgm) ?_;dsimp only;refine J (ai ⟨bV,by rw[rs.length];exact oA.1,by rw[hys.length];exact oA.2⟩) ?_;exact J h4 X
theorem RY{as:CE}{F:a_->CE->af (aC × kQ)}{iv:aC × kQ}(e:(match as with|.cons (.var i) r=>F i r|_=>V)=f iv):∃ i r,as=.cons (.var i) r/\F i r=f iv:=by refine Mp λGq kq=>?_;cases as with|cons a r=>(cases a<;>first|exact nS e|exact kq _ r X e)|_=>exact nS e
theorem W3{c:CE}:XS mu (.expr c):=λK N j' aj C M eT K' k h F hb hk e=>by
 induction c using CE.casesOn with
 |call g Y' P as=>
  revert e;refine Tx (λLQ e=>?_) λLQ e=>?_
  .refine eD (RY e) λi r aL e=>?_;subst aL;revert e;refine cx (λhm=>qV (λUs er=>cx (λhB=>cx (λhO e=>?_))));refine bY (m0 e) λV' hs fJ Gn=>?_;subst fJ;clear e;subst Gn;obtain⟨ws,hw⟩:=wt.mp hB;have d9:bf M i≠.any:=by intro q;rw[q]at hO;exact fT hO
   refine ia λGq zq=>?_;refine fe (F.ow i hm d9) λn0 o0 e1 a1 O O O=>?_;refine bA (jw r K.2.2 N aj C M _ h F.xk F.vj er) λae z Y x1 r1 O=>?_;refine ah (r1.bD) λZ bK rs=>?_;clear r1;subst bK;have F1:=F.ext h x1;refine fe (F1.ow i hm d9) λn o Eb k1 k2 k3 k4=>?_;rw[e1]at Eb;cases Eb;have U':=K.1;dsimp only[KC]at U';rw[LQ]at U';refine zq ?_;clear zq;have rs':bZ (view j' ae) Us Z:=J (rs.allB hw) (sI hw);refine oq (U' ae j' n0 o Z _ V' Us x1.wf F1.hk k1 k3 k4 rs' hs) λT' o' L h3 h4 h5 h6 h7=>⟨T',C,.next,j',?_,(F.xp h x1).trans (F1.Ud x1.wf hm d9 e1 k1 k2 h3 h4 h5 h6 h7),Z'⟩;(dsimp only[ex,ev];(refine J e1 ?_;try dsimp only;refine J Y ?_;try dsimp only;exact J L X))
  .revert e;refine qV (λUs er=>ca (λV' ef e=>gI e (ia λGq zq=>?_)));refine bA (jw as K.2 N aj C M _ h F.xk F.vj er) λae z Y x1 r1 O=>?_;refine ah (r1.bD) λZ bK rs=>?_;clear r1;subst bK;have U':=K.1;dsimp only[KC]at U';rw[LQ]at U';refine aW (U' ae aj Z Us V' x1.wf (F.xk.ext x1) rs ef) λaq z L x2 O=>?_;refine zq ?_;clear zq;exact⟨aq,C,.next,j',by(dsimp only[ex,ev];refine J Y ?_;try dsimp only;exact J L X),F.xp h (x1.trans x2),Z'⟩
 |_=>exact nS e
end
section
variable{mu:cf}{W W':Vw}{j' H' Og RV aj X':jS}{N T' c7 ae aq bo:St}{C bh vi xB:al}{M eT Oh IU:aC}{k:a_}{K':kQ}{g:Fl}{fr:e_}
theorem Qf.weak(h:Qf k fr aj N K' g)(q:fr'=R->fr=R):Qf k fr' aj N K' g:=by cases K'<;>cases g<;>first|trivial|exact h.elim|exact⟨h.1,λe=>h.2 (q e)⟩
theorem aaD(B:XS mu a)(U':XS mu c):XS mu (.iff t a c):=λK N j' aj C M eT K' k h F hb hk e=>by
 revert e;refine tD (λet e=>?_) (λet e=>?_)
 .refine ah (mZ F h K.1 et) λae Y x1=>ff (B K.2.1 ae j' aj C M eT K' k x1.wf (F.ext h x1) hb (aR hk x1.le) e) λT' bh g H' L x2 r=>?_;exact gA T' bh g H' (by(dsimp only[ex,Y,L];refine J Y ?_;dsimp only[ex,Y,L];exact J L X)) ((F.xp h x1).trans x2) (r.weak λq=>by(dsimp only[CC]at q;rw[jb]at q);exact q.1)
 .refine ah (mZ F h K.1 et) λae Y x1=>ff (U' K.2.2 ae j' aj C M eT K' k x1.wf (F.ext h x1) hb (aR hk x1.le) e) λT' bh g H' L x2 r=>?_;exact gA T' bh g H' (by(dsimp only[ex,Y,L];refine J Y ?_;dsimp only[ex,Y,L];exact J L X)) ((F.xp h x1).trans x2) (r.weak λq=>by(dsimp only[CC]at q;rw[jb]at q);exact q.2)
theorem W4:XS mu .cont:=λK N j' aj C M eT K' k h F hb hk e=>by dsimp only[aD]at e;rw[dN,rP]at e;obtain⟨eE,iA⟩:=e;subst eE;subst iA;exact gA N C .cont j' (by rfl) (F.xp h (Ext.refl h)) Z'
theorem W5:XS mu .skip:=λK N j' aj C M eT K' k h F hb hk e=>by dsimp only[aD]at e;rw[dN,rP]at e;obtain⟨j5,mj⟩:=e;subst j5;subst mj;exact gA N C .next j' (by rfl) (F.xp h (Ext.refl h)) Z'
theorem RZ{K:aC->af (aC × kQ)}(e:(match r with|f (v1,.next)=>K v1|r=>r)=f (eT,K')):(∃ v1,r=f (v1,.next)/\K v1=f (eT,K'))\/r=f (eT,K')/\K'≠.next:=by
 rcases r with _|⟨v1,g⟩
 .exact nS e
 .cases g with|next=>exact .inl ⟨v1,X,e⟩|_=>exact .inr ⟨e,λq=>by subst q;cases e⟩
theorem aaE(B:XS mu a)(U':XS mu c):XS mu (.seq a c):=λK N j' aj C M eT K' k h F hb hk e=>by
 dsimp only[aD]at e;rcases RZ e with ⟨vs1,ea,e⟩|⟨e,d9⟩
 .refine ff (B K.1 N j' aj C M vs1 .next k h F hb hk ea) λae k9 g1 H1 Y x1 r1=>?_
  have:g1=.next:=by(clear Y;cases g1)<;>first|rfl|exact r1.elim
  clear r1;subst this;refine ff (U' K.2 ae H1 aj k9 vs1 eT K' k x1.wf x1.fr (x1.low hb hk) (aR hk x1.le) e) λT' bh g H' L x2 r=>?_;exact gA T' bh g H' (by(dsimp only[ex,Y,L];refine J Y ?_;dsimp only[ex,Y,L];exact J L X)) (x1.trans x2) (r.weak λq=>by(dsimp only[CC]at q;rw[jb]at q);exact q.2)
 .refine ff (B K.1 N j' aj C M eT K' k h F hb hk e) λae k9 g1 H1 Y x1 r1=>?_;refine gA ae k9 g1 H1 ?_ x1 (r1.weak λq=>by(dsimp only[CC]at q;rw[jb]at q);exact q.1);dsimp only[ex];refine J Y ?_;cases K' with|next=>exact g_ X d9|_=>(clear Y;cases g1)<;>first|rfl|exact r1.elim
theorem Ou(Kt:bO KC t)(hB:XSx mu b):∀(σ:a_) (N:St) (j':jS) (C:al) (M eT:aC) (K':kQ),WF N->FR mu N j' aj C M->(∀ n,j' n=R->aj n=R\/k<=n)->k<=N.n->eY (ax t) (aD mu b) σ M=f (eT,K') ->
  XO (eX (ev t) (ex b) σ N C) mu N j' aj eT K' k (CC mu b):=by
 intro w';induction w' with|zero=>intro N j' C M eT K' h F hb hk e;exact nS e|succ σ ih=>
  intro N j' C M eT K' h F hb hk e;revert e;refine tD (λet e=>?_) (λet e=>?_)
  .refine ah (mZ F h Kt et) λae Y x1=>?_;revert e;refine spW (λvs1 v eb e=>?_) (λvs1 fl eb d9 e=>?_) nS
   .refine gI e (ff (hB ae j' aj C M _ _ k x1.wf (F.ext h x1) hb (aR hk x1.le) eb) λT' bh g H' L x2 r=>?_);cases g with|ret z=>exact⟨T',bh,_,H',by(dsimp only[eX];refine J Y ?_;try dsimp only;exact J L X),(F.xp h x1).trans x2,r⟩|_=>exact r.elim
   .refine ff (hB ae j' aj C M _ _ k x1.wf (F.ext h x1) hb (aR hk x1.le) eb) λaq eF g2 H2 L x2 r2=>?_;have X2:=(F.xp h x1).trans x2;refine ff (ih aq H2 eF vs1 eT K' X2.wf X2.fr (X2.low hb hk) (aR hk X2.le) e) λT' bh g H' h3 x3 r3=>gA T' bh g H' ?_ (X2.trans x3) r3;cases fl with|ret v=>exact g_ X (d9 v)|_=>cases g2<;>first|((dsimp only[eX];(refine J Y ?_;try dsimp only;refine J L ?_;try dsimp only;exact J h3 X));done)|exact r2.elim
  .exact gI e (ah (mZ F h Kt et) λae Y x1=>gA ae C .next j' (by(dsimp only[eX];exact J Y X)) (F.xp h x1) Z')
theorem W6(hB:XS mu b):XS mu (.kF t b):=λK N j' aj C M eT K' k h F hb hk e=>by dsimp only[aD]at e;exact ff (Ou K.1 (hB K.2) 100000 N j' C M eT K' h F hb hk e) λT' bh g H' Y x1 r1=>gA T' bh g H' (by(dsimp only[ex];exact J Y X)) x1 r1
set_option tactic.hygienic true in
theorem Qf.same(h:Qf k fr aj N K' g)(hg:∀ i,T'.get i=N.get i)(hm:∀ i o,N.getM i=f o->T'.getM i=f o):Qf k fr aj T' K' g:=by
 cases K'<;>cases g<;>first|trivial|exact h.elim|skip
 rename_i iv z
 refine⟨by refine J (cW hg) ?_;exact h.1,λq=>?_⟩
 have:=h.2 q
 cases iv with|b w=>trivial|list Vs=>(obtain⟨n,Z,a,b,c,d⟩:=this;(exact qJ n Z a b (hm _ _ c) (by refine J (cW hg) ?_;exact d)))|dict bJ=>(obtain⟨n,a,b,c⟩:=this;exact kz n a b (hm _ _ c))|_=>exact this.elim
theorem FR.same(F:FR mu N j' aj C M)(hn:T'.n=N.n)(hg:∀ i,T'.get i=N.get i)(hm:∀ i o,j' i=R->aj i=N'->N.getM i=f o->T'.getM i=f o):FR mu T' j' aj C M where
 len:=F.len
 xh:=F.xh
 hk:=λn q=>by exact J hn (F.hk n q)
 pl:=λi q=>by exact J (cW hg) (F.pl i q)
 ow:=λi q1 q2=>by refine fe (F.ow i q1 q2) λn o e Y L h3 h4=>?_;exact r6 n o e Y L (hm _ _ Y L h3) (by exact J (cW hg) h4)
 ap:=F.ap
theorem Ov(ht:C'.any mu.contains=N')(hB:XSx mu b):∀(Xs:aC) (Z:al) (N:St) (j':jS) (C:al) (M eT:aC) (K':kQ),WF N->FR mu N j' aj C M->(∀ n,j' n=R->aj n=R\/k<=n)->k<=N.n->bZ (view j' N) Xs Z ->
  dQ (cn (aD mu b) C') Xs M=f (eT,K')->XO (lT (ox (ex b) C') Z N C) mu N j' aj eT K' k (CC mu b):=by
 intro w';induction w' with|nil=>(intro Z N j' C M eT K' h F hb hk r e;refine J r.nil_inv ?_;dsimp only[dQ]at e;rw[dN,rP]at e;obtain⟨oN,qv⟩:=e;subst oN;subst qv;exact gA N C .next j' X (F.xp h (Ext.refl h)) Z')|cons iv Xs ih=>
  intro Z N j' C M eT K' h F hb hk r e;refine aW (r.cons_inv) λx ys aL r1 rs=>?_;clear r;subst aL;have turn:∀{vs1:aC} {fl:kQ},cn (aD mu b) C' iv M=f (vs1,fl)->XO (ox (ex b) C' x N C) mu N j' aj vs1 fl k (CC mu b):=fun {vs1 fl} e=>by revert e;exact de (λT5 Z5 e=>ah (F.dr ht r1 Z5) λQ6 Y F4=>ff (hB N j' aj Q6 T5 vs1 fl k h F4 hb hk e) λT' bh g H' L x2 r2=>⟨T',bh,g,H',by(dsimp only[ox];refine J Y ?_;try dsimp only;exact J L X),⟨x2.wf,x2.le,x2.fr,x2.hh,x2.kp⟩,r2⟩)
  dsimp only[dQ]at e;revert e;refine spW (λvs1 v eb e=>?_) (λvs1 fl eb d9 e=>?_) nS
  .refine gI e ?_;refine ff (turn eb) λT' bh g H' L x2 r=>?_;cases g with|ret z=>exact⟨T',bh,_,H',by(dsimp only[lT];exact J L X),x2,r⟩|_=>exact r.elim
  .refine ff (turn eb) λaq eF g2 H2 L x2 r2=>ff (ih ys aq H2 eF vs1 eT K' x2.wf x2.fr (x2.low hb hk) (aR hk x2.le) (rs.mono (x2.view h)) e) λT' bh g H' h3 x3 r3=>gA T' bh g H' ?_ (x2.trans x3) r3;cases fl with|ret v=>exact g_ X (d9 v)|_=>cases g2<;>first|((dsimp only[lT];(refine J L ?_;try dsimp only;exact J h3 X));done)|exact r2.elim
theorem Ec(ht:C'.any mu.contains=N')(hB:XSx mu b)(h:WF N)(F:FR mu N j' aj C M)(hb:∀ n,j' n=R->aj n=R\/k<=n)(hk:k<=N.n)(r:bZ (view j' N) Xs Z)(hl:∀ n,lk=f n->(j' n=N'\/aj n=R)/\∃ e,N.ent n=f e) (e:dQ (cn (aD mu b) C') Xs M=f (eT,K')) :
  XO (j6 N lk (λs2=>lT (ox (ex b) C') Z s2 C)) mu N j' aj eT K' k (CC mu b):=by
 have hl':BK (λO=>N') N lk:=λn q=>⟨X,(hl n q).2⟩;refine Mk (IQ h hl') λae Y L h3 h4 h5 h6=>?_
 have R0:∀ n,lk=f n->j' n=R->aj n=N'->False:=λn q a b=>by
  rcases(hl n q).1 with c|c
  .rw[a]at c;exact tF c
  .rw[b]at c;exact fT c
 have F1:FR mu ae j' aj C M:=F.same h3 h4 λi o a b c=>by(refine J (cN (N:=N) (h5 i λq=>R0 i q a b)) ?_);exact c
 (refine ff (Ov ht hB Xs Z ae j' C M eT K' L F1 hb (by refine J h3 ?_;exact hk) (by refine J (cW h4) ?_;exact r) e) λaq eF g H2 k1 x2 r2=>?_);have Du:∀ n,lk=f n->∃ e,N.ent n=f e/\aq.ent n=f ⟨R,e.obj⟩:=λn q=>by refine ah (h6 n q) λe e1 e2=>?_;(exact aK e e1 (by refine J (x2.kp n (L.lt e2) (hl n q).1) ?_;exact e2))
 (refine Mk (Ai h hl' x2.wf (by refine dR h3 ?_;exact x2.le) Du) λbo m1 m2 m3 m4 m5 m6=>?_);(refine gA bo eF g H2 (by(dsimp only[j6];(refine J Y ?_;try dsimp only;refine J k1 ?_;try dsimp only;exact J m1 X))) ⟨m2,by refine J m3 (dR h3 ?_);exact x2.le,?_,λn q=>by refine dR h3 ?_;exact x2.hh n q,λi hi q=>?_⟩ ?_)
 .refine x2.fr.same m3 m4 λi o a b c=>?_;rw[cN (N:=aq) (m5 i λq=>?_)]
  .exact c
  ·(refine ah (Du i q) λe O e2=>?_);rw[fj c]at e2;cases e2
 .by_cases q2:lk=f i
  .exact m6 i q2
  ·((exact J (m5 i q2) (J (x2.kp i (by refine J h3 ?_;exact hi) q) (J (h5 i q2) X))))
 .refine r2.same m4 λi o c=>?_;rw[cN (N:=aq) (m5 i λq=>?_)]
  .exact c
  ·(refine ah (Du i q) λe O e2=>?_);rw[fj c]at e2;cases e2
set_option tactic.hygienic true in
theorem Qf.sub(h:Qf k fr X' N K' g)(hX:∀ n,aj n=R->X' n=R):Qf k fr aj N K' g:=by
 cases K'<;>cases g<;>first|trivial|exact h.elim|skip
 rename_i iv z
 refine⟨h.1.mono (mX hX),λq=>?_⟩
 have:=h.2 q
 cases iv with|b w=>trivial|list Vs=>(obtain⟨n,Z,a,b,c,d⟩:=this;(exact qJ n Z a b c (d.mono (KF n λi o O=>mX hX i o))))|dict bJ=>(obtain⟨n,a,b,c⟩:=this;exact kz n a b c)|_=>exact this.elim
theorem XP.sub(x:XP mu N T' j' H' X' bh eT)(hX:∀ n,aj n=R->X' n=R):XP mu N T' j' H' aj bh eT where
 wf:=x.wf
 le:=x.le
 fr:=by refine⟨x.fr.len,λn q=>x.fr.xh n (hX n q),x.fr.hk,x.fr.pl,λi q1 q2=>?_,x.fr.ap⟩;refine fe (x.fr.ow i q1 q2) λn o e Y L h3 h4=>r6 n o e Y ?_ h3 h4;cases q:aj n with|false=>rfl|true=>rw[hX n q]at L;exact tF L
 hh:=x.hh
 kp:=λi hi q=>x.kp i hi (q.imp id (hX i))
theorem aaF(hB:XS mu b):XS mu (.gE C' ik it b):=λK N j' aj C M eT K' k h F hb hk e=>by
 have plain:∀{iv:PV} {Xs:aC} {ae:St} {v:AV},C'.any mu.contains=N'->ev it N C=f (ae,v)->Ext N ae->VR (view j' ae) iv v->D3 ik iv=f Xs->dQ (cn (aD mu b) C') Xs M=f (eT,K') ->
   XO (ex (.gE C' ik it b) N C) mu N j' aj eT K' k (CC mu b):=fun {iv Xs ae v} ht Y x1 r1 hi e=>by
  exact aW (IS r1 hi) λZ lk k1 k2 k3=>ff (Ec (k:=k) ht (hB K.2) x1.wf (F.ext h x1) hb (aR hk x1.le) k2 (λn q=>⟨.inl (k3 n q).1,(k3 n q).2⟩) e) λT' bh g H' m1 m2 m3=>⟨T',bh,g,H',by(dsimp only[ex,J1];refine J Y ?_;try dsimp only;refine J k1 ?_;try dsimp only;exact J m1 X),(F.xp h x1).trans m2,m3⟩
 revert e;refine zL nS λht e=>?_;revert e;refine Zg (λi br e=>?_) λe=>?_;subst br;rotate_left;rotate_left
 .revert e;refine Tx (λhm e=>?_) λhm e=>?_
  .revert e;refine Vi (λbr=>?_);clear plain;subst br;refine Fw (λVs hv e=>?_);have d9:bf M i≠.any:=by refine J hv ?_;intro q;cases q
   refine fe (F.ow i hm d9) λn o e1 k1 k2 k3 k4=>?_;rw[hv]at k4;obtain⟨Z,vA,rs⟩:=k4;subst vA
   have F1:FR mu N j' (λm=>aj m||m==n) C (bM M i .any):=by
    have red:∀ j,bf (bM M i .any) j≠.any->i≠j/\bf (bM M i .any) j=bf M j:=λj q=>by
     rw[dA]at q ⊢;split at q;rotate_left
     rename_i aaG
     rotate_left
     .split at q<;>exact g_ X q
     .exact⟨aaG,by exact J (ak aaG) X⟩
    refine⟨by refine J (mY _ _ _) ?_;exact F.len,λm q=>?_,F.hk,λj q=>?_,λj q1 q2=>?_,λj l m q1 q2 q3 q4 q5 q6=>?_⟩
    .rw[qr]at q;rcases q with q|q
     .exact F.xh m q
     .rw[wu]at q;refine J q ?_;exact k1
    .have:i≠j:=by intro yD;subst yD;rw[hm]at q;exact tF q
     refine J (dA _ _ _ _) (J (ak this) ?_);exact F.pl j q
    .obtain⟨a1,a2⟩:=red j q2;rw[a2]at q2 ⊢;refine fe (F.ow j q1 q2) λm o' b1 b2 b3 b4 b5=>r6 m o' b1 b2 ?_ b4 b5;exact J b3 (J (tT9 _) (uJ (by intro Dc;clear k1 k2 k3;subst Dc;exact a1 (F.ap i j _ hm q1 d9 q2 e1 b1))))
    .exact F.ap j l m q1 q2 ((red j q3).2▸q3) ((red l q4).2▸q4) q5 q6
   (refine ff (Ec (k:=k) ht (hB K.2) h F1 (λm q=>(hb m q).imp (λq=>by simp[q]) id) hk rs (lk:=f n) (λm q=>by obtain rfl:=aw q;exact⟨.inr (by simp),_,fj k3⟩) e) λT' bh g H' m1 m2 m3=>?_);(refine gA T' bh g H' ?_ (m2.sub λn q=>by simp[q]) (m3.sub λn q=>by simp[q]));(dsimp only[ex,J1,ev,jc];(refine J e1 ?_;try dsimp only;refine J (cX k3) ?_;try dsimp only;exact J m1 X))
  .revert e;refine de (λXs hi e=>?_);have hp:ax (.var i) M=f (bf M i):=by exact RM (λq=>by rw[q]at hi;(clear K plain;cases ik)<;>exact nS hi) λq=>by rw[q]at hi;(clear K plain;cases ik)<;>exact nS hi
   (refine bA (jw (.var i) K.1 N j' C M _ h F.hk ⟨F.len,λj q=>by(dsimp only[eL]at q;rw[wu]at q);clear K plain hi hp;subst q;exact F.pl j hm⟩ hp) λae v Y x1 r1 O=>?_);exact plain ht Y x1 r1 hi e
 .revert e;refine zL nS λhr e=>?_;revert e;refine ca (λiv hV=>de (λXs hi e=>?_));(refine bA (jw it K.1 N j' C M _ h F.hk (F.Oi hr) hV) λae v Y x1 r1 O=>?_);exact plain ht Y x1 r1 hi e
theorem pd(mu:cf):∀ c:CS,XS mu c:=by intro c;induction c with|assign i e=>exact Oj|bj is e=>exact KI|dd o i e=>exact Om|aug k i e=>exact aaA|iJ k o i e=>exact Oo|ret e=>exact aaB|iff t a b B hb=>exact aaD B hb|kF t b hb=>exact W6 hb|gE C' ik it b hb=>exact aaF hb|cont=>exact W4|qt d k=>exact WX|qu d k=>exact WY|append l e=>exact Oq|extend l e=>exact Ot|sort l=>exact WZ|expr e=>exact W3|raise=>intro K N j' aj C M eT K' k h F hb hk e;exact nS e|skip=>exact W5|seq a b B hb=>exact aaE B hb
theorem xC:∀(n i:a_),bf (bz n) i=.any:=λw'=>by induction w' with|zero=>(intro i;cases i<;>rfl)|succ n ih=>intro z1;cases z1 with|zero=>exact X|succ i=>exact ih i
theorem bZ.slot:∀{Vs:aC} {as:al},bZ W Vs as->∀(m i:a_),VR W (bf (Vs++bz m) i) (ao (as++q8 m) i):=by intro w';cases w' with|nil=>intro O h m i;exact J h.nil_inv (J (CV _) (J (xC _ _) VR.any))|cons iv Vs=>intro O h m z4;cases z4 with|zero=>(refine aW (h.cons_inv) λx r aL a s=>?_;clear h;subst aL);exact a|succ i=>(refine aW (h.cons_inv) λx r aL a s=>?_;clear h;subst aL);exact s.slot m i
theorem Aj:∀(Vs:aC) (m i:a_),Vs.length<=i->bf (Vs++bz m) i=.any:=λw'=>by induction w' with|nil=>intro m i O;exact xC m i|cons iv Vs ih=>intro m z2;cases z2 with|zero=>intro h;simp at h|succ i=>intro h;exact ih m i (by simpa using h)
theorem Ed:∀ n,(q8 n).length=n:=λw'=>by induction w' with|zero=>exact X|succ n ih=>dsimp only[q8];simp[ih]
theorem Ee:∀ n,(bz n).length=n:=λw'=>by induction w' with|zero=>exact X|succ n ih=>dsimp only[bz];simp[ih]
theorem FR.start(hk:tw j' N)(r:bZ (view j' N) Vs as)(more:a_)(LQ:mu.all (λi=>m_ Vs.length i)=R):FR mu N j' j' (as++q8 more) (Vs++bz more) where
 len:=by simp only[oi,oi,Ed,Ee,r.length];exact fB _
 xh:=λO q=>q
 hk:=hk
 pl:=λi O=>r.slot more i
 ow:=λi q1 q2=>by
  rw[mG]at LQ
  have:=LQ i (by simpa using q1)
  exact g_ (Aj Vs more i (iC this)) q2
 ap:=λi j n q1 O q3=>by
  rw[mG]at LQ
  have:=LQ i (by simpa using q1)
  exact g_ (Aj Vs more i (iC this)) q3
theorem R8(LQ:mu.all (λi=>m_ np i)=R)(Ue:fr=R->CC mu ha=R)(K:fg KC ha):Gl (bt np more ha) ⟨prun mu np more ha,fr,N'⟩:=by
 intro N j' as Vs iv h hk r e;replace e:prun mu np more ha Vs=f iv:=e;revert e;refine aZ (λhlen e=>?_) nS;have Fm:as.length=np:=r.length.trans hlen;have F:FR mu N j' j' (as++q8 more) (Vs++bz more):=FR.start hk r more (by exact J hlen LQ);revert e;refine aal (λeT V' ep e=>?_) (λeT ep e=>?_) nS
 .obtain rfl:=aw e;refine ff (pd mu ha K N j' j' _ _ _ _ N.n h F (λn q=>.inl q) (fB _) ep) λT' bh g H' Y x1 r1=>?_;cases g with|ret z=>(refine qJ T' z (by dsimp only[bt];exact J (ai Fm) (J Y X)) ⟨x1.wf,x1.le,λi hi=>x1.kp i hi ?_⟩ r1.1 (λq=>r1.2 (Ue q));cases j' i<;>trivial)|_=>exact r1.elim
 .obtain rfl:=aw e;refine ff (pd mu ha K N j' j' _ _ _ _ N.n h F (λn q=>.inl q) (fB _) ep) λT' bh g H' Y x1 r1=>?_;cases g with|next=>(refine qJ T' .none (by dsimp only[bt];exact J (ai Fm) (J Y X)) ⟨x1.wf,x1.le,λi hi=>x1.kp i hi ?_⟩ (VR.b _) (λO=>Z');cases j' i<;>trivial)|_=>exact r1.elim
theorem Gl.weak(h:Gl F P)(hf:∀ Vs iv,P'.fn Vs=f iv->P.fn Vs=f iv)(Ue:P'.fr=R->P.fr=R):Gl F P':=λN j' as Vs iv w hk r e=>(h N j' as Vs iv w hk r (hf _ _ e)).weak Ue
end
theorem jx{mu:cf}{np more:a_}{ha:CS}{fr:e_}(h:(mu.all (λi=>m_ np i)&&(!fr||CC mu ha))=R)(K:fg KC ha):KC (bt np more ha) ⟨prun mu np more ha,fr,N'⟩:=
 H9 h λa c=>show Gl _ _ from R8 a (λe=>by rw[e]at c;exact c) K
noncomputable def asg (i:a_):CS->e_|.assign j O=>i==j|.bj is O=>is.contains i|.aug O j O'=>i==j|.iff O a b=>(asg i a||asg i b)|.kF O b=>asg i b|.gE C' O O' b=>(C'.contains i||asg i b)|.seq a b=>(asg i a||asg i b)|.dd ..=>N'|.iJ ..=>N'|.ret ..=>N'|.cont=>N'|.qt ..=>N'|.qu ..=>N'|.append ..=>N'|.extend ..=>N'|.sort ..=>N'|.expr ..=>N'|.raise=>N'|.skip=>N'
theorem vk:∀{is:cf} {Z C bh:al},is.contains i=N'->bindL is Z C=f bh->ao bh i=ao C i:=by intro w';induction w' with|nil=>(intro z1;cases z1 with|nil=>intro C bh O e;(dsimp only[bindL]at e;rw[dN]at e);exact J e X|cons O O=>intro O O O e;exact nS e)|cons j is ih=>intro z1;cases z1 with|nil=>intro O O O e;exact nS e|cons x Z=>intro C bh h e;dsimp only[bindL]at e;simp only[List.contains_cons,Jv,HI]at h;exact J (ih h.2 e) (J (bk _ _ _ _) (J (ak (kx h.1)) X))
theorem Ef(h:is.contains i=N')(e:dr is v C=f bh):ao bh i=ao C i:=by
 dsimp only[dr]at e;revert e;refine MA (λO br e=>?_) λe=>?_;subst br;rotate_left;rotate_left
 .obtain rfl:=aw e;simp only[List.contains_cons,List.contains_nil,Jw,HI]at h;exact J (bk _ _ _ _) (J (ak (kx h)) X)
 .revert e;refine uV (λO br e=>?_);subst br;exact vk h e
theorem fO(e:iR r C=f (T',bh,K')):bh=C:=by delta iR at e;revert e;refine dv (λO br e=>?_);subst br;(refine JC e ?_);rfl
theorem Eg{K':AV->St->al->af (St × al × Fl)}(hf:∀ x N C T' bh g,K' x N C=f (T',bh,g)->ao bh i=ao C i):∀(Z:al) (N:St) (C:al) (T':St) (bh:al) (g:Fl),lT K' Z N C=f (T',bh,g)->ao bh i=ao C i:=λw'=>by induction w' with|nil=>intro N C T' bh g e;(dsimp only[lT]at e;simp only[dN,rP]at e);exact J e.2.1 X|cons x Z ih=>
  intro N C T' bh g e;dsimp only[lT]at e;revert e;refine C8 (λO O O Y e=>?_) (λO O O Y e=>?_)
  ·(refine JC e ?_);exact hf _ _ _ _ _ _ Y
  .exact J (ih _ _ _ _ _ e) (J (hf _ _ _ _ _ _ Y) X)
theorem zf{t:St->al->jn}{K':St->al->af (St × al × Fl)}(hf:∀ N C T' bh g,K' N C=f (T',bh,g)->ao bh i=ao C i):∀(n:a_) (N:St) (C:al) (T':St) (bh:al) (g:Fl),eX t K' n N C=f (T',bh,g)->ao bh i=ao C i:=λw'=>by induction w' with|zero=>intro N C T' bh g e;exact nS e|succ n ih=>
  intro N C T' bh g e;dsimp only[eX]at e;revert e;refine r7 (λO O e=>?_) (λO O e=>?_)
  .revert e;refine C8 (λO O O Y e=>?_) (λO O O Y e=>?_)
   ·(refine JC e ?_);exact hf _ _ _ _ _ Y
   .exact J (ih _ _ _ _ _ e) (J (hf _ _ _ _ _ Y) X)
  ·(refine JC e ?_);rfl
theorem pf:∀(c:CS),asg i c=N'->∀(N:St) (C:al) (T':St) (bh:al) (K':Fl),ex c N C=f (T',bh,K')->ao bh i=ao C i:=by
 intro c
 induction c with
 |assign j e=>intro h N C T' bh K' q;dsimp only[ex]at q;revert q;refine aM (λO O O q=>?_);refine dF (oT q) λbr bK fJ=>?_;subst br;subst bK;clear q;subst fJ;rw[bk,ak];rintro rfl;dsimp only[asg]at h;simp at h
 |bj is e=>intro h N C T' bh K' q;dsimp only[ex]at q;revert q;refine qK (λO O O=>dY (λO hb q=>?_));((refine dF (oT q) λbr bK fJ=>?_;subst br;subst bK;clear q;subst fJ));exact vk h hb
 |dd o j e=>intro h N C T' bh K' q;dsimp only[ex]at q;revert q;exact aM (λO O O=>iM (λO O O=>aM (λO O O q=>J (fO q) X)))
 |aug k j e=>intro h N C T' bh K' q;dsimp only[ex]at q;revert q;refine MC (λO O=>C6 (λO O O=>gP (λO O q=>?_)));cases q;rw[bk,ak];rintro rfl;(dsimp only[asg]at h;simp at h)
 |iJ k o j e=>intro h N C T' bh K' q;dsimp only[ex]at q;revert q;exact iM (λO O O=>aM (λO O O=>TA (λO O=>C6 (λO O O=>gP (λO O q=>J (fO q) X)))))
 |ret e=>intro h N C T' bh K' q;dsimp only[ex]at q;revert q;refine aM (λO O O q=>?_);cases q;rfl
 |iff t a b B hb=>
  intro h N C T' bh K' q;dsimp only[asg]at h;rw[Jv]at h;dsimp only[ex]at q;revert q;refine r7 (λO O q=>?_) (λO O q=>?_)
  .exact B h.1 _ _ _ _ _ q
  .exact hb h.2 _ _ _ _ _ q
 |kF t b hb=>intro h N C T' bh K' q;dsimp only[ex]at q;exact zf (λN C T' bh g=>hb h N C T' bh g) _ _ _ _ _ _ q
 |gE C' ik it b hb=>intro h N C T' bh K' q;refine ia λGq zq=>?_;dsimp only[asg]at h;rw[Jv]at h;dsimp only[ex,J1]at q;revert q;refine aM (λO O O=>oM (λO O O q=>?_));dsimp only[j6]at q;revert q;refine dv (λO O=>mJ (λO O Y=>dv (λO O q=>?_)));refine cC (oP q) λaL J0=>?_;subst aL;clear q;subst J0;refine zq ?_;clear zq;refine Eg (λx N C T' bh g e=>?_) _ _ _ _ _ _ Y;dsimp only[ox]at e;revert e;exact dY (λO L e=>J (hb h.2 _ _ _ _ _ e) (J (Ef h.1 L) X))
 |cont=>intro h N C T' bh K' q;(dsimp only[ex]at q;simp only[dN,rP]at q);exact J q.2.1 X
 |qt d k=>intro h N C T' bh K' q;dsimp only[ex]at q;revert q;refine iM (λO O O=>aZ (λO=>aM (λO O O q=>?_)) nS);exact J (fO q) X
 |qu d k=>intro h N C T' bh K' q;dsimp only[ex]at q;revert q;refine iM (λO O O=>aZ (λO=>aM (λO O O q=>?_)) nS);exact J (fO q) X
 |append l e=>intro h N C T' bh K' q;dsimp only[ex]at q;revert q;refine iM (λO O O=>aZ (λO=>aM (λO O O q=>?_)) nS);exact J (fO q) X
 |extend l e=>intro h N C T' bh K' q;dsimp only[ex]at q;revert q;refine iM (λO O O=>aZ (λO=>aM (λO O O q=>?_)) nS);exact J (fO q) X
 |sort l=>intro h N C T' bh K' q;dsimp only[ex]at q;revert q;refine iM (λO O O=>aZ (λO q=>?_) nS);exact J (fO q) X
 |expr e=>intro h N C T' bh K' q;dsimp only[ex]at q;revert q;refine aM (λO O O q=>?_);cases q;rfl
 |raise=>intro h N C T' bh K' q;exact nS q
 |skip=>intro h N C T' bh K' q;(dsimp only[ex]at q;simp only[dN,rP]at q);exact J q.2.1 X
 |seq a b B hb=>
  intro h N C T' bh K' q;dsimp only[asg]at h;rw[Jv]at h;dsimp only[ex]at q;revert q;refine Ze (λO O Y q=>?_) λq=>?_
  .exact J (hb h.2 _ _ _ _ _ q) (J (B h.1 _ _ _ _ _ Y) X)
  .exact B h.1 _ _ _ _ _ q
noncomputable def app:CS->CS->CS|.seq a b,hc=>.seq a (app b hc)|.skip,hc=>hc|c,hc=>.seq c hc
theorem Ow:∀(ρ hc:CS) (N:St) (C:al),ex (app ρ hc) N C=match ex ρ N C with|f (σ1,k9,.next)=>ex hc σ1 k9|r=>r:=by
 intro ρ
 induction ρ with
 |seq a b B hb=>
  intro hc N C;dsimp only[app,ex];rcases ex a N C with _|⟨σ1,k9,K'⟩
  .rfl
  .cases K' with|next=>exact hb hc σ1 k9|_=>rfl
 |skip=>intro hc N C;dsimp only[app,ex]
 |_=>intro hc N C;rfl
noncomputable abbrev ZP:=d_ (a_ × G)
noncomputable def zg:G->e_|.ofNat n=>f_ n 0|.negSucc O=>N'
def fP(c:a_)(n:G):ZP->ZP|[]=>[(c,n)]|p::r=>match f_ p.1 c with|R=>(match zg (Q? p.2 n) with|R=>r|N'=>(c,Q? p.2 n)::r)|N'=>p::fP c n r
noncomputable def mm (c:a_) (n:G):ZP->ZP|[]=>[(c,n)]|p::r=>match f_ p.1 c with|R=>(c,n)::r|N'=>p::mm c n r
noncomputable def oB (c:a_):ZP->ZP|[]=>[]|p::r=>match f_ p.1 c with|R=>r|N'=>p::oB c r
noncomputable def fQ:ZP->a_ × G->a_ × G|[],b=>b|p::r,b=>match m_ p.1 b.1 with|R=>fQ r b|N'=>fQ r p
noncomputable def Yc (c:a_):e_:=f_ (Nat.land (p_ c 546) 2184) 0
noncomputable def pg (l c:a_):e_:=f_ (Nat.land (W_ (p_ c 2184) l) 2184) 2184
def Ak(s:a_)(K':G):ZP->ZP->af ZP|[],h2=>f h2|p::r,h2=>match Yc (p_ p.1 s) with|R=>Ak s K' r (fP (p_ p.1 s) (I? (Int.mul p.2 K')) h2)|N'=>V
def BN(s:a_):ZP->af ZP|[]=>f []|p::r=>match Yc (p_ p.1 s) with|R=>(match BN s r with|f q=>f ((p_ p.1 s,p.2)::q)|V=>V)|N'=>V
structure ZE where
 l:a_
 b:a_
 p:ZP
def j9(c:a_):d_ ZE->af ZE|[]=>V|e::r=>match pg e.l c with|R=>f e|N'=>j9 c r
noncomputable def zbd (b:a_):e_:=m_ b 1000000000
def Eh(Ls:d_ ZE):a_->a_->ZP->ZP->af (a_ × ZP)|0,O,O',O''=>V|n+1,b,D',left=>match left with|[]=>f (b,D')|p::r=>match fQ r p with|(c,a)=>match j9 c Ls with|V=>Eh Ls n b (mm c a D') (oB c left)|f e=>match zbd (p_ b (x? a.natAbs e.b)) with|R=>(match Ak (W_ c e.l) a e.p left with|f vl=>Eh Ls n (p_ b (x? a.natAbs e.b)) D' vl|V=>V)|N'=>V
noncomputable def Ox:ZP->ZP|[]=>[]|p::r=>(p.1,I? p.2)::Ox r
def rq(b:a_)(P:ZP):af ZE:=match P with|[]=>V|p::r=>match fQ r p with|(c,.ofNat n)=>(match f_ n 1 with|R=>f ⟨c,b,P⟩|N'=>V)|(c,.negSucc n)=>match f_ n 0 with|R=>f ⟨c,b,Ox P⟩|N'=>V
noncomputable def lA (a b:a_):a_:=match m_ a b with|R=>b|N'=>a
noncomputable def lL (a b:a_):a_:=match m_ a b with|R=>a|N'=>b
def eM(a b:a_):a_:=p_ (x? (lA (G? a 256) (G? b 256)) 256) (p_ (x? (lA (o? (G? a 16) 16) (o? (G? b 16) 16)) 16) (lA (o? a 16) (o? b 16)))
def tY(a b:a_):e_:=match f_ (lL (G? a 256) (G? b 256)) 0 with|R=>(match f_ (lL (o? (G? a 16) 16) (o? (G? b 16) 16)) 0 with|R=>f_ (lL (o? a 16) (o? b 16)) 0|N'=>N')|N'=>N'
def Oy(K' g:ZE):af (a_ × ZP):=match zbd (p_ K'.b g.b) with|R=>(match BN (W_ (eM K'.l g.l) K'.l) K'.p with|f S=>(match Ak (W_ (eM K'.l g.l) g.l) 1 g.p S with|f hc=>f (p_ K'.b g.b,hc)|V=>V)|V=>V)|N'=>V
noncomputable def Oz:d_ ZE->a_->af ZE|[],O=>V|e::r,i=>match f_ i 0 with|R=>f e|N'=>Oz r (W_ i 1)
structure ZW where
 j:a_
 i:a_
 k:a_
noncomputable def OA (a b:ZW):e_:=match m_ b.j a.j with|N'=>R|R=>match m_ a.j b.j with|N'=>N'|R=>match m_ b.i a.i with|N'=>R|R=>match m_ a.i b.i with|N'=>N'|R=>s_ a.k b.k
def cY:d_ ZW->ZW->ZW|[],b=>b|w::r,b=>match OA w b with|R=>cY r w|N'=>cY r b
noncomputable def sK (a b:ZW):e_:=match f_ a.i b.i with|R=>f_ a.k b.k|N'=>N'
def eU(w:ZW):d_ ZW->d_ ZW|[]=>[]|v::r=>match sK v w with|R=>eU w r|N'=>v::eU w r
noncomputable def zh (i k:a_):d_ ZW->e_|[]=>N'|v::r=>match f_ v.i i with|R=>(match f_ v.k k with|R=>R|N'=>zh i k r)|N'=>zh i k r
def vm(w:ZW)(W:d_ ZW):a_->d_ ZE->e_|O,[]=>N'|at_,e::r=>match f_ at_ w.i||f_ at_ w.k||!(pg e.l w.j) with|R=>vm w W (g? at_) r|N'=>match zh (lL w.i at_) (lA w.i at_) W||zh (lL w.k at_) (lA w.k at_) W with|R=>vm w W (g? at_) r|N'=>R
def mq(l n:a_):a_->d_ ZE->d_ ZW|O,[]=>[]|i,e::r=>⟨eM e.l l,i,n⟩::mq l n (g? i) r
def Ei:a_->d_ ZE->d_ ZW->af (d_ ZE)|0,O,O'=>V|m+1,Bs,W=>match W with|[]=>f Bs|v::r=>match cY r v with|w=>match eU w W with|W'=>match Oz Bs w.i with|V=>V|f K'=>match Oz Bs w.k with|V=>V|f g=>match tY K'.l g.l||vm w W' 0 Bs with|R=>Ei m Bs W'|N'=>match Oy K' g with|V=>V|f (b,S)=>match Eh Bs 200 b [] S with|V=>V|f (b,hc)=>match hc with|[]=>Ei m Bs W'|_=>match rq b hc with|V=>V|f e=>Ei m (Bs++[e]) (W'++mq e.l Bs.length 0 Bs)
def oE(c:a_):d_ ZE->e_|[]=>N'|e::r=>match pg e.l c with|R=>R|N'=>oE c r
def nO:d_ ZE->d_ ZE->d_ ZE|O,[]=>[]|Ps,e::r=>match oE e.l Ps||oE e.l (r.filter λd=>!(f_ d.l e.l)) with|R=>nO (Ps++[e]) r|N'=>e::nO (Ps++[e]) r
def Go:d_ ZE->d_ ZE->af (d_ ZE)|[],Ds=>f Ds|e::r,Ds=>match Eh Ds 200 e.b [] e.p with|V=>V|f (b,hc)=>match rq b hc with|V=>V|f d=>Go r (Ds++[d])
noncomputable def BO:d_ ZE->e_|e::d::r=>(match s_ d.l e.l with|R=>BO (d::r)|N'=>N')|_=>R
def Al(K' g:ZP):af (d_ ZE):=match rq 2 K' with
 |V=>V
 |f e=>match rq 2 g with
  |V=>V
  |f d=>match Ei 200 [e,d] [⟨eM e.l d.l,0,1⟩]with
   |V=>V
   |f Bs=>match nO [] Bs with
    |Ms=>match BO Ms&&(m_ 2 Ms.length&&s_ Ms.length 64) with
     |N'=>V
     |R=>match Go Ms.reverse []with
      |V=>V
      |f Ds=>f (Ds.filter λe=>e.p.all λp=>s_ p.1 256)
def eo(a:a_):a_->aA->ZP|O,[]=>[]|i,c::r=>match zg c with|R=>eo a (g? i) r|N'=>(x? i 256,I? c)::eo a (g? i) r
def jM(p:aA):ZP:=(16,1)::eo 0 0 p
def kJ(p:aA):ZP:=(1,1)::eo 0 0 p
section
variable{β:Type}{r:β}{Y':Prop}
theorem W8{F:ZE->af β}:(∀ e,x=f e->F e=f r->Y')->(match x with |V=>V|f e=>F e)=f r->Y':=by intro k;cases x with|none=>(exact λh=>nomatch h)|some e=>exact k e X
theorem zsL{F:d_ ZE->af β}:(∀ e,x=f e->F e=f r->Y')->(match x with |V=>V|f e=>F e)=f r->Y':=by intro k;cases x with|none=>(exact λh=>nomatch h)|some e=>exact k e X
theorem zsP{F:a_->ZP->af β}:(∀ b e,x=f (b,e)->F b e=f r->Y')->(match x with |V=>V|f (b,e)=>F b e)=f r->Y':=by
 intro k;rcases x with _|⟨b,e⟩
 .exact λh=>nomatch h
 .exact k b e X
theorem zsZ{F:ZP->af β}:(∀ e,x=f e->F e=f r->Y')->(match x with|f e=>F e |V=>V)=f r->Y':=by intro k;cases x with|none=>(exact λh=>nomatch h)|some e=>exact k e X
theorem zsN{j':ZP->af β}:(x=[]->F=f r->Y')->(x≠[]->j' x=f r->Y')->(match x with|[]=>F|x=>j' x)=f r->Y':=by intro k l;cases x with|nil=>exact k X|cons p x=>exact l (λh=>nomatch h)
end
def fR(adR:aC->fm):aC->fm
 |[.dict bJ,.b (.tup k),.b (.tup r)]=>match keyOf k with
  |f ks=>match (match jR bJ ks with|f v=>adR [.b v,.b (.tup r)] |V=>f (.b (.tup r))) with|f (.b t)=>(match fw ⟨0,.nil⟩ .eq t (.tup [.int 0,.int 1]) with|f R=>if bJ.length<=lim then f (.dict (lK bJ ks)) else .none|f N'=>if bJ.length<=lim then f (.dict (iI bJ ks t)) else .none|V=>V)|_=>V
  |V=>V
 |_=>V
def xD(OC:aC->fm)(T:CE)(D1 D2:CS):a_->aC->d_ (c9)->fm
 |0,O,O'=>V
 |n+1,M,qs=>match ax T M with
  |f (.b (.bool R))=>match aD [6,7] D1 M with
   |f (vs1,.cont)=>xD OC T D1 D2 n vs1 qs
   |f (vs1,.next)=>match bf vs1 9 with
    |.b (.int (.ofNat i))=>match qs[i]? with
     |f q=>match bf vs1 12 with
      |.b k=>match bf vs1 13 with
       |.b r=>match OC [.dict q,.b k,.b r]with
        |f (.dict q')=>match aD [6,7] D2 vs1 with|f (vs2,.next)=>xD OC T D1 D2 n vs2 (qs.set i q')|_=>V
        |_=>V
       |_=>V
      |_=>V
     |V=>V
    |_=>V
   |_=>V
  |f (.b (.bool N'))=>match bf M 6 with|.dict hc=>f (.dict hc)|_=>V
  |_=>V
def jy(OC:aC->fm)(M1 M4:CS)(T:CE)(D1 D2:CS):aC->fm
 |[.dict K',.list Bs,.b (.str o)]=>match aD [6,7] M1 ([.dict K',.list Bs,.b (.str o)]++bz 16) with
  |f (vs1,.next)=>match tu .dict [.dict K']with
   |f (.dict f')=>match aD [6,7] M4 (bM (bM (bM vs1 6 (.dict [])) 7 (.dict f')) 8 (.b (.int 0))) with|f (T5,.next)=>if Bs.length<=lim then xD OC T D1 D2 100000 T5 (k_ Bs.length []) else .none|_=>V
   |_=>V
  |_=>V
 |_=>V
end Mine.Internal
end
section
open PySem PyProof.Rows
namespace Mine.Internal
def pq(np more:a_)(ha:CS)(fr:e_):gy:=⟨prun [] np more ha,fr,N'⟩
noncomputable abbrev bw:CE:=.var 0
noncomputable abbrev aS:CE:=.var 1
noncomputable abbrev cJ:CE:=.var 2
noncomputable abbrev cA:CE:=.var 3
noncomputable abbrev jf:CE:=.var 4
noncomputable abbrev kb:CE:=.var 5
noncomputable abbrev lM:CE:=.var 6
noncomputable abbrev rQ:CE:=.var 7
noncomputable abbrev tx:CE:=.var 8
noncomputable abbrev yA:CE:=.var 9
noncomputable abbrev iX:CE:=.var 10
noncomputable abbrev mr:CE:=.var 11
noncomputable abbrev Gp:CE:=.var 12
noncomputable abbrev tZ:CE:=.var 13
noncomputable abbrev xE:CE:=.var 14
noncomputable abbrev Ej:CE:=.var 15
noncomputable abbrev ph:CE:=.var 16
noncomputable abbrev m7:CE:=.var 17
noncomputable abbrev aaH:CE:=.var 18
noncomputable abbrev bC:CE:=.k (.int 0)
noncomputable abbrev bQ:CE:=.k (.int 1)
noncomputable abbrev nx:CE:=.k (.int 2)
noncomputable abbrev BP:CE:=.k (.int 3)
noncomputable abbrev zI4:CE:=.k (.int 4)
noncomputable abbrev zI5:CE:=.k (.int 5)
noncomputable abbrev zI7:CE:=.k (.int 7)
noncomputable abbrev R9:CE:=.k (.int 12)
noncomputable abbrev KJ:CE:=.k (.int 13)
noncomputable abbrev aaI:CE:=.k (.int 64)
noncomputable abbrev aaJ:CE:=.k (.int 200)
noncomputable abbrev W9:CE:=.k (.int 4096)
noncomputable abbrev bx (a:CE):CE:=.cons a .nil
noncomputable abbrev aO (a b:CE):CE:=.cons a (.cons b .nil)
noncomputable abbrev iB (a b c:CE):CE:=.cons a (.cons b (.cons c .nil))
noncomputable abbrev Sa (a b c d:CE):CE:=.cons a (.cons b (.cons c (.cons d .nil)))
def pj:CS:=(.seq (.iff (.cmp .eq bw (.k (.str 0))) (.seq (.ret aS)
 .skip) .skip)
 (.seq (.iff (.cmp .eq bw (.k (.str 1))) (.seq (.ret (.bin .add (.bc (bx (.bi .sum (bx aS)))) aS))
 .skip) .skip)
 (.seq (.iff (.cmp .eq bw (.k (.str 2))) (.seq (.ret (.bin .add (.bc (bx (.bi .sum (bx aS)))) (.bi .tuple (bx (.bq (.neg cJ) [2] .plain .bad)))))
 .skip) .skip)
 (.seq .raise
 .skip))))
def pk:Fn:=bt 2 1 pj
def d0:gy:=pq 2 1 pj N'
abbrev d5(a:CE):CE:=.call "order_key" pk d0 a
def cF:CS:=(.seq (.bj [3,4] (.bc (aO (.k .none) (.k .none))))
 (.seq (.gE [2] .plain bw (.seq (.assign 5 (d5 (aO aS cJ)))
 (.seq (.iff (.or (.isNone R cA) (.cmp .gt kb jf)) (.seq (.bj [3,4] (.bc (aO cJ kb)))
 .skip) .skip)
 .skip)))
 (.seq (.ret (.ite (.isNone R cA) (.k .none) (.bc (aO cA (.idx bw cA)))))
 .skip)))
def xF:Fn:=bt 2 4 cF
def eN:gy:=pq 2 4 cF N'
abbrev bN(a:CE):CE:=.call "mvlead" xF eN a
def cG:CS:=(.seq (.gE [2,3] .enum bw (.seq (.iff (.cmp .gt cA (.idx aS cJ)) (.seq (.ret (.k (.bool N')))
 .skip) .skip)
 .skip))
 (.seq (.ret (.k (.bool R)))
 .skip))
def gV:Fn:=bt 2 2 cG
def cH:gy:=pq 2 2 cG N'
abbrev m8(a:CE):CE:=.call "powers_divide" gV cH a
def bI:CS:=(.seq (.gE [2,3] .enum aS (.seq (.iff (.and (.isNone N' cA) (m8 (aO (.idx cA bC) bw))) (.seq (.ret cJ)
 .skip) .skip)
 .skip))
 (.seq (.ret (.neg bQ))
 .skip))
def kc:Fn:=bt 2 2 bI
def cO:gy:=pq 2 2 bI N'
abbrev eO(a:CE):CE:=.call "first_divisor" kc cO a
def kK:CS:=(.seq (.ret (.cmp .ge (eO (aO bw (.bq (.bc (aO cJ (.glob "R1" (.tup [.int 1,.int 1])))) [2] .plain aS))) bC))
 .skip)
def nP:Fn:=bt 2 1 kK
def gk:gy:=pq 2 1 kK N'
abbrev zi(a:CE):CE:=.call "is_divided" nP gk a
def cv:CS:=(.seq (.assign 2 (.bR iX [10] .plain bw (.cmp .gt (.bi .len (bx iX)) bC)))
 (.seq (.assign 3 (.bq (.idx (bN (aO yA aS)) bC) [9] .plain cJ))
 (.seq (.assign 4 (.lst .nil))
 (.seq (.gE [5,6] .enum cA (.seq (.assign 7 (.bin .add (.gJ cA kb) (.bR tx [8] .plain (.fq cA (.bin .add kb bQ)) (.cmp .ne tx lM))))
 (.seq (.iff (.not (zi (aO lM rQ))) (.seq (.append 4 (.idx cJ kb))
 .skip) .skip)
 .skip)))
 (.seq (.ret jf)
 .skip)))))
def kg:Fn:=bt 2 9 cv
def kh:gy:=⟨prun [4] 2 9 cv,R,N'⟩
abbrev t7(a:CE):CE:=.call "minimal_basis" kg kh a
def lW:CS:=(.seq (.bj [0,1] (.bc (aO (.bi .abs (bx bw)) (.bi .abs (bx aS)))))
 (.seq (.kF (.cmp .ne aS bC) (.seq (.bj [0,1] (.bc (aO aS (.bin .mod bw aS))))
 .skip))
 (.seq (.ret bw)
 .skip)))
def OD:Fn:=bt 2 0 lW
def Am:gy:=pq 2 0 lW N'
abbrev xG(a:CE):CE:=.call "gcd" OD Am a
def pn:CS:=(.seq (.iff (.cmp .eq aS bC) (.seq .raise
 .skip) .skip)
 (.seq (.assign 2 (.ite (.cmp .gt aS bC) (xG (aO bw aS)) (.bin .sub bC (xG (aO bw aS)))))
 (.seq (.ret (.bc (aO (.bin .fdiv bw cJ) (.bin .fdiv aS cJ))))
 .skip)))
def OE:Fn:=bt 2 1 pn
def IX:gy:=pq 2 1 pn N'
abbrev BQ(a:CE):CE:=.call "rat" OE IX a
def BR:CS:=(.seq (.ret (BQ (aO (.bin .mul (.idx bw bC) (.idx aS bC)) (.bin .mul (.idx bw bQ) (.idx aS bQ)))))
 .skip)
def Gr:Fn:=bt 2 0 BR
def BS:gy:=pq 2 0 BR N'
abbrev IY(a:CE):CE:=.call "rmul" Gr BS a
def ij:CS:=(.seq (.iff (.cmp .eq aS (.glob "R0" (.tup [.int 0,.int 1]))) (.seq (.ret .gz)
 .skip) .skip)
 (.seq (.ret (.jT cJ (IY (aO (.idx bw cJ) aS)) [2] .plain bw))
 .skip))
def t8:Fn:=bt 2 1 ij
def t9:gy:=pq 2 1 ij R
abbrev Gs(a:CE):CE:=.call "mvscale" t8 t9 a
def xH:CS:=(.seq (.ret (BQ (aO (.idx bw bQ) (.idx bw bC))))
 .skip)
def Gu:Fn:=bt 1 0 xH
def rz:gy:=pq 1 0 xH N'
abbrev BT(a:CE):CE:=.call "rinv" Gu rz a
def p7:CS:=(.seq (.assign 2 (bN (aO bw aS)))
 (.seq (.ret (.ite (.isNone R cJ) .gz (Gs (aO bw (BT (bx (.idx cJ bQ)))))))
 .skip))
def ua:Fn:=bt 2 1 p7
def gn:gy:=pq 2 1 p7 R
abbrev fS(a:CE):CE:=.call "mvmonic" ua gn a
def xI:CS:=(.seq (.ret (BQ (aO (.bin .add (.bin .mul (.idx bw bC) (.idx aS bQ)) (.bin .mul (.idx aS bC) (.idx bw bQ))) (.bin .mul (.idx bw bQ) (.idx aS bQ)))))
 .skip)
def Gv:Fn:=bt 2 0 xI
def pv:gy:=pq 2 0 xI N'
abbrev IZ(a:CE):CE:=.call "radd" Gv pv a
def nQ:CS:=(.seq (.assign 3 (.ite (.isin R aS bw) (IZ (aO (.idx bw aS) cJ)) cJ))
 (.seq (.iff (.cmp .eq cA (.glob "R0" (.tup [.int 0,.int 1]))) (.seq (.qt 0 aS)
 .skip) (.seq (.dd 0 aS cA)
 .skip))
 .skip))
def jz:Fn:=bt 3 1 nQ
def cZ:gy:=⟨fR pv.fn,N',R⟩
abbrev vo(a:CE):CE:=.call "add_term" jz cZ a
def gW:CS:=(.seq (.assign 2 (.bi .dict (bx bw)))
 (.seq (.gE [3] .plain aS (.seq (.expr (vo (iB cJ cA (.idx aS cA))))
 .skip))
 (.seq (.ret cJ)
 .skip)))
def BU:Fn:=bt 2 2 gW
def BV:gy:=⟨prun [2] 2 2 gW,R,N'⟩
abbrev OF(a:CE):CE:=.call "mvadd" BU BV a
def Gw:CS:=(.seq (.ret (.bc (aO (.bin .sub bC (.idx bw bC)) (.idx bw bQ))))
 .skip)
def Gy:Fn:=bt 1 0 Gw
def BW:gy:=pq 1 0 Gw N'
abbrev Sb(a:CE):CE:=.call "rneg" Gy BW a
def p8:CS:=(.seq (.ret (.jT aS (Sb (bx (.idx bw aS))) [1] .plain bw))
 .skip)
def BX:Fn:=bt 1 1 p8
def BY:gy:=pq 1 1 p8 R
abbrev OG(a:CE):CE:=.call "mvneg" BX BY a
def v7:CS:=(.seq (.ret (OF (aO bw (OG (bx aS)))))
 .skip)
def BZ:Fn:=bt 2 0 v7
def qa:gy:=pq 2 0 v7 R
abbrev Ek(a:CE):CE:=.call "mvsub" BZ qa a
def An:CS:=(.seq (.assign 1 bC)
 (.seq (.gE [2] .plain (.bc (iB W9 aaI bQ)) (.seq (.assign 3 (.bin .pow nx cJ))
 (.seq (.kF (.cmp .ge bw cA) (.seq (.bj [0,1] (.bc (aO (.bin .fdiv bw cA) (.bin .add aS cJ))))
 .skip))
 .skip)))
 (.seq (.ret (.bin .add aS bw))
 .skip)))
def uc:Fn:=bt 1 3 An
noncomputable def Ao:gy:=⟨λO=>V,N',N'⟩
abbrev Gz(a:CE):CE:=.call "bits_of" uc Ao a
def qc:CS:=(.seq (.assign 1 (.bi .max2 (aO (.bi .abs (bx (.idx bw bC))) (.idx bw bQ))))
 (.seq (.ret (.and (.cmp .ge aS (.bin .pow nx aaI)) (.cmp .gt (Gz (bx aS)) (.glob "MOST_BITS" (.int 200000)))))
 .skip))
def ud:Fn:=bt 1 1 qc
def qd:gy:=pq 1 1 qc N'
abbrev GA(a:CE):CE:=.call "is_vast" ud qd a
def iY:CS:=(.seq (.ret (.bi .tuple (bx (.bq (.bin .sub cA (.idx aS cJ)) [2,3] .enum bw))))
 .skip)
def iZ:Fn:=bt 2 2 iY
def ck:gy:=pq 2 2 iY N'
abbrev g8(a:CE):CE:=.call "powers_quotient" iZ ck a
def xJ:CS:=(.seq (.ret (BQ (aO (.bin .mul (.idx bw bC) (.idx aS bQ)) (.bin .mul (.idx bw bQ) (.idx aS bC)))))
 .skip)
def GC:Fn:=bt 2 0 xJ
def B0:gy:=pq 2 0 xJ N'
abbrev Sd(a:CE):CE:=.call "rdiv" GC B0 a
def jA:CS:=(.seq (.ret (.bi .tuple (bx (.bq (.bin .add cA (.idx aS cJ)) [2,3] .enum bw))))
 .skip)
def jB:Fn:=bt 2 2 jA
def gr:gy:=pq 2 2 jA N'
abbrev sL(a:CE):CE:=.call "powers_product" jB gr a
def ip:CS:=(.seq (.iff (.cmp .eq cJ (.glob "R0" (.tup [.int 0,.int 1]))) (.seq (.ret .gz)
 .skip) .skip)
 (.seq (.ret (.jT (sL (aO cA aS)) (IY (aO (.idx bw cA) cJ)) [3] .plain bw))
 .skip))
def ue:Fn:=bt 3 1 ip
def jC:gy:=pq 3 1 ip R
abbrev rA(a:CE):CE:=.call "mvshift" ue jC a
def di:CS:=(.assign 3 (.bq (bN (aO xE cJ)) [14] .plain aS))
def lX:CS:=(.assign 4 (.bq .gz [15] .plain aS))
def lY:CS:=(.bj [6,7,8] (.bc (iB .gz (.bi .dict (bx bw)) bC)))
def dj:CS:=(.assign 5 (.bi .yC (bx (.bin .add (.lst (bx (.glob "MOST_FAR" (.int 20000)))) (.dH m7 [16] .plain bw [17] .plain ph)))))
def dK:CE:=(.cmp .gt (.bi .len (bx rQ)) bC)
def fU:CS:=(.bj [10,11] (bN (aO rQ cJ)))
def fV:CS:=(.aug .add 8 (.bi .len (bx rQ)))
def fW:CS:=(.iff (.or (.cmp .gt tx (.glob "MOST_WORK" (.int 3000000))) (.or (GA (bx mr)) (.bi .any (bx (.bq (.cmp .gt aaH kb) [18] .plain iX))))) (.seq .raise
 .skip) .skip)
def fX:CS:=(.assign 9 (eO (aO iX cA)))
def fY:CS:=(.iff (.cmp .lt yA bC) (.seq (.dd 6 iX mr)
 (.seq (.qu 7 iX)
 (.seq .cont
 .skip))) .skip)
def iq:CS:=(.bj [12,13] (.bc (aO (g8 (aO iX (.idx (.idx cA yA) bC))) (Sd (aO mr (.idx (.idx cA yA) bQ))))))
def pz:CS:=(.expr (vo (iB (.idx jf yA) Gp tZ)))
def jY:CS:=(.assign 7 (Ek (aO rQ (rA (iB (.idx aS yA) Gp tZ)))))
def pA:CS:=(.ret (.bc (aO jf lM)))
def cP:CS:=.seq fU (.seq fV (.seq fW (.seq fX (.seq fY (.seq iq .skip)))))
def dC:CS:=.seq jY .skip
def nR:CS:=(.seq di (.seq lX (.seq lY (.seq dj (.seq (.kF dK (.seq fU (.seq fV (.seq fW (.seq fX (.seq fY (.seq iq (.seq pz (.seq jY .skip))))))))) (.seq pA .skip))))))
def nT:Fn:=bt 3 16 nR
noncomputable def GD:gy:=⟨λO=>V,N',N'⟩
abbrev El(a:CE):CE:=.call "mvdivide" nT GD a
def nc:CS:=(.seq (.ret (.idx (El (iB bw aS cJ)) bQ))
 .skip)
def qe:Fn:=bt 3 0 nc
def kR:gy:=⟨jy cZ.fn di dj dK cP dC,R,N'⟩
abbrev g9(a:CE):CE:=.call "rest_of" qe kR a
def ct:CS:=(.seq (.assign 2 (t7 (aO bw aS)))
 (.seq (.assign 3 (.bq (.bc (aO (d5 (aO aS (.idx (bN (aO tx aS)) bC))) rQ)) [7,8] .enum cJ))
 (.seq (.sort 3)
 (.seq (.assign 4 (.lst .nil))
 (.seq (.gE [5,6] .plain cA (.seq (.append 4 (fS (aO (g9 (iB (.idx cJ lM) jf aS)) aS)))
 .skip))
 (.seq (.ret jf)
 .skip))))))
def lB:Fn:=bt 2 7 ct
def lC:gy:=⟨prun [3,4] 2 7 ct,R,N'⟩
abbrev ki(a:CE):CE:=.call "reduced_form" lB lC a
def mv:CS:=(.seq (.ret (.bi .tuple (bx (.bq (.bi .max2 (aO cA (.idx aS cJ))) [2,3] .enum bw))))
 .skip)
def mx:Fn:=bt 2 2 mv
def eu:gy:=pq 2 2 mv N'
abbrev lD(a:CE):CE:=.call "powers_join" mx eu a
def nU:CS:=(.seq (.assign 3 (lD (aO (.idx aS (.idx bw bC)) (.idx aS (.idx bw bQ)))))
 (.seq (.ret (.bc (aO (d5 (aO cJ cA)) bw)))
 .skip))
def rC:Fn:=bt 3 1 nU
def hF:gy:=pq 3 1 nU N'
abbrev Em(a:CE):CE:=.call "pair_key" rC hF a
def bS:CS:=(.seq (.bj [4,5] (.bc (aO (.k .none) (.k .none))))
 (.seq (.gE [3] .plain bw (.seq (.assign 6 (Em (iB cA aS cJ)))
 (.seq (.iff (.or (.isNone R jf) (.cmp .lt lM kb)) (.seq (.bj [4,5] (.bc (aO cA lM)))
 .skip) .skip)
 .skip)))
 (.seq (.ret jf)
 .skip)))
def nV:Fn:=bt 3 4 bS
def kL:gy:=pq 3 4 bS N'
abbrev zj(a:CE):CE:=.call "least_pair" nV kL a
def my:CS:=(.seq (.ret (.bi .tuple (bx (.bq (.bi .min2 (aO cA (.idx aS cJ))) [2,3] .enum bw))))
 .skip)
def mz:Fn:=bt 2 2 my
def mA:gy:=pq 2 2 my N'
abbrev pB(a:CE):CE:=.call "powers_meet" mz mA a
def lZ:CS:=(.seq (.ret (.cmp .eq (.bi .sum (bx (pB (aO bw aS)))) bC))
 .skip)
def pC:Fn:=bt 2 0 lZ
def jZ:gy:=pq 2 0 lZ N'
abbrev B2(a:CE):CE:=.call "are_apart" pC jZ a
def cg:CS:=(.seq (.bj [4,5] bw)
 (.seq (.iff (B2 (aO (.idx cJ jf) (.idx cJ kb))) (.seq (.ret (.k (.bool R)))
 .skip) .skip)
 (.seq (.assign 3 (lD (aO (.idx cJ jf) (.idx cJ kb))))
 (.seq (.gE [6,7] .enum cJ (.seq (.iff (.or (.isin R lM bw) (.not (m8 (aO rQ cA)))) (.seq .cont
 .skip) .skip)
 (.seq (.iff (.and (.isin N' (.bc (aO (.bi .min2 (aO jf lM)) (.bi .max2 (aO jf lM)))) aS) (.isin N' (.bc (aO (.bi .min2 (aO kb lM)) (.bi .max2 (aO kb lM)))) aS)) (.seq (.ret (.k (.bool R)))
 .skip) .skip)
 .skip)))
 (.seq (.ret (.k (.bool N')))
 .skip)))))
def mB:Fn:=bt 3 5 cg
def jN:gy:=pq 3 5 cg N'
abbrev xK(a:CE):CE:=.call "is_needless" mB jN a
def sM:CS:=(.seq (.bj [5,6] (.bc (aO (bN (aO bw cJ)) (bN (aO aS cJ)))))
 (.seq (.assign 3 (lD (aO (.idx kb bC) (.idx lM bC))))
 (.seq (.assign 4 (rA (iB bw (g8 (aO cA (.idx kb bC))) (BT (bx (.idx kb bQ))))))
 (.seq (.ret (Ek (aO jf (rA (iB aS (g8 (aO cA (.idx lM bC))) (BT (bx (.idx lM bQ))))))))
 .skip))))
def xM:Fn:=bt 3 4 sM
def pD:gy:=pq 3 4 sM R
abbrev KL(a:CE):CE:=.call "s_poly" xM pD a
def c0:CS:=(.seq (.assign 3 (.bR (fS (aO xE aS)) [14] .plain bw (.cmp .gt (.bi .len (bx xE)) bC)))
 (.seq (.assign 4 (.bq (.idx (bN (aO tZ aS)) bC) [13] .plain cA))
 (.seq (.assign 5 (.dH (.bc (aO Gp mr)) [11] .range (.bi .len (bx cA)) [12] .range mr))
 (.seq (.assign 6 bC)
 (.seq (.kF (.cmp .gt (.bi .len (bx kb)) bC) (.seq (.assign 7 (zj (iB kb jf aS)))
 (.seq (.assign 5 (.bR iX [10] .plain kb (.cmp .ne iX rQ)))
 (.seq (.iff (xK (iB rQ kb jf)) (.seq .cont
 .skip) .skip)
 (.seq (.aug .add 6 bQ)
 (.seq (.iff (.cmp .gt lM cJ) (.seq .raise
 .skip) .skip)
 (.seq (.assign 8 (g9 (iB (KL (iB (.idx cA (.idx rQ bC)) (.idx cA (.idx rQ bQ)) aS)) cA aS)))
 (.seq (.iff (.cmp .gt (.bi .len (bx tx)) bC) (.seq (.extend 5 (.bq (.bc (aO yA (.bi .len (bx cA)))) [9] .range (.bi .len (bx cA))))
 (.seq (.append 3 (fS (aO tx aS)))
 (.seq (.append 4 (.idx (bN (aO tx aS)) bC))
 .skip))) .skip)
 .skip))))))))
 (.seq (.ret cA)
 .skip))))))
def rD:Fn:=bt 3 12 c0
def rE:gy:=⟨prun [3,4,5] 3 12 c0,R,N'⟩
abbrev j0(a:CE):CE:=.call "groebner" rD rE a
def gX:CS:=(.seq (.ret (ki (aO (j0 (iB bw aS cJ)) aS)))
 .skip)
def kj:Fn:=bt 3 0 gX
def kl:gy:=pq 3 0 gX R
abbrev jD(a:CE):CE:=.call "reduced_basis" kj kl a
def kM:CS:=(.seq (.ret (.bi .all (bx (.bq (.cmp .eq (.bi .sum (bx (.gJ cJ aS))) bC) [2] .plain bw))))
 .skip)
def nW:Fn:=bt 2 1 kM
def nX:gy:=pq 2 1 kM N'
abbrev gO(a:CE):CE:=.call "is_free_of" nW nX a
def l3:CS:=(.seq (.ret (.bR cA [3] .plain (jD (iB bw (.k (.str 0)) cJ)) (gO (aO cA aS))))
 .skip)
def pE:Fn:=bt 3 1 l3
def l4:gy:=pq 3 1 l3 R
abbrev B3(a:CE):CE:=.call "eliminate" pE l4 a
def dy:CS:=(.seq (.assign 2 (.idx bw bQ))
 (.seq (.dd 0 bQ (.bin .add cJ bQ))
 (.seq (.iff (.cmp .lt cJ (.bi .len (bx (.idx bw bC)))) (.seq (.ret (.bin .mod (.bi .abs (bx (.idx (.idx bw bC) cJ))) aS))
 .skip) .skip)
 (.seq (.ret (.bin .mod (.idx (.bc (.cons bQ (.cons bC (.cons bQ (.cons bQ (.cons bQ (.cons bQ (.cons bC (.cons bQ (Sa zI5 zI4 BP nx)))))))))) (.bin .mod cJ R9)) aS))
 .skip))))
def c6:Fn:=bt 2 1 dy
noncomputable def fc:gy:=⟨λO=>V,N',N'⟩
def nY:CS:=(.seq (.ret (.bin .add (.bq (.bin .sub (.call "_law_draw" c6 fc (aO bw BP)) bQ) [2] .range aS) (.lst (bx bQ))))
 .skip)
def jE:Fn:=bt 2 1 nY
noncomputable def nZ:gy:=⟨λO=>V,N',N'⟩
def i6:CS:=(.seq (.assign 1 (.bi .len (bx bw)))
 (.seq (.kF (.and (.cmp .gt aS bC) (.cmp .eq (.idx bw (.bin .sub aS bQ)) bC)) (.seq (.aug .sub 1 bQ)
 .skip))
 (.seq (.ret (.bi .list (bx (.gJ bw aS))))
 .skip)))
def B4:Fn:=bt 1 1 i6
def B5:gy:=pq 1 1 i6 R
abbrev En(a:CE):CE:=.call "ztrim" B4 B5 a
def uf:CS:=(.seq (.assign 2 (.bi .max2 (aO (.bi .len (bx bw)) (.bi .len (bx aS)))))
 (.seq (.ret (En (bx (.bq (.bin .add (.ite (.cmp .lt cA (.bi .len (bx bw))) (.idx bw cA) bC) (.ite (.cmp .lt cA (.bi .len (bx aS))) (.idx aS cA) bC)) [3] .range cJ))))
 .skip))
def GG:Fn:=bt 2 2 uf
def GH:gy:=pq 2 2 uf R
abbrev v8(a:CE):CE:=.call "zadd" GG GH a
def GI:CS:=(.seq (.iff (.or (.cmp .eq (.bi .len (bx bw)) bC) (.cmp .eq (.bi .len (bx aS)) bC)) (.seq (.ret (.lst .nil))
 .skip) .skip)
 (.seq (.assign 2 (.bin .mul (.lst (bx bC)) (.bin .sub (.bin .add (.bi .len (bx bw)) (.bi .len (bx aS))) bQ)))
 (.seq (.gE [3,4] .enum bw (.seq (.iff (.cmp .ne jf bC) (.seq (.gE [5,6] .enum aS (.seq (.iJ .add 2 (.bin .add cA kb) (.bin .mul jf lM))
 .skip))
 .skip) .skip)
 .skip))
 (.seq (.ret cJ)
 .skip))))
def GJ:Fn:=bt 2 5 GI
def OH:gy:=⟨prun [2] 2 5 GI,R,N'⟩
abbrev Se(a:CE):CE:=.call "zmul" GJ OH a
def rF:CS:=(.seq (.assign 2 (.lst .nil))
 (.seq (.gE [3] .rev bw (.seq (.assign 2 (v8 (aO (Se (aO cJ aS)) (En (bx (.lst (bx cA)))))))
 .skip))
 (.seq (.ret cJ)
 .skip)))
def rG:Fn:=bt 2 2 rF
def jF:gy:=pq 2 2 rF N'
abbrev ir(a:CE):CE:=.call "zcompose" rG jF a
def dk:CS:=(.seq (.assign 2 (.kX (.bc (iB bC (.bin .sub bQ aS) aS)) (.bc (aO bQ bQ))))
 (.seq (.gE [3,4] .enum bw (.seq (.iff (.cmp .ne jf bC) (.seq (.dd 2 (.bc (iB cA bC bC)) (.bc (aO (.bin .sub bC jf) bQ)))
 .skip) .skip)
 .skip))
 (.seq (.ret cJ)
 .skip)))
def fZ:Fn:=bt 2 3 dk
def eV:gy:=⟨prun [2] 2 3 dk,R,N'⟩
def qf:CS:=(.seq (.ret (.bin .sub (.bi .len (bx bw)) bQ))
 .skip)
def ug:Fn:=bt 1 0 qf
def uh:gy:=pq 1 0 qf N'
abbrev ba(a:CE):CE:=.call "zdegree" ug uh a
def iu:CS:=(.seq (.assign 1 bC)
 (.seq (.gE [2] .plain bw (.seq (.assign 1 (xG (aO aS cJ)))
 .skip))
 (.seq (.ret aS)
 .skip)))
def ui:Fn:=bt 1 2 iu
def uj:gy:=pq 1 2 iu N'
abbrev GK(a:CE):CE:=.call "gcd_all" ui uj a
def n4:CS:=(.seq (.ret (GK (bx bw)))
 .skip)
def rH:Fn:=bt 1 0 n4
def n5:gy:=pq 1 0 n4 N'
abbrev vt(a:CE):CE:=.call "zcontent" rH n5 a
def dm:CS:=(.seq (.iff (.cmp .eq (.bi .len (bx bw)) bC) (.seq .raise
 .skip) .skip)
 .skip)
def lE:Fn:=bt 1 0 dm
def f5:gy:=pq 1 0 dm N'
abbrev oz(a:CE):CE:=.call "check_bottom" lE f5 a
def v9:CS:=(.seq (.ret (.ite (.cmp .gt (.bi .len (bx bw)) bC) (.idx bw (.neg bQ)) bC))
 .skip)
def B6:Fn:=bt 1 0 v9
def B7:gy:=pq 1 0 v9 N'
abbrev ng(a:CE):CE:=.call "zlead" B6 B7 a
def B8:CS:=(.seq (.ret (.bq (.neg aS) [1] .plain bw))
 .skip)
def GL:Fn:=bt 1 1 B8
def GN:gy:=pq 1 1 B8 R
abbrev sO(a:CE):CE:=.call "zneg" GL GN a
def B9:CS:=(.seq (.ret (v8 (aO bw (sO (bx aS)))))
 .skip)
def GO:Fn:=bt 2 0 B9
def GP:gy:=pq 2 0 B9 R
abbrev kN(a:CE):CE:=.call "zsub" GO GP a
def sP:CS:=(.seq (.ret (.ite (.cmp .ne aS bC) (.bq (.bin .mul cJ aS) [2] .plain bw) (.lst .nil)))
 .skip)
def xN:Fn:=bt 2 1 sP
def xO:gy:=pq 2 1 sP R
abbrev iw(a:CE):CE:=.call "zscale" xN xO a
def sQ:CS:=(.seq (.ret (.ite (.cmp .gt (.bi .len (bx bw)) bC) (.bin .add (.bin .mul (.lst (bx bC)) aS) (.bi .list (bx bw))) (.lst .nil)))
 .skip)
def xP:Fn:=bt 2 0 sQ
def xQ:gy:=pq 2 0 sQ R
abbrev Ap(a:CE):CE:=.call "zraise" xP xQ a
def fh:CS:=(.seq (.expr (oz (bx aS)))
 (.seq (.assign 2 (.bi .max2 (aO bC (.bin .add (.bin .sub (.bi .len (bx bw)) (.bi .len (bx aS))) bQ))))
 (.seq (.bj [4,5,6,7] (.bc (Sa (.bi .list (bx bw)) (.lst .nil) cJ (ng (bx aS)))))
 (.seq (.kF (.cmp .ge (.bi .len (bx jf)) (.bi .len (bx aS))) (.seq (.bj [8,9] (.bc (aO (.idx jf (.neg bQ)) (.bin .sub (.bi .len (bx jf)) (.bi .len (bx aS))))))
 (.seq (.assign 5 (kN (aO (iw (aO kb rQ)) (Ap (aO (.lst (bx (.neg tx))) yA)))))
 (.seq (.assign 4 (kN (aO (iw (aO jf rQ)) (Ap (aO (iw (aO aS tx)) yA)))))
 (.seq (.aug .sub 6 bQ)
 .skip)))))
 (.seq (.assign 3 (.bin .pow rQ lM))
 (.seq (.ret (.bc (iB (iw (aO kb cA)) (iw (aO jf cA)) cJ)))
 .skip))))))
def xR:Fn:=bt 2 8 fh
def xS:gy:=pq 2 8 fh N'
abbrev uk(a:CE):CE:=.call "pseudo" xR xS a
def f7:CS:=(.seq (.bj [3,4,5] (uk (aO bw aS)))
 (.seq (.assign 2 (.bin .sub (.bin .add (.bin .sub (ba (bx bw)) (ba (bx aS))) bQ) kb))
 (.seq (.ret (.bq (.bin .mul lM (.bin .pow (ng (bx aS)) cJ)) [6] .plain jf))
 .skip)))
def pF:Fn:=bt 2 5 f7
def l5:gy:=pq 2 5 f7 R
abbrev Ca(a:CE):CE:=.call "full_rest" pF l5 a
def qg:CS:=(.seq (.ret (.bq (.bin .fdiv cJ aS) [2] .plain bw))
 .skip)
def um:Fn:=bt 2 1 qg
def uo:gy:=pq 2 1 qg R
abbrev f9(a:CE):CE:=.call "divided" um uo a
def cI:CS:=(.seq (.bj [4,5] (.bc (aO bQ bQ)))
 (.seq (.kF (.cmp .gt (ba (bx aS)) bC) (.seq (.assign 6 (.bin .sub (ba (bx bw)) (ba (bx aS))))
 (.seq (.iff (.and (.cmp .eq (.bin .mod (ba (bx bw)) nx) bQ) (.cmp .eq (.bin .mod (ba (bx aS)) nx) bQ)) (.seq (.assign 2 (.neg cJ))
 .skip) .skip)
 (.seq (.assign 7 (Ca (aO bw aS)))
 (.seq (.bj [0,1] (.bc (aO aS (f9 (aO rQ (.bin .mul jf (.bin .pow kb lM)))))))
 (.seq (.assign 4 (ng (bx bw)))
 (.seq (.iff (.cmp .gt lM bC) (.seq (.assign 5 (.bin .fdiv (.bin .pow jf lM) (.bin .pow kb (.bin .sub lM bQ))))
 .skip) .skip)
 .skip)))))))
 (.seq (.iff (.cmp .eq aS (.lst .nil)) (.seq (.ret bC)
 .skip) .skip)
 (.seq (.assign 3 (ba (bx bw)))
 (.seq (.ret (.bin .mul cJ (.ite (.cmp .gt cA bC) (.bin .fdiv (.bin .pow (.idx aS bC) cA) (.bin .pow kb (.bin .sub cA bQ))) bQ)))
 .skip)))))
def km:Fn:=bt 3 5 cI
def kn:gy:=pq 3 5 cI N'
abbrev nh(a:CE):CE:=.call "row_resultant" km kn a
def cD:CS:=(.seq (.iff (.or (.cmp .eq bw (.lst .nil)) (.cmp .eq aS (.lst .nil))) (.seq (.ret bC)
 .skip) .skip)
 (.seq (.assign 2 bQ)
 (.seq (.iff (.cmp .lt (ba (bx bw)) (ba (bx aS))) (.seq (.bj [0,1] (.bc (aO aS bw)))
 (.seq (.assign 2 (.ite (.and (.cmp .eq (.bin .mod (ba (bx bw)) nx) bQ) (.cmp .eq (.bin .mod (ba (bx aS)) nx) bQ)) (.neg bQ) bQ))
 .skip)) .skip)
 (.seq (.bj [4,5] (.bc (aO (vt (bx bw)) (vt (bx aS)))))
 (.seq (.assign 3 (.bin .mul (.bin .pow jf (ba (bx aS))) (.bin .pow kb (ba (bx bw)))))
 (.seq (.ret (.bin .mul cA (nh (iB (f9 (aO bw jf)) (f9 (aO aS kb)) cJ))))
 .skip))))))
def pG:Fn:=bt 2 4 cD
def pH:gy:=pq 2 4 cD N'
abbrev n6(a:CE):CE:=.call "resultant" pG pH a
def l6:CS:=(.seq (.ret (.bi .sum (bx (.bq (.bin .mul (.bin .mul (.idx (.idx bw cA) bC) (.bin .pow aS (.idx cA bQ))) (.bin .pow cJ (.idx cA nx))) [3] .plain bw))))
 .skip)
def d6:Fn:=bt 3 1 l6
def d7:gy:=pq 3 1 l6 N'
def vu:CS:=(.seq (.assign 2 bC)
 (.seq (.gE [3] .rev bw (.seq (.assign 2 (.bin .add (.bin .mul cJ aS) cA))
 .skip))
 (.seq (.ret cJ)
 .skip)))
def OI:Fn:=bt 2 2 vu
def OJ:gy:=pq 2 2 vu N'
abbrev kr(a:CE):CE:=.call "zat" OI OJ a
def OK:CS:=(.assign 1 (.lst (aO (.bq (.bi .int (bx Ej)) [15] .plain (.gJ bw KJ)) bC)))
def Cb:CS:=(.bj [6,7] (.idx (.bc (iB (.bc (aO bQ nx)) (.bc (aO nx BP)) (.bc (aO bQ BP)))) (.call "_law_draw" c6 fc (aO aS BP))))
def OL:CS:=(.bj [8,9] (.bc (aO (.bin .add bQ (.call "_law_draw" c6 fc (aO aS nx))) (.bin .sub (.call "_law_draw" c6 fc (aO aS BP)) bQ))))
def OM:CS:=(.bj [10,11] (.bc (aO (.call "_law_line" jE nZ (aO aS lM)) (.call "_law_line" jE nZ (aO aS rQ)))))
def uq:CS:=(.iff (.and (.cmp .eq tx nx) (.cmp .eq (.bc (aO lM rQ)) (.bc (aO bQ nx)))) (.seq (.bj [10,11] (.bc (aO (ir (aO iX (.lst (iB bC yA bQ)))) (ir (aO mr (.lst (iB bC yA bQ)))))))
 .skip) (.seq (.assign 8 bQ)
 .skip))
def xT:CS:=(.assign 2 (B3 (iB (.lst (aO (.call "_law_given" fZ eV (aO iX bC)) (.call "_law_given" fZ eV (aO mr bQ)))) bQ aaJ)))
def xU:CS:=(.iff (.or (.cmp .ne (.bi .len (bx cJ)) bQ) (.cmp .ne (bN (aO (.idx cJ bC) (.k (.str 0)))) (.bc (aO (.bc (iB bC rQ bC)) (.bc (aO bQ bQ)))))) (.seq (.ret (.k (.bool N')))
 .skip) .skip)
def xV:CS:=(.assign 3 (.idx cJ bC))
def xW:CS:=(.iff (.cmp .gt (.bi .len (bx (.bR bQ [16] .plain cA (.or (.cmp .ne (.idx (.idx cA ph) bQ) bQ) (.cmp .ne (.idx ph bC) bC))))) bC) (.seq (.ret (.k (.bool N')))
 .skip) .skip)
def sR:CS:=(.iff (.cmp .ne (.bR m7 [17] .plain (.bc (.cons (.neg nx) (Sa (.neg bQ) bC bQ nx))) (.cmp .ne (.call "_law_value" d6 d7 (iB cA (kr (aO iX m7)) (kr (aO mr m7)))) bC)) (.lst .nil)) (.seq (.ret (.k (.bool N')))
 .skip) .skip)
def sS:CS:=(.assign 4 (.bin .sub bQ (.bin .mul (.bin .mod (.bin .mul (ba (bx mr)) (.bin .add (ba (bx iX)) bQ)) nx) nx)))
def GQ:CS:=(.bj [13,14] (.bc (aO (.bin .sub (.call "_law_draw" c6 fc (aO aS zI7)) BP) (.bin .sub (.call "_law_draw" c6 fc (aO aS zI7)) BP))))
def xX:CS:=(.assign 12 (.bin .mul jf (.bin .pow (.call "_law_value" d6 d7 (iB cA tZ xE)) tx)))
def xY:CS:=(.iff (.cmp .ne (n6 (aO (kN (aO iX (.ite (.cmp .ne tZ bC) (.lst (bx tZ)) (.lst .nil)))) (kN (aO mr (.ite (.cmp .ne xE bC) (.lst (bx xE)) (.lst .nil)))))) Gp) (.seq (.ret (.k (.bool N')))
 .skip) .skip)
def ON:CS:=(.seq GQ (.seq xX (.seq xY .skip)))
def Cc:CS:=.gE [5] .range nx ON
noncomputable def I8:CS:=(.ret (.k (.bool R)))
def Eo:CS:=(.seq OK (.seq Cb (.seq OL (.seq OM (.seq uq (.seq xT (.seq xU (.seq xV (.seq xW (.seq sR (.seq sS (.seq Cc (.seq I8 .skip)))))))))))))
def Uh:Fn:=bt 1 17 Eo
end Mine.Internal
end
section
open PySem
namespace Mine.Internal
theorem GR:KC uc Ao:=by intro N j' as Vs iv h hk r e;exact nS e
theorem n7:KC pk d0:=jx X (by repeat' first|exact Z'|apply h_)
theorem ix:KC xF eN:=jx X (by repeat' first|exact Z'|exact n7|apply h_)
theorem ni:KC gV cH:=jx X (by repeat' first|exact Z'|apply h_)
theorem nj:KC kc cO:=jx X (by repeat' first|exact Z'|exact ni|apply h_)
theorem zl:KC nP gk:=jx X (by repeat' first|exact Z'|exact nj|apply h_)
theorem ur:KC kg kh:=jx X (by repeat' first|exact Z'|exact ix|exact zl|apply h_)
theorem OO:KC OD Am:=jx X (by repeat' first|exact Z'|apply h_)
theorem Cd:KC OE IX:=jx X (by repeat' first|exact Z'|exact OO|apply h_)
theorem Ja:KC Gr BS:=jx X (by repeat' first|exact Z'|exact Cd|apply h_)
theorem GU:KC t8 t9:=jx X (by repeat' first|exact Z'|exact Ja|apply h_)
theorem Jb:KC Gu rz:=jx X (by repeat' first|exact Z'|exact Cd|apply h_)
theorem xZ:KC ua gn:=jx X (by repeat' first|exact Z'|exact ix|exact GU|exact Jb|apply h_)
theorem Sf:KC Gv pv:=jx X (by repeat' first|exact Z'|exact Cd|apply h_)
theorem vx:KC jz cZ:=by
 show WL jz cZ;intro N j' n o as iv V' Vs h hk hH hm q r e;replace e:fR pv.fn (iv::Vs)=f V':=e;revert e;refine MJ (λbJ k rr heq e=>?_);cases heq;refine aW (r.v5) λx y aL rx ry=>?_;clear r;subst aL;refine J rx.bF (J ry.bF ?_);have ho:o=.dict bJ:=q;clear q;subst ho;revert e;refine fx (λks IK=>oK (λt ht e=>?_))
 have step:∃ ae,ev (.ite (.isin R aS bw) (IZ (aO (.idx bw aS) cJ)) cJ) N [.ref n,.tup k,.tup rr,.ub]=f (ae,t)/\Ext N ae:=by
  have P9:ev (.isin R aS bw) N [.ref n,.tup k,.tup rr,.ub]=f (N,.bool ((jR bJ ks).isSome)):=by dsimp only[ev,ao,Ft];simp[cX hm,IK]
  cases hd:jR bJ ks with|none=>rw[hd]at ht P9;simp only[dN,PV.b.injEq]at ht;clear e;subst ht;refine⟨N,?_,Ext.refl h⟩;dsimp only[ev]at P9 ⊢;simp -iota only [Option.isSome_none]at P9 ⊢;refine J P9 ?_;dsimp only[ao]|some v=>
   rw[hd]at ht P9;refine bA (Sf N j' [v,.tup rr] [.b v,.b (.tup rr)] _ h hk (bZ.cons (VR.b _) (bZ.cons (VR.b _) bZ.nil)) ht) λae z Y L h3 O=>?_;rw[h3.bF]at Y;refine⟨ae,?_,L⟩;have Ep:ev (aO (.idx bw aS) cJ) N [.ref n,.tup k,.tup rr,.ub]=f (N,.tup [v,.tup rr]):=by dsimp only[ev,ao,ib];simp[cX hm,IK,hd]
   exact Nm.trans (J P9 (J2.trans (J Ep Y)))
 obtain⟨ae,Y,x1⟩:=step;have hm1:ae.getM n=f (.dict bJ):=J (cN (x1.ent n (hk n hH))) hm;have hd1:Qc ae n=R:=by(dsimp only[Qc];exact J (cX hm1) X)
 have run:jz N [.ref n,.tup k,.tup rr]=(match ex (.seq (.iff (.cmp .eq cA (.glob "R0" (.tup [.int 0,.int 1]))) (.seq (.qt 0 aS) .skip) (.seq (.dd 0 aS cA) .skip)) .skip) ae [.ref n,.tup k,.tup rr,t]with
   |f (s1,O,.ret v)=>f (s1,v)
   |f (s1,O,.next)=>f (s1,.none)
   |_=>V):=by
  show(match ex nQ N [.ref n,.tup k,.tup rr,.ub]with
   |f (s1,O,.ret v)=>f (s1,v)
   |f (s1,O,.next)=>f (s1,.none)
   |_=>V)=_
  have:ex nQ N [.ref n,.tup k,.tup rr,.ub]=ex (.seq (.iff (.cmp .eq cA (.glob "R0" (.tup [.int 0,.int 1]))) (.seq (.qt 0 aS) .skip) (.seq (.dd 0 aS cA) .skip)) .skip) ae [.ref n,.tup k,.tup rr,t]:=by refine J sr (J Dw (J Y ?_));rfl
  exact J this X
 have fin:∀ Sg,∃ T',ae.set n (.dict Sg)=f T'/\WF T'/\N.n<=T'.n/\T'.getM n=f (.dict Sg)/\∀ i,i<N.n->i≠n->T'.ent i=N.ent i:=λSg=>by exact ky (sH x1.wf (x1.wf.lt (fj hm1)) ⟨N',.dict Sg⟩) λT' s1 s2 s3 s4=>⟨T',s1,s2,by refine J s3 ?_;exact x1.le,iV (by exact J (s4 _) (J (ai X) X)),λi hi d9=>by exact J (s4 _) (J (ak d9) (x1.ent i hi))⟩
 have ht3:∃ ts,t=.tup ts:=by cases t with|tup ts=>exact⟨ts,X⟩|_=>exact nS e
 obtain⟨ts,eE⟩:=ht3;clear ht Y;subst eE;revert e;refine Ie (λU' e=>?_) (λU' e=>?_)
 .revert e;refine aZ (λhl e=>?_) nS;obtain rfl:=aw e;refine zI (fin (lK bJ ks)) λT' s1 s2 s3 s4 s5=>⟨T',.dict (lK bJ ks),?_,s2,s3,s4,X,s5⟩;refine J run ?_;dsimp only[ex,ev,ao,zS,iR];simp only[tW U',hd1,gv,hm1,IK,Bool.true_or,ai hl,s1]
 .revert e;refine aZ (λhl e=>?_) nS;obtain rfl:=aw e;refine zI (fin (iI bJ ks (.tup ts))) λT' s1 s2 s3 s4 s5=>⟨T',.dict (iI bJ ks (.tup ts)),?_,s2,s3,s4,X,s5⟩;refine J run ?_;dsimp only[ex,ev,ao,uS,iR];simp only[tW U',hm1,IK,ai hl,s1]
theorem OP:KC BU BV:=jx X (by repeat' first|exact Z'|exact vx|apply h_)
theorem Sh:KC Gy BW:=jx X (by repeat' first|exact Z'|apply h_)
theorem OQ:KC BX BY:=jx X (by repeat' first|exact Z'|exact Sh|apply h_)
theorem Er:KC BZ qa:=jx X (by repeat' first|exact Z'|exact OP|exact OQ|apply h_)
theorem GV:KC ud qd:=jx X (by repeat' first|exact Z'|exact GR|apply h_)
theorem lF:KC iZ ck:=jx X (by repeat' first|exact Z'|apply h_)
theorem Si:KC GC B0:=jx X (by repeat' first|exact Z'|exact Cd|apply h_)
theorem sT:KC jB gr:=jx X (by repeat' first|exact Z'|apply h_)
theorem x8:KC ue jC:=jx X (by repeat' first|exact Z'|exact sT|exact Ja|apply h_)
section
variable{mu:cf}{j' H' aj:jS}{N T' ae aq:St}{C:al}{M:aC}{k:a_}
theorem FR.outside(F:FR mu N j' aj C M)(h:WF N)(hn:aj n=R)(L:WF T')(h3:N.n<=T'.n)(he:∀ i,i<N.n->i≠n->T'.ent i=N.ent i):FR mu T' j' aj C M:=by
 have vw:∀ m o,view j' N m=f o->view j' T' m=f o:=λm o e=>by obtain⟨q1,q2⟩:=aF e;refine dw q1 ?_;((refine J (dx (N:=N) (he m (lz h q2) (by intro qv;clear he;subst qv;rw[F.xh _ hn]at q1;exact tF q1))) ?_));exact q2
 refine⟨F.len,F.xh,λm q=>eA (F.hk m q) h3,λi q=>(F.pl i q).mono vw,λi q1 q2=>?_,F.ap⟩;refine fe (F.ow i q1 q2) λm o e k1 k2 k3 k4=>?_;exact r6 m o e k1 k2 (by(refine J (cN (N:=N) (he m (F.hk m k1) (by intro vA;clear he;subst vA;rw[hn]at k2;exact tF k2))) ?_);exact k3) (k4.mono vw)
structure QS(N:St)(aj:jS)(C:al)(q:a_)(ms:cf)(qs:d_ (c9)):Prop where
 slot:ao C 4=.ref q
 xq:aj q=R
 gq:N.get q=f (.list (ms.map .ref))
 nd:ms.Nodup
 qn:q∉ms
 len:qs.length=ms.length
 lim:ms.length<=lim
 xm:∀ m∈ms,aj m=R
 gm:∀(i m:a_) (bJ:c9),ms[i]?=f m->qs[i]?=f bJ->N.getM m=f (.dict bJ)
theorem QS.keep(Q:QS N aj C q ms qs)(h:WF N)(hs:ao bh 4=ao C 4)(he:∀ i,i<N.n->aj i=R->T'.ent i=N.ent i):QS T' aj bh q ms qs:=
 ⟨hs.trans Q.slot,Q.xq,by refine J (dx (he q (lz h Q.gq) Q.xq)) ?_;exact Q.gq,Q.nd,Q.qn,Q.len,Q.lim,Q.xm,λi m bJ Y L=>by
  have:=Q.gm i m bJ Y L
  exact J (cN (he m (h.lt (fj this)) (Q.xm m (dU Y)))) this⟩
theorem OR(hP:WL F P)(KT:bO KC T)(K1:fg KC D1)(K2:fg KC D2)(a1:asg 4 D1=N')(a2:asg 4 D2=N')(hP2:∀ iv Us V',P.fn (iv::Us)=f V'->∃ ts rs,Us=[.b (.tup ts),.b (.tup rs)])(h7:W7=.expr (.call "add_term" F P (iB (.idx jf yA) Gp tZ))) {q:a_} {ms:cf} :
  ∀(σ:a_) (N:St) (j':jS) (C:al) (M:aC) (qs:d_ (c9)) (iv:PV),WF N->FR [6,7] N j' aj C M->(∀ n,j' n=R->aj n=R\/k<=n)->k<=N.n->QS N aj C q ms qs->xD P.fn T D1 D2 σ M qs=f iv ->
   ∃ T' bh r hc,eX (ev T) (ex (app D1 (.seq W7 D2))) σ N C=f (T',bh,.next)/\iv=.dict hc/\WF T'/\N.n<=T'.n/\ao bh 4=.ref q/\ao bh 6=.ref r/\aj r=N'/\k<=r/\T'.getM r=f (.dict hc)/\∀ i,i<N.n->(j' i=N'\/aj i=R)->i∉ms->T'.ent i=N.ent i:=by
 intro w';induction w' with|zero=>intro N j' C M qs iv h F hb hk Q e;exact nS e|succ σ ih=>
  intro N j' C M qs iv h F hb hk Q e;refine YL λGq kq=>?_;revert e;refine tD (λet e=>?_) (λet e=>?_)
  .refine ah (mZ F h KT et) λae Y x1=>?_;have F1:=F.ext h x1;have Q1:QS ae aj C q ms qs:=Q.keep h X λi hi O=>x1.ent i hi;revert e;refine aam (λvs1 ed e=>?_) (λvs1 ed e=>?_) nS
   .refine ff (pd [6,7] D1 K1 ae j' aj C M vs1 .cont k x1.wf F1 hb (aR hk x1.le) ed) λaq eF g H2 L x2 r2=>?_;have hg:g=.cont:=by(clear L;cases g)<;>first|rfl|exact r2.elim
    clear r2;subst hg;have X2:=(F.xp h x1).trans x2;refine ia λGq zq=>?_;obtain⟨T',bh,r,hc,e1,e2,e3,e4,e5,e6,e7,e8,e9,e10⟩:=ih aq H2 eF vs1 qs iv X2.wf X2.fr (X2.low hb hk) (aR hk X2.le) (Q1.keep x1.wf (pf D1 a1 _ _ _ _ _ L) λi hi hx=>x2.kp i hi (.inr hx)) e;refine zq ?_;clear zq;(refine kq T' bh r hc ?_ e2 e3 (aR X2.le e4) e5 e6 e7 e8 e9 (λi hi hh hm=>?_))
    ·(dsimp only[eX];simp only[Y,Ow,L]);exact e1
    .rw[e10 i (eA hi X2.le) ?_ hm,X2.kp i hi hh];rcases hh with hh|hh
     .left;cases w:H2 i with|false=>rfl|true=>
       rcases X2.hh i w with y|y
       .rw[hh]at y;exact fT y
       .lia
     .exact .inr hh
   .refine ff (pd [6,7] D1 K1 ae j' aj C M vs1 .next k x1.wf F1 hb (aR hk x1.le) ed) λaq eF g H2 L x2 r2=>?_;have hg:g=.next:=by(clear L;cases g)<;>first|rfl|exact r2.elim
    refine ia λGq zq=>?_;clear r2;subst hg;have X2:=(F.xp h x1).trans x2;have Q2:QS aq aj eF q ms qs:=Q1.keep x1.wf (pf D1 a1 _ _ _ _ _ L) λi hi hx=>x2.kp i hi (.inr hx);revert e;refine Vk (λi hv9=>C9 (λqk hqk=>Fv (λkk adU=>Fv (λrr adV=>MK (λq' hq'=>N8 (λvs2 ed2 e=>?_) nS)))));refine gx (hP2 _ _ _ hq') λts rs hUs=>?_;cases hUs;have s9:=x2.fr.pl 9 (by decide);rw[hv9]at s9;have s12:=x2.fr.pl 12 (by decide);rw[adU]at s12;have s13:=x2.fr.pl 13 (by decide);rw[adV]at s13;refine zq ?_;clear zq;have hil:i<ms.length:=by refine dR Q2.len ?_;exact(mi.mp hqk).1
    have hmi:ms[i]?=f ms[i]:=lJ hil;have fC:ms[i]∈ms:=UL hil;have Ep:ev (iB (.idx jf yA) Gp tZ) aq eF=f (aq,.tup [.ref ms[i],.tup ts,.tup rs]):=by(dsimp only[ev,ib,Mt];simp only[Q2.slot,s9.bF,s12.bF,s13.bF,Q2.gq,cw,Q2.lim,gv,mH,hmi,zD])
    have gmi:=Q2.gm i _ _ hmi hqk;refine oq (hP aq aj ms[i] _ [.tup ts,.tup rs] (.dict qk) (.dict q') _ X2.wf X2.fr.xk (Q2.xm _ fC) gmi X (bZ.cons (VR.b _) (bZ.cons (VR.b _) bZ.nil)) hq') λbo o' m1 m2 m3 m4 m5 m6=>?_;have qw:o'=.dict q':=m5;subst qw;have F3:=X2.fr.outside X2.wf (Q2.xm _ fC) m2 m3 m6;have h7':ex W7 aq eF=f (bo,eF,.next):=by refine J h7 ?_;dsimp only[ex,ev]at Ep ⊢;(refine J Ep ?_;try dsimp only;exact J m1 X;try dsimp only)
    have Q3:QS bo aj eF q ms (qs.set i q'):=by
     refine⟨Q2.slot,Q2.xq,?_,Q2.nd,Q2.qn,by refine J List.length_set ?_;exact Q2.len,Q2.lim,Q2.xm,λj m bJ g1 g2=>?_⟩
     ·((refine J (dx (m6 q (lz X2.wf Q2.gq) (by intro yD;clear ih Q kq Q1;subst yD;exact Q2.qn fC))) ?_));exact Q2.gq
     .by_cases hj:j=i
      .clear hv9 hqk e s9 fC Ep gmi m1 m6;subst hj;rw[hmi]at g1;obtain rfl:=aw g1;rw[List.getElem?_set_self (by refine J Q2.len ?_;exact hil)]at g2;obtain rfl:=aw g2;exact m4
      .rw[List.getElem?_set_ne (kx hj)]at g2;have gj:=Q2.gm j m bJ g1 g2;rw[cN (m6 m (X2.wf.lt (fj gj)) ?_)]
       .exact gj
       .intro hh;rw[hh]at g1;obtain⟨l1,l2⟩:=mi.mp g1;exact hj ((UK Q2.nd).mp l2)
    refine ff (pd [6,7] D2 K2 bo H2 aj eF vs1 vs2 .next k m2 F3 (X2.low hb hk) (aR hk (aR X2.le m3)) ed2) λiy Q6 g H4 h4 x4 r4=>?_;have hg:g=.next:=by(clear h4;cases g)<;>first|rfl|exact r4.elim
    clear r4;subst hg;have Sj:∀ n,H4 n=R->aj n=R\/k<=n:=x4.low (X2.low hb hk) (aR hk (aR X2.le m3))
    obtain⟨T',bh,r,hc,e1,e2,e3,e4,e5,e6,e7,e8,e9,e10⟩:=ih iy H4 Q6 vs2 (qs.set i q') iv x4.wf x4.fr Sj (aR hk (aR X2.le (aR m3 x4.le)))
     (Q3.keep m2 (pf D2 a2 _ _ _ _ _ h4) λi hi hx=>x4.kp i hi (.inr hx)) e
    have aaK:N.n<=iy.n:=aR X2.le (aR m3 x4.le);(refine kq T' bh r hc ?_ e2 e3 (aR aaK e4) e5 e6 e7 e8 e9 (λj hj hh hm=>?_))
    .dsimp only[eX];refine J Y ?_;dsimp only;refine J (Ow _ _ _ _) (J L ?_);dsimp only[ex];refine J h7' ?_;dsimp only;refine J h4 ?_;exact e1
    .have hh2:H2 j=N'\/aj j=R:=by
      rcases hh with hh|hh
      .left;cases w:H2 j with|false=>rfl|true=>
        rcases X2.hh j w with y|y
        .rw[hh]at y;exact fT y
        .lia
      .exact .inr hh
     have hj2:j<aq.n:=eA hj X2.le
     have hh4:H4 j=N'\/aj j=R:=by
      rcases hh2 with hh|hh
      .left;cases w:H4 j with|false=>rfl|true=>
        rcases x4.hh j w with y|y
        .rw[hh]at y;exact fT y
        .lia
      .exact .inr hh
     (simp only[e10 j (eA hj aaK) hh4 hm,x4.kp j (eA hj2 m3) hh2,m6 j hj2 (by intro Dc;clear hj hh hh2 hj2 hh4;subst Dc;exact hm fC),X2.kp j hj hh])
  .refine ah (mZ F h KT et) λae Y x1=>?_;revert e;refine Vj (λhc hv6 e=>?_);obtain rfl:=aw e;have F1:=F.ext h x1;(refine fe (F1.ow 6 (by decide) (by refine J hv6 ?_;intro w;cases w)) λn o e1 k1 k2 k3 k4=>?_);rw[hv6]at k4;have ho:o=.dict hc:=k4;clear k4;subst ho;(refine kq ae C n hc (by(dsimp only[eX,Y];refine J Y ?_;dsimp only[eX,Y])) X x1.wf x1.le Q.slot e1 k2 ?_ k3 (λi hi O O=>x1.ent i hi));rcases hb n k1 with y|y
   .rw[k2]at y;exact fT y
   .exact y
theorem OS{s:a_}{C:al}:∀(Z:al) (N:St),WF N->∃(T':St) (ms:cf),q7 (one (ev .gz) [s] C) Z N=f (T',ms.map .ref)/\Ext N T'/\ms.length=Z.length/\ms.Nodup/\(∀ m∈ms,N.n<=m/\m<T'.n)/\∀ m∈ms,T'.ent m=f ⟨N',.dict []⟩:=λw'=>by induction w' with|nil=>intro N h;exact⟨N,[],X,Ext.refl h,X,rV,(λm q=>g_ q (fH)),(λm q=>g_ q (fH))⟩|cons x Z ih=>
  intro N h;refine ky (iW h (.dict [])) λae Y L h3 h4=>?_;refine oq (ih ae L) λT' ms k1 k2 k3 k4 k5 k6=>Ia T' (N.n::ms) ?_ ((⟨L,by lia,λi hi=>by exact J (h4 _) (J (ak (by lia)) X)⟩:Ext N ae).trans k2) (by simp[k3]) ?_ ?_ ?_
  .have:one (ev .gz) [s] C N x=f (ae,[.ref N.n]):=by dsimp only[one,dr,ev,jj];exact J Y X
   dsimp only[q7];simp only[this,k1,bW,Mb,CV]
  .exact J (propext gw) ⟨λq=>by have:=(k5 _ q).1;lia,k4⟩
  .intro m q;rcases aT.mp q with eE|q
   .clear q;subst eE;exact⟨fB _,by have:=k2.le;lia⟩
   .exact⟨by have:=(k5 m q).1;lia,(k5 m q).2⟩
  .intro m q;rcases aT.mp q with iA|q
   .clear q;subst iA;exact J (k2.ent _ (by lia)) (J (h4 _) (J (ai X) X))
   .exact k6 m q
def ad0(n0 l:a_)(N:St)(ys:al):Prop:=∃ ms:cf,ys=ms.map .ref/\ms.length=l/\ms.Nodup/\(∀ m∈ms,n0<=m)/\∀ m∈ms,N.ent m=f ⟨N',.dict []⟩
theorem Et(e:cZ.fn (iv::Us)=f V'):∃ ts rs,Us=[.b (.tup ts),.b (.tup rs)]:=by refine C2 λGq kq=>?_;replace e:fR pv.fn (iv::Us)=f V':=e;dsimp only[fR]at e;revert e;refine MJ (λO k r heq e=>?_);cases heq;exact kq _ _ X
theorem zm:nR=.seq di (.seq lX (.seq lY (.seq dj (.seq (.kF dK (app cP (.seq pz dC))) (.seq pA .skip))))):=rfl
theorem Eu(h:WF N)(hk:tw j' N)(r:bZ (view j' N) [.dict K',.list Bs,.b (.str o)] as)(e:kR.fn [.dict K',.list Bs,.b (.str o)]=f iv) :
  ∃ T' q rr hc,nT N as=f (T',.tup [.ref q,.ref rr])/\iv=.dict hc/\Ext N T'/\j' rr=N'/\N.n<=rr/\T'.getM rr=f (.dict hc):=by
 replace e:jy cZ.fn di dj dK cP dC [.dict K',.list Bs,.b (.str o)]=f iv:=e;dsimp only[jy]at e;have KM4:fg KC dj:=by(dsimp only[dj,fg,bO];simp only[lO])
 have KT:bO KC dK:=by(dsimp only[dK,bO];simp only[lO])
 have KD1:fg KC cP:=by(dsimp only[cP,fU,fV,fW,fX,fY,iq,fg,bO];simp only[ix,GV,nj,lF,Si,lO])
 have KD2:fg KC dC:=by(dsimp only[dC,jY,fg,bO];simp only[Er,x8,lO])
 have F0:FR [6,7] N j' j' (as++q8 16) ([.dict K',.list Bs,.b (.str o)]++bz 16):=FR.start hk r 16 X;revert e;refine N8 (λvs1 e1 e=>?_) nS;refine ff (pd [6,7] di (by(dsimp only[di,fg,bO];simp only[ix,lO]):fg KC di) N j' j' _ _ _ _ N.n h F0 (λn q=>.inl q) (fB _) e1) λae k9 g1 H1 Y x1 r1=>?_
 have:g1=.next:=by(clear Y;cases g1)<;>first|rfl|exact r1.elim
 clear r1;subst this;have hv1:∃ V3,vs1=bM ([.dict K',.list Bs,.b (.str o)]++bz 16) 3 V3:=by dsimp only[di,aD]at e1;revert e1;refine ca (λO O=>cx (λO e1=>?_));clear e x1;cases e1;exact⟨_,X⟩
 obtain⟨V3,j5⟩:=hv1;subst j5;have E1:Ext N ae:=⟨x1.wf,x1.le,λi hi=>x1.kp i hi (by cases j' i<;>trivial)⟩;revert e;refine MK (λf' ef=>N8 (λT5 e4=>?_) nS);refine aZ (λoA e=>?_) nS
 -- the Yd
 have s0:VR (view H1 ae) (.dict K') (ao k9 0):=x1.fr.pl 0 (by decide);refine aW ((x1.fr.pl 1 (by decide)).cK) λnb Z JW gb rb=>ah (s0.gN) λnf hs0 gf=>?_;have QV:BK H1 ae (f nb):=λn q=>by obtain rfl:=aw q;exact⟨(aF gb).1,cz (BJ (aF gb).2) λfl hf=>⟨_,hf⟩⟩
 obtain⟨GW,ys,k1,k2,ms,k3,k4,k5,k6,k7⟩:=D7 (K':=q7 (one (ev .gz) [15] k9) Z) (xs:=ad0 ae.n Z.length) x1.wf QV
  (λa b c q1 q2 ⟨ms,z1,z2,z3,z4,z5⟩=>⟨ms,z1,z2,z3,z4,λm hm=>by refine J (q2 m (z4 m hm)) ?_;exact z5 m hm⟩) λc7 w1 w2 w3=>by exact oq (OS (s:=15) (C:=k9) Z c7 w1) λT' ms m1 m2 m3 m4 m5 m6=>⟨T',_,m1,m2,ms,X,m3,m4,λm hm=>by refine dR w2 ?_;exact(m5 m hm).1,m6⟩
 subst k3;refine ky (iW k2.wf (.list (ms.map .ref))) λaq p1 p2 p3 p4=>?_;have E2:Ext ae aq:=k2.trans ⟨p2,by lia,λi hi=>by exact J (p4 _) (J (ak (by lia)) X)⟩;have hlen:ms.length=Bs.length:=k4.trans rb.length
 have ad1:ex lX ae k9=f (aq,aE k9 4 (.ref GW.n),.next):=by
  have:ev (.bq .gz [15] .plain aS) ae k9=f (aq,.ref GW.n):=by(dsimp only[ev,JW,lU,jc,(aF gb).2];simp -iota only [JW,(aF gb).2];dsimp only[ev,JW,lU,jc,(aF gb).2];simp -iota only [JW,(aF gb).2];dsimp only[ev,JW,lU,jc,(aF gb).2]);dsimp only[ev]at k1;refine J k1 ?_;simp only[cw];(refine J (ai (by rw[hlen];exact oA)) ?_);(dsimp only[Nl,jj];exact J p1 X)
  (dsimp only[lX,ex];exact J this X)
 -- the frame behind ahg
 let X2:a_->e_:=λn=>H1 n||(decide (ae.n<=n)&&decide (n<aq.n))
 have X2a:∀ n,n<ae.n->X2 n=H1 n:=λn q=>by simp only[X2];exact J (bT (by lia)) (J (tT6 _) (J (Jw _) X))
 have vw2:∀ m o,view H1 ae m=f o->view X2 aq m=f o:=λm o w=>by obtain⟨w1,w2⟩:=aF w;exact dw (by refine J (X2a m (lz x1.wf w2)) ?_;exact w1) (E2.get x1.wf w2)
 have hX2:tw X2 aq:=λn q=>by
  simp only[X2,qr,jb,jQ]at q;rcases q with q|q
  .exact eA (x1.fr.hk n q) E2.le
  .exact q.2
 have F2:FR [6,7] aq X2 X2 (aE k9 4 (.ref GW.n)) (bM ([.dict K',.list Bs,.b (.str o)]++bz 16) 3 V3):=by
  have S:Sl (view X2 aq) (λi=>[6,7].contains i=N') (bM (bM ([.dict K',.list Bs,.b (.str o)]++bz 16) 3 V3) 4 .any) (aE k9 4 (.ref GW.n)):=
   Sl.set ⟨x1.fr.len,λi q=>(x1.fr.pl i q).mono vw2⟩ VR.any 4
  refine⟨S.1,λO q=>q,hX2,S.2,λi q1 q2=>g_ ?_ q2,λi j n q1 O q3=>g_ ?_ q3⟩
  all_goals
   have:i=6\/i=7:=by simpa using q1
   rcases this with rfl|rfl<;>rfl
 -- D',left
 refine ky (iW p2 (.dict [])) λbo t1 t2 t3 t4=>?_;have E3:Ext aq bo:=⟨t2,by lia,λi hi=>by exact J (t4 _) (J (ak (by lia)) X)⟩;refine ky (iW t2 (.dict f')) λiy u1 u2 u3 u4=>?_;have E4:Ext bo iy:=⟨u2,by lia,λi hi=>by exact J (u4 _) (J (ak (by lia)) X)⟩;have gf3:bo.get nf=f (.dict K'):=E3.get p2 (E2.get x1.wf (aF gf).2)
 have ad2:ex lY aq (aE k9 4 (.ref GW.n))=f (iy,aE (aE (aE (aE k9 4 (.ref GW.n)) 6 (.ref aq.n)) 7 (.ref bo.n)) 8 (.int 0),.next):=by
  have ad3:ao (aE k9 4 (.ref GW.n)) 0=.ref nf:=by refine J (bk _ _ _ _) (J (ak (by decide)) ?_);exact hs0
  have hff:f'=K'/\(K'.length<=lim/\K'.all (λp=>smallKey p.1)=R):=by revert ef;refine aZ (λU' ef=>?_) nS;clear e4 u1 u4;cases ef;exact⟨X,U'⟩
  obtain⟨mj,U'⟩:=hff;clear r F0 e1 x1 ef e4 s0 gf F2;subst mj;(dsimp only[lY,ex,ev,jj,jd];(refine J t1 ?_;refine J ad3 ?_;dsimp only;refine J gf3 ?_;dsimp only));refine J (ai U') ?_;refine J u1 ?_;rfl
 have A3:=F2.BM p2 E3 (i:=6) (n:=aq.n) (iv:=.dict []) (by decide) (fB _) (iV (by exact J (t4 _) (J (ai X) X))) X;have A4:=A3.fr.BM t2 E4 (i:=7) (n:=bo.n) (iv:=.dict f') (by decide) (fB _) (iV (by exact J (u4 _) (J (ai X) X))) X;have F4:=A4.fr.ig (i:=8) (by decide) (VR.b (.int 0));have A5:=A3.trans A4
 have Sj:∀ n,(X2 n||n==aq.n||n==bo.n)=R->X2 n=R\/N.n<=n:=λn q=>by
  have:=E1.le;have:=E2.le;have:=E3.le
  simp only[qr,wu]at q;rcases q with (q|q)|q
  .exact .inl q
  .right;lia
  .right;lia
 have le4:N.n<=iy.n:=by have:=E1.le;have:=E2.le;have:=E3.le;have:=E4.le;lia
 refine ff (pd [6,7] dj KM4 iy _ X2 _ _ _ _ N.n u2 F4 Sj le4 e4) λJc sl5 g5 H5 v1 x5 v2=>?_
 have:g5=.next:=by(clear v1;cases g5)<;>first|rfl|exact v2.elim
 clear v2;subst this
 have Q5:QS Jc X2 sl5 GW.n ms (k_ Bs.length []):=by
  have sa:ao sl5 4=.ref GW.n:=by
   rw[pf dj (by decide) _ _ _ _ _ v1,bk,ak (by decide),bk,ak (by decide),bk,ak (by decide),bk,ai X,ai]
   have:=x1.fr.len
   rw[mY]at this;exact eA (show 4<([.dict K',.list Bs,.b (.str o)]++bz 16:aC).length from(by decide:4<19)) this
  have keep:∀ i,i<aq.n->X2 i=R->Jc.ent i=aq.ent i:=λi hi hx=>by simp only[x5.kp i (by lia) (.inr hx),E4.ent i (by lia),E3.ent i hi]
  have Ye:aq.ent GW.n=f ⟨N',.list (ms.map .ref)⟩:=by exact J (p4 _) (J (ai X) X)
  have xin:∀ m,ae.n<=m->m<aq.n->X2 m=R:=λm a b=>by simp[X2,a,b]
  have X7:∀ m∈ms,aq.ent m=f ⟨N',.dict []⟩/\m<GW.n:=λm hm=>by have hl:=k2.wf.lt (k7 m hm);exact⟨by refine J (p4 _) (J (ak (by lia)) ?_);exact k7 m hm,hl⟩
  refine⟨sa,xin _ (by have:=k2.le;omega) (by lia),gU (e:=⟨N',.list (ms.map .ref)⟩) (by(refine J (keep GW.n (by omega) (xin GW.n (by have:=k2.le;omega) (by omega))) ?_);exact Ye),k5,λhm=>by have:=(X7 _ hm).2;lia,by exact J YC (J hlen X),by refine J hlen ?_;exact oA,λm hm=>xin m (k6 m hm) (by have:=(X7 m hm).2;lia),λi m bJ a b=>?_⟩;have hm:=dU a;rw[List.getElem?_replicate]at b;revert b;refine aZ (λO b=>?_) nS;obtain rfl:=aw b;refine iV ?_;((refine J (keep m (by have:=(X7 m hm).2;lia) (xin m (k6 m hm) (by have:=(X7 m hm).2;omega))) ?_));exact(X7 m hm).1
 obtain⟨Ui,sl6,rr,hc,y1,y2,y3,y4,y5,y6,y7,y8,y9,y10⟩:=OR (k:=N.n) (W7:=pz) vx KT KD1 KD2 (by decide) (by decide) (λiv Us V'=>Et) X 100000 Jc H5 sl5 T5 _ iv x5.wf x5.fr (x5.low Sj le4) (aR le4 x5.le) Q5 e;have hms:∀ i,i<ae.n->i∉ms:=λi hi hm=>by have:=k6 i hm;lia
 (refine YR Ui GW.n rr hc ?_ y2 ⟨y3,aR le4 (aR x5.le y4),λi hi=>?_⟩ ?_ y8 y9)
 .have:ex nR N (as++q8 16)=f (Ui,sl6,.ret (.tup [.ref GW.n,.ref rr])):=by simp only[zm];(dsimp only[ex];refine J Y ?_;try dsimp only;refine J ad1 ?_;try dsimp only;refine J ad2 ?_;try dsimp only;refine J v1 ?_;try dsimp only;refine J y1 ?_;try dsimp only);(dsimp only[pA,ex,ev];(refine J y5 ?_;exact J y6 X))
  dsimp only[nT,bt];exact J (ai r.length) (J this X)
 .have i1:i<ae.n:=eA hi E1.le;have i2:i<aq.n:=eA i1 E2.le;have n2:(i==aq.n)=N':=uJ (by lia);have n3:(i==bo.n)=N':=uJ (by lia);have c4:(X2 i||i==aq.n||i==bo.n)=N'\/X2 i=R:=by simp only[n2,n3,Jw,Jw];cases X2 i<;>trivial
  have i4:i<iy.n:=by grind
  have c5:H5 i=N'\/X2 i=R:=by
   rcases c4 with c|c
   .left;cases w:H5 i with|false=>rfl|true=>
     rcases x5.hh i w with y|y
     .rw[c]at y;exact fT y
     .grind
   .exact .inr c
  simp only[y10 i (eA i4 x5.le) c5 (hms i i1),x5.kp i i4 c4,E4.ent i (by grind),E3.ent i i2,E2.ent i i1,E1.ent i hi]
 .cases w:j' rr with|false=>rfl|true=>
   have:=hk rr w
   lia
theorem x9:KC qe kR:=by
 show Gl qe kR;intro N j' as Vs iv h hk r e;have Xa:∃ K' Bs o,Vs=[.dict K',.list Bs,.b (.str o)]:=by replace e:jy cZ.fn di dj dK cP dC Vs=f iv:=e;dsimp only[jy]at e;revert e;refine Vl (λO O O br e=>?_);clear r;subst br;exact Mw _ _ _ X
 obtain⟨K',Bs,o,rfl⟩:=Xa;refine YJ (Eu h hk r e) λT' q rr hc Y aL L h3 h4 h5=>?_;clear e;subst aL;have Fm:=r.length;refine aW (r.cons_inv) λa0 t aL ra rt=>?_;subst aL;refine aW (rt.v5) λa1 a2 aL rb rc=>?_;subst aL;refine ah (ra.gN) λn0 aL O=>?_;clear ra;subst aL;refine eD (rb.cK) λn1 Z aL O=>?_;clear rb rt r Fm;subst aL;rw[rc.bF]at Y ⊢;refine qJ T' (.ref rr) ?_ L (VR.dict (dw h3 (cX h5))) (λO=>⟨rr,X,h4,h5⟩)
 show(match ex nc N [.ref n0,.ref n1,.str o]with
  |f (s1,O,.ret v)=>f (s1,v)
  |f (s1,O,.next)=>f (s1,.none)
  |_=>V)=_
 have:ex nc N [.ref n0,.ref n1,.str o]=f (T',[.ref n0,.ref n1,.str o],.ret (.ref rr)):=by dsimp only[nc,ex,ev,ao,ib,lim,Mt];simp -iota only [Y,fD,uL];rfl
 exact J this X
end
theorem vK:KC lB lC:=jx X (by repeat' first|exact Z'|exact ur|exact n7|exact xZ|exact x9|exact ix|apply h_)
theorem lG:KC mx eu:=jx X (by repeat' first|exact Z'|apply h_)
theorem Ew:KC rC hF:=jx X (by repeat' first|exact Z'|exact lG|exact n7|apply h_)
theorem zo:KC nV kL:=jx X (by repeat' first|exact Z'|exact Ew|apply h_)
theorem ya:KC mz mA:=jx X (by repeat' first|exact Z'|apply h_)
theorem Ce:KC pC jZ:=jx X (by repeat' first|exact Z'|exact ya|apply h_)
theorem yb:KC mB jN:=jx X (by repeat' first|exact Z'|exact Ce|exact lG|exact ni|apply h_)
theorem KM:KC xM pD:=jx X (by repeat' first|exact Z'|exact lG|exact x8|exact Er|exact ix|exact lF|exact Jb|apply h_)
theorem Ex:KC rD rE:=jx X (by repeat' first|exact Z'|exact xZ|exact zo|exact yb|exact x9|exact ix|exact KM|apply h_)
theorem uu:KC kj kl:=jx X (by repeat' first|exact Z'|exact vK|exact Ex|apply h_)
theorem zu:KC nW nX:=jx X (by repeat' first|exact Z'|apply h_)
theorem Cf:KC pE l4:=jx X (by repeat' first|exact Z'|exact uu|exact zu|apply h_)
theorem Ey:KC B4 B5:=jx X (by repeat' first|exact Z'|apply h_)
theorem Jd:KC GG GH:=jx X (by repeat' first|exact Z'|exact Ey|apply h_)
theorem Sk:KC GJ OH:=jx X (by repeat' first|exact Z'|apply h_)
theorem Ez:KC rG jF:=jx X (by repeat' first|exact Z'|exact Jd|exact Sk|exact Ey|apply h_)
theorem Cg:KC fZ eV:=jx X (by repeat' first|exact Z'|apply h_)
theorem n9:KC ug uh:=jx X (by repeat' first|exact Z'|apply h_)
theorem GX:KC ui uj:=jx X (by repeat' first|exact Z'|exact OO|apply h_)
theorem EA:KC rH n5:=jx X (by repeat' first|exact Z'|exact GX|apply h_)
theorem vL:KC lE f5:=jx X (by repeat' first|exact Z'|apply h_)
theorem yc:KC B6 B7:=jx X (by repeat' first|exact Z'|apply h_)
theorem Sm:KC GL GN:=jx X (by repeat' first|exact Z'|apply h_)
theorem Je:KC GO GP:=jx X (by repeat' first|exact Z'|exact Jd|exact Sm|apply h_)
theorem KN:KC xN xO:=jx X (by repeat' first|exact Z'|apply h_)
theorem KO:KC xP xQ:=jx X (by repeat' first|exact Z'|apply h_)
theorem KP:KC xR xS:=jx X (by repeat' first|exact Z'|exact vL|exact yc|exact Je|exact KN|exact KO|apply h_)
theorem Ch:KC pF l5:=jx X (by repeat' first|exact Z'|exact KP|exact n9|exact yc|apply h_)
theorem yd:KC um uo:=jx X (by repeat' first|exact Z'|apply h_)
theorem uw:KC km kn:=jx X (by repeat' first|exact Z'|exact n9|exact Ch|exact yc|exact yd|apply h_)
theorem Ci:KC pG pH:=jx X (by repeat' first|exact Z'|exact n9|exact EA|exact uw|exact yd|apply h_)
theorem sU:KC d6 d7:=jx X (by repeat' first|exact Z'|apply h_)
theorem Xb:KC OI OJ:=jx X (by repeat' first|exact Z'|apply h_)
end Mine.Internal
end
section
namespace Mine.Internal
theorem dq:d0.mu=N':=rfl
theorem EB:eN.mu=N':=rfl
theorem vM:cH.mu=N':=rfl
theorem vN:cO.mu=N':=rfl
theorem rI:BS.mu=N':=rfl
theorem KQ:gn.mu=N':=rfl
theorem KR:gn.fr=R:=rfl
theorem GY:cZ.mu=R:=rfl
theorem Xc:BW.mu=N':=rfl
theorem dE:gr.mu=N':=rfl
theorem hG:hF.mu=N':=rfl
theorem ye:f5.mu=N':=rfl
end Mine.Internal
end
section
open PySem
namespace Mine.Internal
noncomputable abbrev zr (n:G):AV:=.tup [.int n,.int 1]
noncomputable abbrev M' (i:G):PV:=.b (.int i)
noncomputable def CS.tl:CS->CS|.seq O b=>b|c=>c
noncomputable def CS.hd:CS->CS|.seq a O=>a|c=>c
noncomputable def CS.body:CS->CS|.gE O O' O'' b=>b|.kF O b=>b|c=>c
theorem ag(h:aD mu a M=f (vs1,.next)):aD mu (.seq a b) M=aD mu b vs1:=by exact J p0 (J h X)
theorem d8(h:aD mu a M=f (vs1,.ret iv)):aD mu (.seq a b) M=f (vs1,.ret iv):=by exact J p0 (J h X)
theorem aI(hl:as.length=np)(h:aD mu ha (as++bz more)=f (M,.ret iv)):prun mu np more ha as=f iv:=by dsimp only[prun];exact J (ai hl) (J h X)
theorem aB(h:ax e M=f iv)(ok:ro (mu.contains i) (fu mu e) (fresh e) iv=R):aD mu (.assign i e) M=f (bM M i iv,.next):=by refine J BG (J h ?_);show(match ro (mu.contains i) (fu mu e) (fresh e) iv with|R=>f (bM M i iv,kQ.next)|N'=>V)=_;exact J ok X
theorem ar(hm:P.mu=N')(B:ax as M=f (.tup Vs))(h:P.fn Vs=f iv):ax (.call K' F P as) M=f iv:=by exact J rp (J hm (J B h))
theorem eW(B:ax a M=f A):ax (bx a) M=f (.tup [A]):=by exact J bX (J B X)
theorem bE(B:ax a M=f A)(hb:ax b M=f ha):ax (aO a b) M=f (.tup [A,ha]):=by exact J bX (J B (J (eW hb) X))
theorem aP(B:ax a M=f (M' x))(hb:ax b M=f (M' y))(h:cU o x y=f z):ax (.bin o a b) M=f (M' z):=by refine J mV (J B (J hb ?_));show(match cU o x y with|f z=>f (M' z) |V=>V)=_;exact J h X
theorem cb(B:ax a M=f (M' x))(hb:ax b M=f (M' y)):ax (.cmp o a b) M=f (.b (.bool (cmpInt o x y))):=by exact J ju (J B (J hb X))
theorem lH(h:ax t M=f (.b (.bool R))):ax (.ite t a b) M=ax a M:=J pZ (J h X)
theorem sV(h:ax t M=f (.b (.bool N'))):ax (.ite t a b) M=ax b M:=J pZ (J h X)
theorem EC(h:ax a M=f (.b (.bool R))):ax (.and a b) M=ax b M:=J tV (J h X)
theorem OT(h:ax a M=f (.b (.bool N'))):ax (.and a b) M=f (.b (.bool N')):=J tV (J h X)
theorem gc(h:ax e M=f iv):aD mu (.seq (.ret e) b) M=f (M,.ret iv):=d8 (by exact J Ah (J h X))
theorem cq(h:ax t M=f (.b (.bool g))):aD mu (.iff t a b) M=bif g then aD mu a M else aD mu b M:=by refine J Ag (J h ?_);(clear h;cases g)<;>rfl
theorem nk(B:ax a M=f A)(hb:ax b M=f ha)(U':ax c M=f sl):ax (iB a b c) M=f (.tup [A,ha,sl]):=by exact J bX (J B (J (bE hb U') X))
theorem rJ(h:ax as M=f (.tup Vs))(hb:tu k Vs=f iv):ax (.bi k as) M=f iv:=by exact J jX (J h hb)
theorem Cj(h:ax as M=f (.tup Vs))(hp:ie Vs=iv):ax (.bc as) M=f iv:=by exact J eZ (J h (c8 f hp))
theorem eI(B:ax a M=f A)(hi:ax i M=f I)(h:ml A I=f iv):ax (.idx a i) M=f iv:=by exact J mW (J B (J hi h))
theorem Ck(B:ax a M=f (.b (.bool x)))(hb:ax b M=f (.b (.bool y))):ax (.and a b) M=f (.b (.bool (x&&y))):=by refine J tV (J B ?_);clear B;cases x;rfl;exact hb
theorem GZ(B:ax a M=f (.b (.bool x)))(hb:ax b M=f (.b (.bool y))):ax (.or a b) M=f (.b (.bool (x||y))):=by refine J sG (J B ?_);clear B;cases x;exact hb;rfl
theorem Sn(B:ax a M=f (.b (.bool x))):ax (.not a) M=f (.b (.bool !x)):=by exact J KD (J B X)
theorem yf(B:ax a M=f A)(hb:ax b M=f sl)(h:WG A sl=f r):ax (.isin y a b) M=f (.b (.bool (r==y))):=by refine J Gj (J B (J hb ?_));show(match WG A sl with|f r=>f (PV.b (.bool (r==y))) |V=>V)=_;exact J h X
theorem sW(h:aD mu a M=f (vs1,.cont)):aD mu (.seq a b) M=f (vs1,.cont):=by exact J p0 (J h X)
theorem pI(h:ax e M=f iv)(hk:((!(is.any mu.contains))&&ro N' (fu mu e) N' iv)=R)(hx:ft iv=f Z)(hb:eh is Z M=f v1):aD mu (.bj is e) M=f (v1,.next):=by refine J ej (J h ?_);dsimp only;refine J hk ?_;refine J hx ?_;dsimp only;exact J hb X
theorem cB(B:a.natAbs<2^63)(hb:b.natAbs<2^63):cU .mul a b=f (a*b):=ai ⟨B,hb⟩
theorem So(t:G):t.fdiv (-1) = -t:=by refine J Int.fdiv_eq_ediv ?_;simp
theorem ad5(h:t M=f (.b (.bool R)))(hf:K' M=f (vs2,.next)):eY t K' (n+1) M=eY t K' n vs2:=by show(match t M with|f (.b (.bool R))=>(match K' M with|f (vs2,kQ.ret v)=>f (vs2,kQ.ret v)|f (vs2,O)=>eY t K' n vs2|V=>V)|f (.b (.bool N'))=>f (M,.next)|_=>V)=_;exact J h (J hf X)
theorem aaL(e0:aD [] lW.hd [M' t,M' s]=f ([M' m,M' 1],.next)):Am.fn [M' t,M' s]=f (M' 1):=by show prun [] 2 0 lW [M' t,M' s]=_;refine aI X ((ag e0).trans ((ag (vs1:=[M' 1,M' 0]) ?_).trans (gc X)));refine(ad5 (n:=99999) (vs2:=[M' 1,M' 0]) X ?_).trans X;have e:aD [] lW.tl.hd.body [M' m,M' 1]=f ([M' 1,M' (m.fmod 1)],.next):=X;rwa [Int.fmod_one]at e
theorem aaM(t:G):Am.fn [.b (.int t),.b (.int 1)]=f (.b (.int 1)):=aaL (m:=if t<0 then -t else t) X
theorem Xd(t:G):Am.fn [.b (.int t),.b (.int (-1))]=f (.b (.int 1)):=aaL (m:=if t<0 then -t else t) X
theorem Jf(t:G):IX.fn [.b (.int t),.b (.int 1)]=f (.b (zr t)):=by have e2:aD [] pn.tl.tl [M' t,M' 1,M' 1]=f ([M' t,M' 1,M' 1],.ret (.b (.tup [.int (t.fdiv 1),.int 1]))):=X;rw[Int.fdiv_one]at e2;show prun [] 2 1 pn [M' t,M' 1]=_;exact aI X ((ag (X:aD [] pn.hd [M' t,M' 1,.any]=f ([M' t,M' 1,.any],.next))).trans ((ag (aB ((lH X).trans (ar X X (aaM t))) X:aD [] pn.tl.hd [M' t,M' 1,.any]=f ([M' t,M' 1,M' 1],.next))).trans e2))
theorem Xe(t:G):IX.fn [.b (.int t),.b (.int (-1))]=f (.b (zr (-t))):=by have e2:aD [] pn.tl.tl [M' t,M' (-1),M' (-1)]=f ([M' t,M' (-1),M' (-1)],.ret (.b (.tup [.int (t.fdiv (-1)),.int 1]))):=X;rw[So]at e2;show prun [] 2 1 pn [M' t,M' (-1)]=_;exact aI X ((ag (X:aD [] pn.hd [M' t,M' (-1),.any]=f ([M' t,M' (-1),.any],.next))).trans ((ag (aB ((sV X).trans (aP (x:=0) (y:=1) X (ar X X (Xd t)) X)) X:aD [] pn.tl.hd [M' t,M' (-1),.any]=f ([M' t,M' (-1),M' (-1)],.next))).trans e2))
theorem OU(a b:G)(B:a.natAbs<2^63)(hb:b.natAbs<2^63):pv.fn [.b (zr a),.b (zr b)]=f (.b (zr (a+b))):=by show prun [] 2 0 xI [.b (zr a),.b (zr b)]=_;have e:prun [] 2 0 xI [.b (zr a),.b (zr b)]=f (.b (zr (a*1+b*1))):=aI X (gc (ar X (bE (aP (aP (x:=a) (y:=1) X X (cB B (by decide))) (aP (x:=b) (y:=1) X X (cB hb (by decide))) X) (aP (x:=1) (y:=1) (z:=1) X X X)) (Jf _)));rwa [Ql,Ql]at e
theorem OV(a b:G)(B:a.natAbs<2^63)(hb:b.natAbs<2^63):BS.fn [.b (zr a),.b (zr b)]=f (.b (zr (a*b))):=by show prun [] 2 0 BR [.b (zr a),.b (zr b)]=_;exact aI X (gc (ar X (bE (aP (x:=a) (y:=b) X X (cB B hb)) (aP (x:=1) (y:=1) (z:=1) X X X)) (Jf _)))
theorem Xf(a:G)(B:a.natAbs<2^63):B0.fn [.b (zr a),.b (zr 1)]=f (.b (zr a)):=by show prun [] 2 0 xJ [.b (zr a),.b (zr 1)]=_;have e:prun [] 2 0 xJ [.b (zr a),.b (zr 1)]=f (.b (zr (a*1))):=aI X (gc (ar X (bE (aP (x:=a) (y:=1) X X (cB B (by decide))) (aP (x:=1) (y:=1) (z:=1) X X X)) (Jf _)));rwa [Ql]at e
theorem G0:rz.fn [.b (zr 1)]=f (.b (zr 1)):=by show prun [] 1 0 xH [.b (zr 1)]=_;exact aI X (gc (ar X X (Jf 1)))
theorem Sp:rz.fn [.b (zr (-1))]=f (.b (zr (-1))):=by show prun [] 1 0 xH [.b (zr (-1))]=_;exact aI X (gc (ar X X (Xe 1)))
theorem Xg(a:G):BW.fn [.b (zr a)]=f (.b (zr (-a))):=by exact dR (Int.zero_sub _) X
theorem KS(a:G)(B:a.natAbs<2^63):qd.fn [.b (zr a)]=f (.b (.bool N')):=by
 have Y:¬ ((18446744073709551616:G)<=if 1>(if a<0 then -a else a) then 1 else if a<0 then -a else a):=by split<;>(try split)<;>lia
 show prun [] 1 1 qc [.b (zr a)]=_;exact aI X ((ag X).trans (gc (OT ((cb (y:=18446744073709551616) X X).trans (c8 (λb=>f (PV.b (.bool b))) (bT Y))))))
noncomputable abbrev K3 (x y z:G):AV:=.tup [.int x,.int y,.int z]
theorem KU(a b c p q r:G):gr.fn [.b (K3 a b c),.b (K3 p q r)]=f (.b (K3 (a+p) (b+q) (c+r))):=by kernel_rfl
theorem rK(a b c p q r:G):ck.fn [.b (K3 a b c),.b (K3 p q r)]=f (.b (K3 (a-p) (b-q) (c-r))):=by kernel_rfl
theorem Xh(a b c p q r:G):eu.fn [.b (K3 a b c),.b (K3 p q r)]=f (.b (K3 (if p>a then p else a) (if q>b then q else b) (if r>c then r else c))):=by kernel_rfl
theorem Xi(a b c p q r:G):mA.fn [.b (K3 a b c),.b (K3 p q r)]=f (.b (K3 (if p<a then p else a) (if q<b then q else b) (if r<c then r else c))):=by kernel_rfl
theorem j1(v:AV)(h:v≠.ub):d0.fn [.b (.str 0),.b v]=f (.b v):=by cases v<;>first|exact g_ X h|rfl
theorem Sq(a b c p q r:G):jZ.fn [.b (K3 a b c),.b (K3 p q r)]=f (.b (.bool (decide ((if p<a then p else a)+(if q<b then q else b)+(if r<c then r else c)=0)))):=by
 show prun [] 2 0 lZ [.b (K3 a b c),.b (K3 p q r)]=_;have e:ax (.bi .sum (bx (pB (aO bw aS)))) [.b (K3 a b c),.b (K3 p q r)]=f (M' (0+(if p<a then p else a)+(if q<b then q else b)+(if r<c then r else c))):=by exact J jX (J (eW (ar X X (Xi a b c p q r))) X)
 rw[UG]at e;exact aI X (gc (cb (y:=0) e X))
theorem Xj{K':PV->Uc}(h:K' x M=f (v1,.ret iv)):dQ K' (x::Z) M=f (v1,.ret iv):=by show(match K' x M with|f (vs1,kQ.ret v)=>f (vs1,kQ.ret v)|f (vs1,O)=>dQ K' Z vs1|V=>V)=_;exact J h X
theorem KV{K':PV->Uc}(h:K' x M=f (v1,.next)):dQ K' (x::Z) M=dQ K' Z v1:=by show(match K' x M with|f (vs1,kQ.ret v)=>f (vs1,kQ.ret v)|f (vs1,O)=>dQ K' Z vs1|V=>V)=_;exact J h X
section
variable{A u v:PV}{p q r x y i:G}{g:e_}
theorem aaN(h:ml (.b (K3 p q r)) (M' i)=f (M' y))(hg:decide (y<x)=g):ax (.cmp .gt cA (.idx aS cJ)) [A,.b (K3 p q r),M' i,M' x]=f (.b (.bool g)):=
 (cb (x:=x) (y:=y) X (show ax (.idx aS cJ) [A,.b (K3 p q r),M' i,M' x]=f (M' y) from h)).trans (c8 (λb=>f (PV.b (.bool b))) hg)
theorem Xk(h:ml (.b (K3 p q r)) (M' i)=f (M' y))(g:¬ x<=y):cn (aD [] cG.hd.body) [2,3] (.b (.tup [.int i,.int x])) [A,.b (K3 p q r),u,v]=f ([A,.b (K3 p q r),M' i,M' x],.ret (.b (.bool N'))):=
 d8 ((cq (aaN h (bP (Int.not_le.mp g)))).trans X)
theorem KW(h:ml (.b (K3 p q r)) (M' i)=f (M' y))(g:x<=y):cn (aD [] cG.hd.body) [2,3] (.b (.tup [.int i,.int x])) [A,.b (K3 p q r),u,v]=f ([A,.b (K3 p q r),M' i,M' x],.next):=
 (ag ((cq (aaN h (bT (Int.not_lt.mpr g)))).trans X)).trans X
end
theorem OW(a b c p q r:G):cH.fn [.b (K3 a b c),.b (K3 p q r)]=f (.b (.bool (decide (a<=p)&&decide (b<=q)&&decide (c<=r)))):=by
 have k:∀ M iv,dQ (cn (aD [] cG.hd.body) [2,3]) [.b (.tup [.int 0,.int a]),.b (.tup [.int 1,.int b]),.b (.tup [.int 2,.int c])] [.b (K3 a b c),.b (K3 p q r),.any,.any]=f (M,.ret iv)->cH.fn [.b (K3 a b c),.b (K3 p q r)]=f iv:=λM iv h=>by show prun [] 2 2 cG [.b (K3 a b c),.b (K3 p q r)]=_;exact aI X (d8 h)
 by_cases Y:a<=p
 .by_cases L:b<=q
  .by_cases h3:c<=r
   .refine J (bP Y) (J (bP L) (J (bP h3) ?_));show prun [] 2 2 cG [.b (K3 a b c),.b (K3 p q r)]=_;exact aI X ((ag (show aD [] cG.hd [.b (K3 a b c),.b (K3 p q r),.any,.any]=f ([.b (K3 a b c),.b (K3 p q r),M' 2,M' c],.next) from((KV (KW (y:=p) X Y)).trans ((KV (KW (y:=q) X L)).trans ((KV (KW (y:=r) X h3)).trans X))))).trans X)
   .exact J (bP Y) (J (bP L) (J (bT h3) (k _ _ ((KV (KW (y:=p) X Y)).trans ((KV (KW (y:=q) X L)).trans (Xj (Xk (y:=r) X h3)))))))
  .exact J (bP Y) (J (bT L) (k _ _ ((KV (KW (y:=p) X Y)).trans (Xj (Xk (y:=q) X L)))))
 .exact J (bT Y) (k _ _ (Xj (Xk (y:=p) X Y)))
theorem KX(h:a≠b):f_ a b=N':=by cases h':f_ a b with|false=>rfl|true=>exact g_ (wj h') h
theorem jO(ht:C'.any mu.contains=N')(hi:mu.contains i=N')(hx:D3 ik (bf M i)=f Z):aD mu (.gE C' ik (.var i) b) M=dQ (cn (aD mu b) C') Z M:=by cases ik<;>(dsimp only[aD];(exact J ht (J hi (J hx X))))
noncomputable def nq (c:a_):aA:=[((c/256:a_):G),((c/16%16:a_):G),((c%16:a_):G)]
abbrev kT(c:a_):AV:=K3 ((c/256:a_):G) ((c/16%16:a_):G) ((c%16:a_):G)
def au(A:ZP):c9:=A.map λp=>(nq p.1,zr p.2)
def sm(c:a_):Prop:=c/256<6/\c/16%16<6/\c%16<6
theorem Uj(c:a_):256*(c/256)+16*(c/16%16)+c%16=c:=by have Y:=wi c 16;have L:=wi (c/16) 16;rw[CI]at L;lia
theorem dg(a:a_)(hb:b<16)(hd:d<16):(256*a+16*b+d)/256=a/\(256*a+16*b+d)/16%16=b/\(256*a+16*b+d)%16=d:=by exact J (by lia:256*a+16*b+d=d+16*(b+16*a)) (dR (CI _ 16 16) (J (YE _ _ (by decide)) (J (Nat.div_eq_of_lt hd) (J (wq _) (J (YE _ _ (by decide)) (J (Nat.div_eq_of_lt hb) (J (wq _) (J (YF _ _ _) (J (Nat.mod_eq_of_lt hb) (J (YF _ _ _) (J (Nat.mod_eq_of_lt hd) ⟨X,X,X⟩)))))))))))
theorem Aq(a b:a_):m_ a b=decide (a<=b):=by
 cases h:m_ a b
 .exact(bT λk=>by rw[YG k]at h;cases h).symm
 .exact(bP (iC h)).symm
def tb(l c a b d A ha ρ:a_):e_:=cond (m_ a A&&m_ b ha&&m_ d ρ) (pg l c&&f_ (c-l) (256*(A-a)+16*(ha-b)+(ρ-d))) (!(pg l c))
set_option maxRecDepth 100000 in
theorem tab:∀ a b d A ha ρ:Fin 6,tb (256*a.1+16*b.1+d.1) (256*A.1+16*ha.1+ρ.1) a.1 b.1 d.1 A.1 ha.1 ρ.1=R:=by decide +kernel
theorem ad6:∀ a b d:Fin 11,Yc (256*a.1+16*b.1+d.1)=(m_ a.1 5&&m_ b.1 5&&m_ d.1 5):=by decide +kernel
theorem Uk(hl:sm l)(U':sm c):tb l c (l/256) (l/16%16) (l%16) (c/256) (c/16%16) (c%16)=R:=by
 have:=tab ⟨_,hl.1⟩ ⟨_,hl.2.1⟩ ⟨_,hl.2.2⟩ ⟨_,U'.1⟩ ⟨_,U'.2.1⟩ ⟨_,U'.2.2⟩
 rwa [Uj,Uj]at this
theorem yg(hl:sm l)(U':sm c):pg l c=(decide (l/256<=c/256)&&decide (l/16%16<=c/16%16)&&decide (l%16<=c%16)):=by
 have h:=Uk hl U';refine dR (Aq _ _) (dR (Aq _ _) (dR (Aq _ _) ?_));dsimp only[tb]at h;cases k:m_ (l/256) (c/256)&&m_ (l/16%16) (c/16%16)&&m_ (l%16) (c%16)<;>rw[k]at h
 .exact(rR _).mp h
 .exact((jb _ _).mp h).1
theorem OX(hl:sm l)(U':sm c)(h:pg l c=R):(l/256<=c/256/\l/16%16<=c/16%16/\l%16<=c%16)/\(c-l)/256=c/256-l/256/\(c-l)/16%16=c/16%16-l/16%16/\(c-l)%16=c%16-l%16:=by
 have t:=Uk hl U';dsimp only[tb]at t;cases k:m_ (l/256) (c/256)&&m_ (l/16%16) (c/16%16)&&m_ (l%16) (c%16)<;>rw[k]at t
 .rw[h]at t;cases t
 .have k1:=(jb _ _).mp k;have k2:=(jb _ _).mp k1.1;refine⟨⟨iC k2.1,iC k2.2,iC k1.2⟩,?_⟩;exact J (wj ((jb _ _).mp t).2) (dg _ (oh (CN _ _) (uG _ (by decide))) (oh (CN _ _) (uG _ (by decide))))
theorem Sr(Y:a%16+s%16<16)(L:a/16%16+s/16%16<16):(a+s)/256=a/256+s/256/\(a+s)/16%16=a/16%16+s/16%16/\(a+s)%16=a%16+s%16:=by
 have:=dg (a/256+s/256) L Y
 rwa [HB,HB,Qq (256*_),Qq,Uj,Uj]at this
theorem OY(Y:sm a)(L:sm s):(a+s)/256=a/256+s/256/\(a+s)/16%16=a/16%16+s/16%16/\(a+s)%16=a%16+s%16:=
 Sr (rT (Nat.add_lt_add Y.2.2 L.2.2) (by decide)) (rT (Nat.add_lt_add Y.2.1 L.2.1) (by decide))
theorem OZ(Y:sm a)(L:sm s)(h:Yc (p_ a s)=R):sm (a+s):=by have t:=ad6 ⟨a/256+s/256,eA (UZ Y.1 (U0 L.1)) (by decide)⟩ ⟨a/16%16+s/16%16,eA (UZ Y.2.1 (U0 L.2.1)) (by decide)⟩ ⟨a%16+s%16,eA (UZ Y.2.2 (U0 L.2.2)) (by decide)⟩;rw[HB,HB,Qq (256*_),Qq,Uj,Uj]at t;have k1:=(jb _ _).mp (t.symm.trans h);have k2:=(jb _ _).mp k1.1;have d:=OY Y L;exact⟨d.1▸HA (iC k2.1),d.2.1▸HA (iC k2.2),d.2.2▸HA (iC k1.2)⟩
theorem lx1(h:r<16)(j':hc<16):(16*q+r<16*Q+hc)↔(q<Q\/q=Q/\r<hc):=by
 constructor
 .intro k;rcases Nat.lt_trichotomy q Q with e|e|e
  .exact .inl e
  .subst e;exact .inr ⟨X,Nat.lt_of_add_lt_add_left k⟩
  .exact g_ k (by lia)
 .rintro(e|⟨rfl,e⟩)
  .lia
  .exact Nat.add_lt_add_left e _
theorem lx(c x:a_):c<x↔(c/256<x/256\/c/256=x/256/\c/16%16<x/16%16)\/c/16=x/16/\c%16<x%16:=by have Y:=lx1 (q:=c/16) (Q:=x/16) (uG c (by decide)) (uG x (by decide));have L:=lx1 (q:=c/16/16) (Q:=x/16/16) (uG (c/16) (by decide)) (uG (x/16) (by decide));rw[wi,wi,CI,CI]at L;rwa [wi,wi,L]at Y
theorem aaO(Y:c/256=x/256)(L:c/16%16=x/16%16):c/16=x/16:=by exact dR (wi (c/16) 16) (dR (wi (x/16) 16) (J (CI _ _ _) (J (CI _ _ _) (J Y (J L X)))))
theorem G1(Y:c/256=x/256)(L:c/16%16=x/16%16)(h3:c%16=x%16):c=x:=by exact dR (Uj c) (dR (Uj x) (J Y (J L (J h3 X))))
theorem lt3(Y:c/256=x/256)(L:c/16%16=x/16%16):c%16<x%16↔c<x:=
 .trans ⟨λk=>.inr ⟨aaO Y L,k⟩,λk=>k.elim (λk=>k.elim (λk=>g_ Y (jg k)) λk=>g_ L (jg k.2)) (·.2)⟩ (lx c x).symm
theorem lt2(Y:c/256=x/256)(L:¬ c/16%16=x/16%16):c/16%16<x/16%16↔c<x:=
 .trans ⟨λk=>.inl (.inr ⟨Y,k⟩),λk=>k.elim (λk=>k.elim (λk=>g_ Y (jg k)) (·.2)) λk=>g_ (c8 (·%16) k.1) L⟩ (lx c x).symm
theorem lt1(Y:¬ c/256=x/256):c/256<x/256↔c<x:=
 .trans ⟨λk=>.inl (.inl k),λk=>k.elim (λk=>k.elim id λk=>g_ k.1 Y) λk=>g_ (by exact dR (CI c 16 16) (dR (CI x 16 16) (J k.1 X))) Y⟩ (lx c x).symm
theorem Yf{K' g:AV->AV->af e_}(h:K' x y=f R):rY K' g e (x::Z) (y::ys)=rY K' g e Z ys:=by show(match K' x y with|f R=>rY K' g e Z ys|f N'=>g x y |V=>V)=_;exact J h X
theorem Xl{K' g:AV->AV->af e_}(h:K' x y=f N'):rY K' g e (x::Z) (y::ys)=g x y:=by show(match K' x y with|f R=>rY K' g e Z ys|f N'=>g x y |V=>V)=_;exact J h X
theorem iT(h:a=b):fk d (.int (a:a_)) (.int (b:a_))=f R:=by cases d<;>exact c8 f (bP (c8 w_ h))
theorem iF(h:¬ a=b):fk d (.int (a:a_)) (.int (b:a_))=f N':=by cases d<;>exact c8 f (bT λk=>h (vz k))
noncomputable def gtB (g:e_) (a b:a_):e_:=if g=R then decide (b<a) else decide (a<b)
theorem iO:kW g d (.int (a:a_)) (.int (b:a_))=f (gtB g a b):=by(dsimp only[gtB];rw[<-HL.mpr UD,<-HL.mpr UD]);cases d<;>rfl
theorem O0(h:a<b↔c<x)(h':b<a↔x<c):gtB g a b=gtB g c x:=by dsimp only[gtB];exact J (HL.mpr h) (J (HL.mpr h') X)
theorem aaP:gtB g a a=N':=by dsimp only[gtB];exact J (bT (CL a)) (J (ite_self _) X)
theorem Xm(g:e_)(d x c:a_):kW g (d+1) (kT x) (kT c)=f (gtB g x c):=by
 show rY (fk d) (kW g d) _ _ _=_;by_cases Y:x/256=c/256
 .refine J (Yf (iT Y)) ?_;by_cases L:x/16%16=c/16%16
  .refine J (Yf (iT L)) ?_;by_cases h3:x%16=c%16
   .exact J (Yf (iT h3)) (J (G1 Y L h3) (J aaP (c8 f (ite_self _))))
   .exact J (Xl (iF h3)) (J iO (J (O0 (lt3 Y L) (lt3 Y.symm L.symm)) X))
  .exact J (Xl (iF L)) (J iO (J (O0 (lt2 Y L) (lt2 Y.symm λk=>L k.symm)) X))
 .exact J (Xl (iF Y)) (J iO (J (O0 (lt1 Y) (lt1 λk=>Y k.symm)) X))
theorem eqK(d a b:a_):fk (d+1) (kT a) (kT b)=f (decide (a=b)):=by
 have e:fk (d+1) (kT a) (kT b)=f (decide (((a/256:a_):G)=(b/256:a_))&&(decide (((a/16%16:a_):G)=(b/16%16:a_))&&(decide (((a%16:a_):G)=(b%16:a_))&&R))):=by cases d<;>rfl
 refine e.trans (c8 f (Bool.eq_iff_iff.mpr ⟨λh=>?_,λh=>?_⟩))
 .have k1:=(jb _ _).mp h;have k2:=(jb _ _).mp k1.2;exact bP (G1 (vz (dW k1.1)) (vz (dW k2.1)) (vz (dW ((jb _ _).mp k2.2).1)))
 .exact J (dW h) (J (bP X) (J (bP X) (J (bP X) X)))
theorem ad8(x c:a_):fw ⟨0,.nil⟩ .gt (kT x) (kT c)=f (decide (c<x)):=Xm R 2 x c
theorem ad9(x c:a_):kW N' 3 (kT x) (kT c)=f (decide (x<c)):=Xm N' 2 x c
theorem aaQ(a b:a_):f_ a b=decide (a=b):=by
 cases h:f_ a b
 .exact(bT λk=>by rw[k,JA]at h;cases h).symm
 .exact(bP (wj h)).symm
theorem aaR(a b:a_):fk 3 (kT a) (kT b)=f (f_ a b):=(eqK 2 a b).trans (c8 f (aaQ a b).symm)
theorem aea(a b:a_):fw ⟨0,.nil⟩ .ne (kT a) (kT b)=f (!(f_ a b)):=by show(match fk 3 (kT a) (kT b) with|f p=>f (!p) |V=>V)=_;exact J (aaR _ _) X
noncomputable abbrev keys (A:ZP):cf:=A.map (·.1)
structure jl(b:a_)(A:ZP):Prop where
 nd:(keys A).Nodup
 el:∀ p∈A,sm p.1/\p.2≠0/\p.2.natAbs<=b
theorem wa(c:a_):keyOf [.int ((c/256:a_):G),.int ((c/16%16:a_):G),.int ((c%16:a_):G)]=f (nq c):=rfl
theorem O1(h:nq c=nq d):c=d:=by injection h with Y h;injection h with L h;injection h with h3;exact G1 (vz Y) (vz L) (vz h3)
theorem nr:(nq c=nq d)=(c=d):=propext ⟨O1,λh=>by exact J h X⟩
theorem O2:au []=[]:=rfl
theorem dT(p:a_ × G)(A:ZP):au (p::A)=(nq p.1,zr p.2)::au A:=rfl
theorem cu(A:ZP):(au A).length=A.length:=cw _
noncomputable def rL (c:a_):ZP->af G|[]=>V|p::r=>if p.1=c then f p.2 else rL c r
theorem sX(c:a_):∀ A:ZP,jR (au A) (nq c)=(rL c A).map zr:=λw'=>by induction w' with|nil=>exact X|cons p A ih=>
  dsimp only[dT,jR,rL,nr];simp only[dT,nr];split
  .rfl
  .exact ih
theorem pJ(c:a_)(n:G):∀ A:ZP,iI (au A) (nq c) (zr n)=au (mm c n A):=λw'=>by induction w' with|nil=>exact X|cons p A ih=>
  dsimp only[dT,iI,mm,nr];simp -iota only [dT,nr];by_cases h:p.1=c
  .clear ih;subst h;simp[dT]
  .refine J (ak h) (J (KX h) ?_);simp only[dT,ih]
theorem ED(c:a_):∀ A:ZP,lK (au A) (nq c)=au (oB c A):=λw'=>by induction w' with|nil=>exact X|cons p A ih=>
  dsimp only[dT,lK,oB,nr];simp -iota only [dT,nr];by_cases h:p.1=c
  .clear ih;subst h;simp[]
  .refine J (ak h) (J (KX h) ?_);simp only[dT,ih]
theorem O3:∀{A:ZP},rL c A=f n->(c,n)∈A:=by intro w';induction w' with|nil=>intro h;exact nS h|cons p A ih=>
  intro h;dsimp only[rL]at h;split at h
  rename_i q
  rotate_left;rotate_left
  .obtain rfl:=aw h;clear ih;subst q;exact aQ
  .exact bg _ (ih h)
theorem Jg:∀{A:ZP},(keys A).Nodup->(c,n)∈A->rL c A=f n:=by intro w';induction w' with|nil=>(intro O h;cases h)|cons p A ih=>
  intro hn h;dsimp only[keys]at hn;rw[bW,gw]at hn;dsimp only[rL];rcases aT.mp h with h|h
  .clear hn;subst h;exact ai X
  .rw[ak,ih hn.2 h];intro q;exact hn.1 (q▸eR.mpr ⟨_,h,X⟩)
theorem G2:∀{A:ZP},rL c A=.none->fP c n A=mm c n A:=by intro w';induction w' with|nil=>intro O;exact X|cons p A ih=>intro h;revert h;refine C7 sN λq h=>?_;dsimp only[fP,mm];(exact J (KX q) (J (ih h) X))
theorem fz(n:G):zg n=decide (n=0):=by cases n with|ofNat n=>(cases n<;>(dsimp only[zg];simp);rfl)|negSucc n=>rfl
theorem G3:∀{A:ZP},rL c A=f m->fP c n A=if m+n=0 then oB c A else mm c (m+n) A:=by intro w';induction w' with|nil=>intro h;exact nS h|cons p A ih=>
  intro h;dsimp only[rL]at h;split at h
  rename_i q
  rotate_left
  rename_i q
  rotate_left
  .obtain rfl:=aw h;clear ih;subst q;dsimp only[fP,oB,mm];refine J (JA _) (J (fz _) ?_);by_cases h0:p.2+n=0
   .exact J (ai h0) (J (bP (show Q? p.2 n=0 from h0)) X)
   ·(refine J (ak h0) (J (bT (show ¬ Q? p.2 n=0 from h0)) ?_));rfl
  .dsimp only[fP,oB,mm];(refine J (KX q) (J (ih h) ?_));by_cases z:m+n=0
   .exact J (ai z) (J (ai z) X)
   .exact J (ak z) (J (ak z) X)
theorem KY:∀{A:ZP},(keys A).Nodup->∀ p∈fP c n A,(p∈A/\p.1≠c)\/(p.1=c/\((c∉keys A/\p.2=n)\/∃ m,(c,m)∈A/\p.2=m+n/\p.2≠0)):=by intro w';induction w' with|nil=>intro O p h;(dsimp only[fP]at h;rw[az]at h);subst h;exact .inr ⟨X,.inl ⟨fH,X⟩⟩|cons q A ih=>
  intro hn p h;(dsimp only[keys]at hn;rw[bW,gw]at hn);dsimp only[fP]at h;revert h;cases e:f_ q.1 c<;>intro h;rotate_left
  .have e:=wj e;have out:∀ p∈A,p.1≠c:=λp hp e'=>hn.1 (e▸e'▸eR.mpr ⟨p,hp,X⟩);revert h;cases z:zg (Q? q.2 n)<;>intro h;rotate_left
   .exact .inl ⟨bg _ h,out p h⟩
   .rw[fz,uK]at z;rcases aT.mp h with h|h
    .subst h;exact .inr ⟨X,.inr ⟨q.2,by refine dR e ?_;exact aQ,X,z⟩⟩
    .exact .inl ⟨bg _ h,out p h⟩
  .have e:=L2 e;rcases aT.mp h with h|h
   .clear hn;subst h;exact .inl ⟨aQ,e⟩
   .rcases ih hn.2 p h with ⟨a,b⟩|⟨a,⟨b,d⟩|⟨m,b,d,K'⟩⟩
    .exact .inl ⟨bg _ a,b⟩
    .refine .inr ⟨a,.inl ⟨?_,d⟩⟩;(dsimp only[keys];refine J bW (J (propext aT) (J (propext wx) ?_)));exact⟨kx e,b⟩
    .exact .inr ⟨a,.inr ⟨m,bg _ b,d,K'⟩⟩
theorem G4:∀{A:ZP} {k:a_},k∈keys (fP c n A)->k∈keys A\/k=c:=by intro w';induction w' with|nil=>intro k h;(dsimp only[fP,keys]at h;simp only[bW,mI,az]at h);exact .inr h|cons q A ih=>
  intro k h;dsimp only[fP]at h;revert h;cases e:f_ q.1 c<;>intro h;rotate_left
  .revert h;cases q_:zg (Q? q.2 n)<;>intro h;rotate_left
   .exact .inl (bg _ h)
   .rcases aT.mp h with h|h
    .exact .inr h
    .exact .inl (bg _ h)
  .rcases aT.mp h with h|h
   .left;exact J h aQ
   .exact(ih h).imp (bg _) id
theorem EE:∀{A:ZP},(keys A).Nodup->(keys (fP c n A)).Nodup:=by intro w';induction w' with|nil=>intro O;dsimp only[fP,keys];simp|cons q A ih=>
  intro hn;have hn0:=hn;dsimp only[keys]at hn;rw[bW,gw]at hn;dsimp only[fP];cases e:f_ q.1 c;rotate_left
  .cases q_:zg (Q? q.2 n);rotate_left
   .exact hn.2
   .exact dR (wj e) hn0
  .show(q.1::keys (fP c n A)).Nodup;refine J (propext gw) ⟨λh=>?_,ih hn.2⟩;rcases G4 h with h|h
   .exact hn.1 h
   .exact(L2 e) h
theorem KZ:∀(n:a_) (l:cf),l.Nodup->(∀ x∈l,x<n)->l.length<=n:=λw'=>by induction w' with|zero=>(intro l O h;cases l with|nil=>exact fB _|cons x l=>exact g_ (h x aQ) (L4 _))|succ n ih=>
  intro l hn h
  have Y:=ih (l.erase n) (hn.erase n) λx hx=>by
   rw[hn.mem_erase_iff]at hx
   have:=h x hx.2
   lia
  by_cases hm:n∈l
  .rw[List.length_erase_of_mem hm]at Y;lia
  .rw[List.erase_of_not_mem hm]at Y;lia
theorem jl.length(h:jl b A):A.length<=1536:=by
 have:=KZ 1536 (keys A) h.nd λx hx=>by refine ah (eR.mp hx) λp hp fJ=>?_;clear hx;subst fJ;exact(Nat.div_lt_iff_lt_mul (by decide:0<256)).mp (h.el p hp).1.1
 simpa [keys]using this
theorem jl.mono(h:jl b A)(q:b<=b'):jl b' A:=⟨h.nd,λp hp=>⟨(h.el p hp).1,(h.el p hp).2.1,aR (h.el p hp).2.2 q⟩⟩
theorem Jh(t:G):fw ⟨0,.nil⟩ .eq (zr t) (.tup [.int 0,.int 1])=f (decide (t=0)):=by dsimp only[fw,fk,Fh];simp
theorem Xn(hA:∀ p∈A,p.2.natAbs<2^62)(hn:n.natAbs<2^62)(h0:n≠0)(hl:A.length<=lim):cZ.fn [.dict (au A),.b (kT c),.b (zr n)]=f (.dict (au (fP c n A))):=by show fR pv.fn [.dict (au A),.b (kT c),.b (zr n)]=_;dsimp only[fR,wa,sX];refine J (sX _ _) ?_;cases hz:rL c A with|none=>dsimp only[Option.map];refine J (Jh _) (J (bT h0) ?_);dsimp only;exact J (cu _) (J (ai hl) (J (pJ _ _ _) (J (G2 hz) X)))|some m=>
  have hm:=hA _ (O3 hz);dsimp only[Option.map_some];refine J (OU m n (by lia) (by lia)) ?_;dsimp only;refine J (Jh _) (J (G3 hz) ?_);by_cases h:m+n=0
  .refine J (bP h) (J (ai h) ?_);dsimp only;exact J (ED _ _) (J (cu _) (J (ai hl) X))
  .refine J (bT h) (J (ak h) ?_);dsimp only;exact J (pJ _ _ _) (J (cu _) (J (ai hl) X))
def pK(ha A:ZP):ZP:=ha.foldl (λG' p=>fP p.1 p.2 G') A
structure O4(b c:a_)(S:cf)(A:ZP):Prop where
 nd:(keys A).Nodup
 el:∀ p∈A,sm p.1/\p.2≠0/\p.2.natAbs<=b+c/\(p.1∉S->p.2.natAbs<=b)
theorem O4.step(h:O4 b c S A)(hk:k∉S)(hs:sm k)(h0:n≠0)(hn:n.natAbs<=c):O4 b c (k::S) (fP k n A):=by
 refine⟨EE h.nd,λp hp=>?_⟩;rcases KY h.nd p hp with ⟨a,d⟩|⟨a,⟨d,K'⟩|⟨m,d,K',g⟩⟩
 .refine jh (h.el p a) λe1 e2 e3 e4=>?_;exact qI e1 e2 e3 (λq=>e4 λw=>q (bg _ w))
 .refine J a (J K' ?_);exact qI hs h0 (aR hn (rS _ _)) (λq=>g_ aQ q)
 .refine jh (h.el _ d) λe1 e2 e3 e4=>J a ?_;exact qI hs g (J K' (nab (e4 hk) hn)) (λq=>g_ aQ q)
theorem O4.len(h:O4 b c S A):A.length<=1536:=jl.length (b:=b+c) ⟨h.nd,λp hp=>⟨(h.el p hp).1,(h.el p hp).2.1,(h.el p hp).2.2.1⟩⟩
theorem O5:∀(ha:ZP) (S:cf) (A:ZP),O4 b c S A->(keys ha).Nodup->(∀ p∈ha,p.1∉S/\sm p.1/\p.2≠0/\p.2.natAbs<=c)->jl (b+c) (pK ha A):=λw'=>by induction w' with|nil=>intro S A h O O;exact⟨h.nd,λp hp=>⟨(h.el p hp).1,(h.el p hp).2.1,(h.el p hp).2.2.1⟩⟩|cons q ha ih=>
  intro S A h hn hB;refine jh (hB q aQ) λY L h3 h4=>?_;dsimp only[keys]at hn;rw[bW,gw]at hn;refine ih (q.1::S) (fP q.1 q.2 A) (h.step Y L h3 h4) hn.2 λp hp=>jh (hB p (bg _ hp)) λk1 k2 k3 k4=>?_;refine qI (λw=>?_) k2 k3 k4;rcases aT.mp w with w|w
  .exact hn.1 (w▸eR.mpr ⟨p,hp,X⟩)
  .exact k1 w
theorem EF(h:sm c):smallKey (nq c)=R:=by dsimp only[sm]at h;dsimp only[smallKey,nq];simp[h.1,h.2.1,h.2.2]
theorem Ar(h:jl b A):(au A).all (λp=>smallKey p.1)=R:=by refine J (propext mG) ?_;intro p hp;refine ah (eR.mp hp) λq hq fJ=>?_;clear hp;subst fJ;exact EF (h.el q hq).1
theorem G5:aD mu (.expr (.call K' F P as)) M=(match P.mu with|R=>(match as with|.cons (.var i) r=>(match mu.contains i with|R=>(match ax r M with|f (.tup Vs)=>(match (allB Vs).isSome with|R=>(match isObj (bf M i) with|R=>ly M i (P.fn (bf M i::Vs))|N'=>V)|N'=>V)|_=>V)|N'=>V)|_=>V)|N'=>match ax as M with|f (.tup Vs)=>(match P.fn Vs with|f O=>f (M,.next)|V=>V)|_=>V):=rfl
theorem Ss(hm:P.mu=R)(hi:mu.contains i=R)(hr:ax r M=f (.tup Vs))(hb:(allB Vs).isSome=R)(ho:isObj (bf M i)=R)(hf:P.fn (bf M i::Vs)=f iv):aD mu (.expr (.call K' F P (.cons (.var i) r))) M=f (bM M i iv,.next):=by refine J G5 (J hm ?_);dsimp only;refine J hi ?_;refine J hr ?_;dsimp only;refine J hb ?_;refine J ho ?_;exact J hf X
theorem G6(hb:b+c<2^62):∀(ha:ZP) (S:cf) (A:ZP) (pw:PV),O4 b c S A->(keys ha).Nodup->(∀ p∈ha,p.1∉S/\sm p.1/\p.2≠0/\p.2.natAbs<=c)->(∀ p∈ha,ml (.dict E) (.b (kT p.1))=f (.b (zr p.2))) ->
  ∃ Fo,dQ (cn (aD [2] gW.tl.hd.body) [3]) (ha.map λp=>.b (kT p.1)) [ρ,.dict E,.dict (au A),pw]=f ([ρ,.dict E,.dict (au (pK ha A)),Fo],.next):=by
 intro w9;induction w9 with|nil=>intro S A pw h O O O;exact⟨pw,X⟩|cons q ha IH=>
  intro S A pw h hn hB hE;refine jh (hB q aQ) λY L h3 h4=>?_;dsimp only[keys]at hn;rw[bW,gw]at hn;have hq:=hE q aQ;have aaS:cn (aD [2] gW.tl.hd.body) [3] (.b (kT q.1)) [ρ,.dict E,.dict (au A),pw]=f ([ρ,.dict E,.dict (au (fP q.1 q.2 A)),.b (kT q.1)],.next):=by show aD [2] (.seq (.expr (.call "add_term" jz cZ (.cons (.var 2) (.cons (.var 3) (.cons (.idx (.var 1) (.var 3)) .nil))))) .skip) [ρ,.dict E,.dict (au A),.b (kT q.1)]=_;exact(ag (Ss (i:=2) (M:=[ρ,.dict E,.dict (au A),.b (kT q.1)]) GY X (bE (A:=.b (kT q.1)) X (eI (A:=.dict E) (I:=.b (kT q.1)) X X hq)) X X (Xn (A:=A) (c:=q.1) (n:=q.2) (λp hp=>by have:=(h.el p hp).2.2.1;exact oh ‹_› ‹_›) (by lia) h3 (aR h.len (by decide))))).trans X
  obtain⟨Fo,ih⟩:=IH (q.1::S) (fP q.1 q.2 A) (.b (kT q.1)) (h.step Y L h3 h4) hn.2 (λp hp=>by
   refine jh (hB p (bg _ hp)) λk1 k2 k3 k4=>?_;refine qI (λw=>?_) k2 k3 k4;rcases aT.mp w with w|w
   .exact hn.1 (w▸eR.mpr ⟨p,hp,X⟩)
   .exact k1 w) λp hp=>hE p (bg _ hp)
  refine⟨Fo,?_⟩;dsimp only[Gq,dQ];exact J aaS ih
theorem oe(h:jl b A):∀ p∈A,ml (.dict (au A)) (.b (kT p.1))=f (.b (zr p.2)):=λp hp=>by dsimp only[ml];simp only[wa,sX,Jg h.nd hp,zD]
theorem jl.O4(h:jl b A):O4 b c [] A:=⟨h.nd,λp hp=>⟨(h.el p hp).1,(h.el p hp).2.1,by have:=(h.el p hp).2.2;lia,λO=>(h.el p hp).2.2⟩⟩
theorem Su(hA:jl b A)(hB:jl c ha)(hb:b+c<2^62):BV.fn [.dict (au A),.dict (au ha)]=f (.dict (au (pK ha A)))/\jl (b+c) (pK ha A):=by
 have hB':∀ p∈ha,p.1∉([]:cf)/\sm p.1/\p.2≠0/\p.2.natAbs<=c:=λp hp=>⟨fH,hB.el p hp⟩;refine⟨?_,O5 ha [] A hA.O4 hB.nd hB'⟩;obtain⟨Fo,hl⟩:=G6 hb (ρ:=.dict (au A)) (E:=au ha) ha [] A .any hA.O4 hB.nd hB' (oe hB);have xi:(au ha).map (λp=>PV.b (iH p.1))=ha.map λp=>.b (kT p.1):=by exact J fE X
 have hlen:A.length<=lim:=aR hA.length (by decide);have e1:aD [2] gW.hd [.dict (au A),.dict (au ha),.any,.any]=f ([.dict (au A),.dict (au ha),.dict (au A),.any],.next):=by dsimp only[gW,CS.hd,aD,ax,bf,bM,ro,fresh,WJ,tu];simp[Ar hA,cu,hlen]
 have e2:aD [2] gW.tl.hd [.dict (au A),.dict (au ha),.dict (au A),.any]=f ([.dict (au A),.dict (au ha),.dict (au (pK ha A)),Fo],.next):=
  (jO (i:=1) (ik:=.plain) (C':=[3]) (b:=gW.tl.hd.body) X X (by(dsimp only[bf,D3];exact J xi X))).trans hl
 have e3:aD [2] gW.tl.tl [.dict (au A),.dict (au ha),.dict (au (pK ha A)),Fo]=f ([.dict (au A),.dict (au ha),.dict (au (pK ha A)),Fo],.ret (.dict (au (pK ha A)))):=by dsimp only[gW,CS.tl,aD,ax,bf]
 exact aI (mu:=[2]) (np:=2) (more:=2) (ha:=gW) (as:=[.dict (au A),.dict (au ha)]) X ((ag e1).trans ((ag e2).trans e3))
theorem EG:∀{A:ZP},c∉keys A->mm c n A=A++[(c,n)]:=by intro w';induction w' with|nil=>intro O;exact X|cons p A ih=>intro h;dsimp only[keys]at h;rw[bW,aT,wx]at h;dsimp only[mm];(exact J (KX (kx h.1)) (J (ih h.2) (J Mb X)))
theorem K4{K':PV->af (aA × AV)}{φ:a_ × G->a_ × G}:∀(A G':ZP),(∀ p∈A,K' (.b (kT p.1))=f (nq (φ p).1,zr (φ p).2))->(keys (A.map φ)).Nodup->(∀ k∈keys (A.map φ),k∉keys G') ->
  Ae K' (A.map λp=>.b (kT p.1)) (au G')=f (au (G'++A.map φ)):=by
 intro w';induction w' with|nil=>intro G' O O O;exact J mI (J mI (J (HH _) X))|cons p A ih=>
  intro G' hf hn hd;dsimp only[keys]at hn;simp only[bW,gw]at hn;dsimp only[Gq,Ae];refine J (hf p aQ) ?_;dsimp only;refine J (pJ _ _ _) (J (EG (hd (φ p).1 (by(dsimp only[keys];simp)))) ?_);rw[ih (G'++[φ p]) (λq hq=>hf q (bg _ hq)) hn.2 λk hk=>?_]
  .simp
  .dsimp only[keys];refine J CU (J (propext fG) (J bW (J mI (J (propext az) (J (propext wx) ?_)))));refine⟨hd k (bg _ hk),?_⟩;rintro rfl;exact hn.1 hk
theorem qh(A:ZP):(au A).map (λp=>PV.b (iH p.1))=A.map λp=>.b (kT p.1):=by exact J fE X
theorem rM{K':PV->af (aA × AV)}{φ:a_ × G->a_ × G}(hf:∀ p∈A,K' (.b (kT p.1))=f (nq (φ p).1,zr (φ p).2))(hn:(keys (A.map φ)).Nodup)(hl:A.length<=lim) :
  BF (f (.dict (au A))) .plain K'=f (.dict (au (A.map φ))):=by
 have:=K4 A [] hf hn λk O h=>fH h
 simp only[O2,CV]at this;dsimp only[BF,D3];simp only[qh,cw,hl,gv,this,cu]
theorem ux{w:a_ × G->G}:keys (A.map λp=>(p.1,w p))=keys A:=by dsimp only[keys];simp[Function.comp_def]
theorem jl.map(h:jl b A){w:a_ × G->G}(hw:∀ p∈A,w p≠0/\(w p).natAbs<=c):jl c (A.map λp=>(p.1,w p)):=by refine⟨by refine J ux ?_;exact h.nd,λp hp=>?_⟩;((refine ah (eR.mp hp) λq hq fJ=>?_;clear hp;subst fJ));exact⟨(h.el q hq).1,hw q hq⟩
theorem jl.lim(h:jl b A):A.length<=lim:=aR h.length (by decide)
theorem Sv(hA:jl b A):BY.fn [.dict (au A)]=f (.dict (au (A.map λp=>(p.1,-p.2))))/\jl b (A.map λp=>(p.1,-p.2)):=by
 refine⟨?_,hA.map λp hp=>⟨by have:=(hA.el p hp).2.1;lia,by exact J (Int.natAbs_neg _) ((hA.el p hp).2.2)⟩⟩;have e1:aD [] p8 [.dict (au A),.any]=f ([.dict (au A),.any],.ret (.dict (au (A.map λp=>(p.1,-p.2))))):=by dsimp only[p8,aD,ax,bf];rw[rM (φ:=λp=>(p.1,-p.2)) (λp hp=>?_) (by rw[ux];exact hA.nd) hA.lim];have Y:=oe hA p hp;have L:=Xg p.2;dsimp only[zr]at Y L;dsimp only[xx,cS,bM,bf,keyOf];simp[Y,L,Xc];rfl
 exact aI (mu:=[]) (np:=1) (more:=1) (ha:=p8) (as:=[.dict (au A)]) X e1
theorem Sw(hA:jl b A)(hB:jl c ha)(hb:b+c<2^62):qa.fn [.dict (au A),.dict (au ha)]=f (.dict (au (pK (ha.map λp=>(p.1,-p.2)) A)))/\jl (b+c) (pK (ha.map λp=>(p.1,-p.2)) A):=by refine cC (Sv hB) λY L=>?_;refine cC (Su hA L hb) λh3 h4=>?_;refine⟨?_,h4⟩;show prun [] 2 0 v7 [.dict (au A),.dict (au ha)]=_;exact aI X (gc (ar X (bE X (ar X (eW X) Y)) h3))
theorem Ul(h:u≠0):fw ⟨0,.nil⟩ .eq (zr u) (.tup [.int 0,.int 1])=f N':=J (Jh _) (J (bT h) X)
theorem K5(hA:jl b A)(hu:u≠0)(U':b*u.natAbs<=c)(Y:b<2^63)(L:u.natAbs<2^63):t9.fn [.dict (au A),.b (zr u)]=f (.dict (au (A.map λp=>(p.1,p.2*u))))/\jl c (A.map λp=>(p.1,p.2*u)):=by
 refine⟨?_,hA.map λp hp=>⟨Int.mul_ne_zero (hA.el p hp).2.1 hu,by exact J (Jy _ _) (aR (zA _ (hA.el p hp).2.2) U')⟩⟩;have e0:aD [] ij.hd [.dict (au A),.b (zr u),.any]=f ([.dict (au A),.b (zr u),.any],.next):=by dsimp only[ij,CS.hd,aD,ax,bf,nL];simp[Ul hu]
 have e1:aD [] ij.tl [.dict (au A),.b (zr u),.any]=f ([.dict (au A),.b (zr u),.any],.ret (.dict (au (A.map λp=>(p.1,p.2*u))))):=by dsimp only[ij,CS.tl,aD,ax,bf];rw[rM (φ:=λp=>(p.1,p.2*u)) (λp hp=>?_) (by rw[ux];exact hA.nd) hA.lim];have h3:=oe hA p hp;have h4:=OV p.2 u (oh (hA.el p hp).2.2 Y) L;dsimp only[zr]at h3 h4;dsimp only[xx,cS,bM,bf,keyOf];simp[h3,h4,rI];rfl
 exact aI (mu:=[]) (np:=2) (more:=1) (ha:=ij) (as:=[.dict (au A),.b (zr u)]) X ((ag e0).trans e1)
theorem Xo(Y:sm a)(L:sm s):K3 ((a/256:a_)+(s/256:a_)) ((a/16%16:a_)+(s/16%16:a_)) ((a%16:a_)+(s%16:a_))=kT (a+s):=by refine dF (OY Y L) λa1 a2 a3=>?_;dsimp only[kT];simp only[a1,a2,a3,Int.natCast_add]
theorem As(hA:jl b A)(hs:sm s)(hk:∀ p∈A,sm (p.1+s))(hu:u≠0)(U':b*u.natAbs<=c)(Y:b<2^63)(L:u.natAbs<2^63) :
  jC.fn [.dict (au A),.b (kT s),.b (zr u)]=f (.dict (au (A.map λp=>(p.1+s,p.2*u))))/\jl c (A.map λp=>(p.1+s,p.2*u)):=by
 have CA:(keys (A.map λp=>(p.1+s,p.2*u))).Nodup:=by
  have:keys (A.map λp=>(p.1+s,p.2*u))=(keys A).map (·+s):=by(dsimp only[keys];simp[Function.comp_def])
  exact J this (List.Pairwise.map (λx=>x+s) (λa b (h:a≠b)=>by lia) hA.nd)
 refine⟨?_,CA,λp hp=>?_⟩
 .have e0:aD [] ip.hd [.dict (au A),.b (kT s),.b (zr u),.any]=f ([.dict (au A),.b (kT s),.b (zr u),.any],.next):=by dsimp only[ip,CS.hd,aD,ax,bf,nL];simp[Ul hu]
  have e1:aD [] ip.tl [.dict (au A),.b (kT s),.b (zr u),.any]=f ([.dict (au A),.b (kT s),.b (zr u),.any],.ret (.dict (au (A.map λp=>(p.1+s,p.2*u))))):=by dsimp only[ip,CS.tl,aD,ax,bf];rw[rM (φ:=λp=>(p.1+s,p.2*u)) (λp hp=>?_) CA hA.lim];have h3:=oe hA p hp;have h4:=OV p.2 u (oh (hA.el p hp).2.2 Y) L;have h5:=KU ((p.1/256:a_):G) ((p.1/16%16:a_):G) ((p.1%16:a_):G) ((s/256:a_):G) ((s/16%16:a_):G) ((s%16:a_):G);rw[Xo (hA.el p hp).1 hs]at h5;dsimp only[kT,K3,zr]at h3 h4 h5;dsimp only[xx,cS,bM,bf,h3,h4,h5,rI,dE,keyOf];simp -iota [h3,h4,h5,rI,dE];dsimp only[xx,cS,bM,bf,h3,h4,h5,rI,dE,keyOf];simp -iota [h3,h4,h5,rI,dE];dsimp only[xx,cS,bM,bf,h3,h4,h5,rI,dE,keyOf];simp[h3,h4,h5,rI,dE];rfl
  exact aI (mu:=[]) (np:=3) (more:=1) (ha:=ip) (as:=[.dict (au A),.b (kT s),.b (zr u)]) X ((ag e0).trans e1)
 .refine ah (eR.mp hp) λq hq fJ=>?_;clear hp;subst fJ;exact⟨hk q hq,Int.mul_ne_zero (hA.el q hq).2.1 hu,by exact J (Jy _ _) (aR (zA _ (hA.el q hq).2.2) U')⟩
theorem qi:∀(r:ZP) (p:a_ × G),fQ r p∈p::r:=λw'=>by induction w' with|nil=>intro p;dsimp only[fQ];exact aQ|cons q r ih=>
  intro p;dsimp only[fQ];cases q_:m_ q.1 p.1;rotate_left
  .rcases aT.mp (ih p) with h|h
   .exact J h aQ
   .exact bg _ (bg _ h)
  .exact bg _ (ih q)
theorem K6{w:G->G}:∀(r:ZP) (p:a_ × G),fQ (r.map λq=>(q.1,w q.2)) (p.1,w p.2)=((fQ r p).1,w (fQ r p).2):=λw'=>by induction w' with|nil=>intro p;exact X|cons q r ih=>
  intro p;dsimp only[v_,fQ];refine J bW ?_;dsimp only[v_,fQ];cases q_:m_ q.1 p.1;rotate_left
  .exact ih p
  .exact ih q
theorem K7(hg:fw ⟨0,.nil⟩ .gt (K3 x y z) (K3 aj h1 xs)=f N'):cn (aD [] cF.tl.hd.body) [2] (.b (K3 x y z)) [ρ,.b (.str 0),pw,.b (K3 aj h1 xs),.b (K3 aj h1 xs),pl]=f ([ρ,.b (.str 0),.b (K3 x y z),.b (K3 aj h1 xs),.b (K3 aj h1 xs),.b (K3 x y z)],.next):=by have hk:d0.fn [.b (.str 0),.b (K3 x y z)]=f (.b (K3 x y z)):=j1 _ (by intro h;cases h);dsimp only[K3]at hk hg ⊢;dsimp only[cF,CS.hd,CS.tl,CS.body,cn,hk,hg,AV.isNone,dq,aD,ax,bf,bM,cS,ro,nL,dO];simp -iota [hk,hg,dq];dsimp only[cF,CS.hd,CS.tl,CS.body,cn,hk,hg,AV.isNone,dq,aD,ax,bf,bM,cS,ro,nL,dO];simp -iota [hk,hg,dq];dsimp only[cF,CS.hd,CS.tl,CS.body,cn,hk,hg,AV.isNone,dq,aD,ax,bf,bM,cS,ro,nL,dO]
theorem G7(hg:fw ⟨0,.nil⟩ .gt (K3 x y z) (K3 aj h1 xs)=f R):cn (aD [] cF.tl.hd.body) [2] (.b (K3 x y z)) [ρ,.b (.str 0),pw,.b (K3 aj h1 xs),.b (K3 aj h1 xs),pl]=f ([ρ,.b (.str 0),.b (K3 x y z),.b (K3 x y z),.b (K3 x y z),.b (K3 x y z)],.next):=by have hk:d0.fn [.b (.str 0),.b (K3 x y z)]=f (.b (K3 x y z)):=j1 _ (by intro h;cases h);dsimp only[K3]at hk hg ⊢;dsimp only[cF,CS.hd,CS.tl,CS.body,cn,hk,hg,AV.isNone,dq,aD,ax,bf,bM,ft,eh,cS,ro,F?,q?,nL,dO,ie,allB,v_,C?];simp -iota [hk,hg,dq,zE,uI,bW,mI];dsimp only[cF,CS.hd,CS.tl,CS.body,cn,hk,hg,AV.isNone,dq,aD,ax,bf,bM,ft,eh,cS,ro,F?,q?,nL,dO,ie,allB,v_,C?];simp -iota [hk,hg,dq,zE,uI,bW,mI];dsimp only[cF,CS.hd,CS.tl,CS.body,cn,hk,hg,AV.isNone,dq,aD,ax,bf,bM,ft,eh,cS,ro,F?,q?,nL,dO,ie,allB,v_,C?]
theorem G8:cn (aD [] cF.tl.hd.body) [2] (.b (K3 x y z)) [ρ,.b (.str 0),pw,.b .none,.b .none,pl]=f ([ρ,.b (.str 0),.b (K3 x y z),.b (K3 x y z),.b (K3 x y z),.b (K3 x y z)],.next):=by have hk:d0.fn [.b (.str 0),.b (K3 x y z)]=f (.b (K3 x y z)):=j1 _ (by intro h;cases h);dsimp only[K3]at hk ⊢;rfl
theorem O6(hD:ml ρ (.b (K3 x y z))=f (.b (zr n))):∃ M,aD [] cF.tl.tl [ρ,.b (.str 0),pw,.b (K3 x y z),.b (K3 x y z),pl]=f (M,.ret (.b (.tup [K3 x y z,zr n]))):=by cases ρ with|any=>exact nS hD|b w=>(cases w with|ub=>exact nS hD|_=>dsimp only[K3,zr]at hD ⊢;dsimp only[cF,CS.tl,aD,ax,bf,dO,AV.isNone,ie,allB];refine J hD ?_;exact⟨_,X⟩)|_=>dsimp only[K3,zr]at hD ⊢;dsimp only[cF,CS.tl,aD,ax,bf,dO,AV.isNone,ie,allB];refine J hD ?_;exact⟨_,X⟩
theorem EH:∀(r:ZP) (p:a_ × G) (pw pl:PV),∃ Fo Um,dQ (cn (aD [] cF.tl.hd.body) [2]) (r.map λq=>.b (kT q.1)) [ρ,.b (.str 0),pw,.b (kT p.1),.b (kT p.1),pl]=f ([ρ,.b (.str 0),Fo,.b (kT (fQ r p).1),.b (kT (fQ r p).1),Um],.next):=by intro w9;induction w9 with|nil=>intro p pw pl;exact⟨pw,pl,X⟩|cons q r IH=>
  intro p pw pl;refine C2 λGq kq=>?_;have hg:=ad8 q.1 p.1;by_cases h:q.1<=p.1
  .obtain⟨Fo,Um,ih⟩:=IH p (.b (kT q.1)) (.b (kT q.1));refine kq Fo Um ?_;dsimp only[fQ];(refine J bW (J (CH.mpr h) ?_));dsimp only[dQ];refine dR ih ?_;rw[bT (wo.mpr h)]at hg;exact J (K7 hg) X
  .obtain⟨Fo,Um,ih⟩:=IH q (.b (kT q.1)) (.b (kT q.1));refine kq Fo Um ?_;have hb:m_ q.1 p.1=N':=by cases e:m_ q.1 p.1 with|false=>rfl|true=>exact g_ (iC e) h
   dsimp only[fQ];(refine J bW (J hb ?_));dsimp only[dQ];refine dR ih ?_;rw[bP (Nat.not_le.mp h)]at hg;exact J (G7 hg) X
theorem yh(h:jl b (p::r)):eN.fn [.dict (au (p::r)),.b (.str 0)]=f (.b (.tup [kT (fQ r p).1,zr (fQ r p).2])):=by
 refine gx (EH (ρ:=.dict (au (p::r))) r p (.b (kT p.1)) (.b (kT p.1))) λFo Um hl=>?_;have e1:aD [] cF.hd [.dict (au (p::r)),.b (.str 0),.any,.any,.any,.any]=f ([.dict (au (p::r)),.b (.str 0),.any,.b .none,.b .none,.any],.next):=by dsimp only[cF,CS.hd,aD,ax,bM,ft,eh,ro,F?,q?,ie,allB,v_,C?];rfl
 have e2:aD [] cF.tl.hd [.dict (au (p::r)),.b (.str 0),.any,.b .none,.b .none,.any]=f ([.dict (au (p::r)),.b (.str 0),Fo,.b (kT (fQ r p).1),.b (kT (fQ r p).1),Um],.next):=by refine(jO (i:=0) (ik:=.plain) (C':=[2]) (b:=cF.tl.hd.body) (Z:=(p::r).map λq=>.b (kT q.1)) X X (by(dsimp only[bf,D3];exact J (qh _) X))).trans (dR hl (J bW ?_));dsimp only[dQ];exact J G8 X
 obtain⟨M,e3⟩:=O6 (pw:=Fo) (pl:=Um) (oe h _ (qi r p));exact aI (mu:=[]) (np:=2) (more:=4) (ha:=cF) (as:=[.dict (au (p::r)),.b (.str 0)]) X ((ag e1).trans ((ag e2).trans e3))
structure rN(e:ZE):Prop where
 ok:jl e.b e.p
 ld:∃ p r,e.p=p::r/\fQ r p=(e.l,1)
 bd:e.b<=1000000000
theorem EI:∀ P:ZP,Ox P=P.map λp=>(p.1,-p.2):=λw'=>by induction w' with|nil=>exact X|cons p P ih=>(dsimp only[Ox];refine J ih ?_);rfl
theorem qj(h:jl b P)(hb:b<=1000000000)(hz:rq b P=f e):gn.fn [.dict (au P),.b (.str 0)]=f (.dict (au e.p))/\rN e/\e.b=b/\∃ n,(e.l,n)∈P/\eN.fn [.dict (au P),.b (.str 0)]=f (.b (.tup [kT e.l,zr n])):=by cases P with|nil=>exact nS hz|cons p r=>
  have hl:=yh h;have key:∀ u:G,u≠0->u.natAbs<=1->rz.fn [.b (zr u)]=f (.b (zr u))->(fQ r p).2=u->gn.fn [.dict (au (p::r)),.b (.str 0)]=f (.dict (au ((p::r).map λq=>(q.1,q.2*u))))/\jl b ((p::r).map λq=>(q.1,q.2*u)):=λu h0 Y hr hu=>by refine cC (K5 (c:=b) h h0 (aR (HC b Y) (by simp)) (by lia) (by lia)) λh3 h4=>?_;refine⟨?_,h4⟩;rw[hu]at hl;show prun [] 2 1 p7 [.dict (au (p::r)),.b (.str 0)]=_;exact aI X ((ag (aB (ar X X hl) X)).trans (gc ((sV X).trans (ar X (bE X (ar X (eW X) hr)) h3))))
  have fC:=qi r p;revert hz;refine Zh (λc n U' hz=>?_) λc n U' hz=>?_
  .revert hz;refine cx (λY hz=>?_);have Y:=wj Y;subst Y;obtain rfl:=aw hz;refine cC (key 1 (by decide) (by decide) G0 (by exact J U' X)) λk1 k2=>?_
   have:((p::r).map λq=>(q.1,q.2*1))=p::r:=by simp
   rw[this]at k1 k2;refine⟨k1,⟨k2,⟨p,r,X,by exact J U' X⟩,hb⟩,X,1,?_,?_⟩
   .rw[U']at fC;exact fC
   .rw[U']at hl;exact hl
  .revert hz;refine cx (λY hz=>?_);have Y:=wj Y;subst Y;obtain rfl:=aw hz;refine cC (key (-1) (by decide) (by decide) Sp (by exact J U' X)) λk1 k2=>?_
   have:((p::r).map λq=>(q.1,q.2 * -1))=Ox (p::r):=by refine J (EI _) ?_;simp
   rw[this]at k1 k2;refine⟨k1,⟨k2,⟨(p.1,-p.2),r.map λq=>(q.1,-q.2),by simp[EI],?_⟩,hb⟩,X,-1,?_,?_⟩
   .exact J (K6 (w:=λn=>-n) r p) (J U' X)
   .rw[U']at fC;exact fC
   .rw[U']at hl;exact hl
theorem G9(hl:sm l)(U':sm c)(h:pg l c=R):sm (c-l)/\K3 ((c/256:a_)-(l/256:a_)) ((c/16%16:a_)-(l/16%16:a_)) ((c%16:a_)-(l%16:a_))=kT (c-l):=by obtain⟨⟨a1,a2,a3⟩,e1,e2,e3⟩:=OX hl U' h;dsimp only[sm,kT,K3];exact J e1 (J e2 (J e3 (J (UE a1) (J (UE a2) (J (UE a3) ⟨⟨oh (CN _ _) U'.1,oh (CN _ _) U'.2.1,oh (CN _ _) U'.2.2⟩,X⟩)))))
theorem Au(hl:sm l)(U':sm c):cH.fn [.b (kT l),.b (kT c)]=f (.b (.bool (pg l c))):=by refine J (OW _ _ _ _ _ _) (J (yg hl U') ?_);simp only[Qn]
abbrev pL(e:ZE):PV:=.b (.tup [kT e.l,zr 1])
theorem hU(i:a_)(v:AV)(r:aC):fy i (.b v::r)=.b (.tup [.int i,v])::fy (i+1) r:=rfl
theorem Ha(hd:cH.fn [.b (K3 x y z),.b (K3 aj h1 xs)]=f (.b (.bool R))):cn (aD [] bI.hd.body) [2,3] (.b (.tup [.int i,.tup [K3 x y z,zr 1]])) [.b (K3 aj h1 xs),h2,a,o]=f ([.b (K3 aj h1 xs),h2,.b (.int i),.b (.tup [K3 x y z,zr 1])],.ret (.b (.int i))):=by exact d8 ((cq ((EC X).trans (ar X (bE X X) hd))).trans X)
theorem EJ(hd:cH.fn [.b (K3 x y z),.b (K3 aj h1 xs)]=f (.b (.bool N'))):cn (aD [] bI.hd.body) [2,3] (.b (.tup [.int i,.tup [K3 x y z,zr 1]])) [.b (K3 aj h1 xs),h2,a,o]=f ([.b (K3 aj h1 xs),h2,.b (.int i),.b (.tup [K3 x y z,zr 1])],.next):=by exact(ag ((cq ((EC X).trans (ar X (bE X X) hd))).trans X)).trans X
theorem Hb(U':sm c):∀(Es:d_ ZE) (i:a_) (a o:PV),(∀ e∈Es,sm e.l)->(∃ a' o',dQ (cn (aD [] bI.hd.body) [2,3]) (fy i (Es.map pL)) [.b (kT c),h2,a,o]=match j9 c Es with|V=>f ([.b (kT c),h2,a',o'],.next)|f e=>f ([.b (kT c),h2,a',o'],.ret a'))/\∀ e,j9 c Es=f e->∃ j:a_,Es[j]?=f e/\pg e.l c=R/\∃ a' o',dQ (cn (aD [] bI.hd.body) [2,3]) (fy i (Es.map pL)) [.b (kT c),h2,a,o]=f ([.b (kT c),h2,a',o'],.ret (.b (.int ((i+j:a_):G)))):=by intro w';induction w' with|nil=>intro i a o O;exact⟨⟨a,o,X⟩,λe h=>by cases h⟩|cons e Es ih=>intro i a o hE;have he:=hE e aQ;have hd:=Au he U';dsimp only[v_,hU,dQ,j9];refine J (hU _ _ _) ?_;dsimp only[v_,hU,dQ,j9];cases hz:pg e.l c with|true=>rw[hz]at hd;exact J (Ha (h2:=h2) (a:=a) (o:=o) (i:=i) hd) ⟨⟨.b (.int i),.b (.tup [kT e.l,zr 1]),X⟩,λd hd=>by obtain rfl:=aw hd;exact⟨0,X,hz,_,_,X⟩⟩|false=>rw[hz]at hd;refine J (EJ (h2:=h2) (a:=a) (o:=o) (i:=i) hd) (cC (ih (i+1) (.b (.int i)) (.b (.tup [kT e.l,zr 1])) λd hd=>hE d (bg _ hd)) λY L=>⟨Y,λd hd=>?_⟩);obtain⟨j,k1,k2,a',o',k3⟩:=L d hd;refine⟨j+1,k1,k2,a',o',?_⟩;dsimp only;exact J k3 (J (show i+1+j=i+(j+1) from by omega) X)
theorem Ji(U':sm c)(hE:∀ e∈Es,sm e.l):(j9 c Es=.none->cO.fn [.b (kT c),.list (Es.map pL)]=f (.b (.int (-1)))) /\
  ∀ e,j9 c Es=f e->∃ j:a_,Es[j]?=f e/\pg e.l c=R/\cO.fn [.b (kT c),.list (Es.map pL)]=f (.b (.int (j:G))):=by
 obtain⟨⟨a',o',Y⟩,L⟩:=Hb U' (h2:=.list (Es.map pL)) Es 0 .any .any hE
 have e2:aD [] bI.hd [.b (kT c),.list (Es.map pL),.any,.any]=dQ (cn (aD [] bI.hd.body) [2,3]) (fy 0 (Es.map pL)) [.b (kT c),.list (Es.map pL),.any,.any]:=
  jO (i:=1) (ik:=.enum) (C':=[2,3]) (b:=bI.hd.body) X X X
 refine⟨λhz=>?_,λe hz=>?_⟩
 .rw[hz]at Y;have e3:aD [] bI.tl [.b (kT c),.list (Es.map pL),a',o']=f ([.b (kT c),.list (Es.map pL),a',o'],.ret (.b (.int (-1)))):=by rfl
  exact aI (mu:=[]) (np:=2) (more:=2) (ha:=bI) (as:=[.b (kT c),.list (Es.map pL)]) X ((ag (e2.trans Y)).trans e3)
 .obtain⟨j,k1,k2,a',o',k3⟩:=L e hz;rw[wq]at k3;exact kz j k1 k2 (aI (mu:=[]) (np:=2) (more:=2) (ha:=bI) (as:=[.b (kT c),.list (Es.map pL)]) X (d8 (e2.trans k3)))
theorem K8:aD mu (.aug k i e) M=(match mu.contains i with|R=>V|N'=>match bf M i with|.b (.int x)=>(match ax e M with|f (.b (.int y))=>(match cU k x y with|f z=>f (bM M i (.b (.int z)),.next)|V=>V)|_=>V)|_=>V):=rfl
theorem Sx(hm:mu.contains i=N')(hx:bf M i=M' x)(h:ax e M=f (M' y))(hb:cU k x y=f z):aD mu (.aug k i e) M=f (bM M i (M' z),.next):=by refine J K8 (J hm (J hx (J h ?_)));show(match cU k x y with|f z=>f (bM M i (M' z),kQ.next) |V=>V)=_;exact J hb X
theorem Cm:aD mu (.dd o i e) M=(match mu.contains o with|R=>(match ax e M with|f (.b v)=>(match ax i M with|f (.b M')=>ly M o (j8 (bf M o) M' v)|_=>V)|_=>V)|N'=>V):=rfl
theorem Hc:aD mu (.qu d k) M=(match mu.contains d with|R=>(match ax k M with|f (.b kv)=>ly M d (D5 N' (bf M d) kv)|_=>V)|N'=>V):=rfl
theorem Hd{mu:cf}{o:a_}{i e:CE}{M:aC}{v M':AV}{iv:PV}(hm:mu.contains o=R)(hv:ax e M=f (.b v))(hi:ax i M=f (.b M'))(h:j8 (bf M o) M' v=f iv):aD mu (.dd o i e) M=f (bM M o iv,.next):=by refine J Cm (J hm (J hv (J hi ?_)));show ly M o (j8 (bf M o) M' v)=_;exact J h X
theorem O7(hm:mu.contains d=R)(hk:ax k M=f (.b kv))(h:D5 N' (bf M d) kv=f iv):aD mu (.qu d k) M=f (bM M d iv,.next):=by refine J Hc (J hm (J hk ?_));show ly M d (D5 N' (bf M d) kv)=_;exact J h X
noncomputable abbrev DS (K':PV) (B1 L3:aC) (hc h2:c9) (wk:G) (a9 CD Av uy uz:PV):aC:=[K',.list B1,.b (.str 0),.list L3,.any,.b (.int 20000),.dict hc,.dict h2,.b (.int wk),a9,CD,Av,uy,uz,.any,.any,.any,.any,.any]
section
variable{K':PV}{B1 L3:aC}{hc h2:c9}{wk:G}{a9 CD Av uy uz:PV}
theorem w_T(hl:h2.length<=lim):ax dK (DS K' B1 L3 hc h2 wk a9 CD Av uy uz)=f (.b (.bool (decide (0<(h2.length:G))))):=
 cb (y:=0) (rJ (eW X) (ai hl)) X
theorem w_1(h:eN.fn [.dict h2,.b (.str 0)]=f (.b (.tup [k,v]))):aD [6,7] fU (DS K' B1 L3 hc h2 wk a9 CD Av uy uz)=f (DS K' B1 L3 hc h2 wk a9 (.b k) (.b v) uy uz,.next):=
 pI (ar X (bE X X) h) X X X
theorem w_2(hl:h2.length<=lim):aD [6,7] fV (DS K' B1 L3 hc h2 wk a9 CD Av uy uz)=f (DS K' B1 L3 hc h2 (wk+(h2.length:G)) a9 CD Av uy uz,.next):=
 Sx (x:=wk) (y:=(h2.length:G)) X X (rJ (eW X) (ai hl)) X
theorem w_3(Y:wk<=3000000)(L:qd.fn [.b (.tup v)]=f (.b (.bool N')))(hx:x<=20000)(hy:y<=20000)(hz:z<=20000):aD [6,7] fW (DS K' B1 L3 hc h2 wk a9 (.b (K3 x y z)) (.b (.tup v)) uy uz)=f (DS K' B1 L3 hc h2 wk a9 (.b (K3 x y z)) (.b (.tup v)) uy uz,.next):=by have e:ax (.bq (.cmp .gt aaH kb) [18] .plain iX) (DS K' B1 L3 hc h2 wk a9 (.b (K3 x y z)) (.b (.tup v)) uy uz)=f (.list [.b (.bool (decide (20000<x))),.b (.bool (decide (20000<y))),.b (.bool (decide (20000<z)))]):=X;rw[bT (by lia),bT (by lia),bT (by lia)]at e;exact(cq (GZ (cb (x:=wk) (y:=3000000) X X) (GZ (ar X (eW X) L) (rJ (iv:=.b (.bool N')) (eW e) X)))).trans (by rw[cmpInt,bT (by lia)];rfl)
theorem w_4(h:cO.fn [.b (.tup k),.list L3]=f (.b (.int j))):aD [6,7] fX (DS K' B1 L3 hc h2 wk a9 (.b (.tup k)) Av uy uz)=f (DS K' B1 L3 hc h2 wk (.b (.int j)) (.b (.tup k)) Av uy uz,.next):=
 aB (ar X (bE X X) h) X
theorem w_5(h:0<=j):aD [6,7] fY (DS K' B1 L3 hc h2 wk (.b (.int j)) CD Av uy uz)=f (DS K' B1 L3 hc h2 wk (.b (.int j)) CD Av uy uz,.next):=by exact(cq (cb (x:=j) (y:=0) X X)).trans (by(rw[cmpInt];refine J (bT (by lia)) ?_);rfl)
theorem aec{k v:al}{ks:aA}(Y:keyOf k=f ks)(L:hc.length<=lim)(h3:h2.length<=lim)(h4:(jR h2 ks).isSome=R) :
  aD [6,7] fY (DS K' B1 L3 hc h2 wk (.b (.int (-1))) (.b (.tup k)) (.b (.tup v)) uy uz)=f (DS K' B1 L3 (iI hc ks (.tup v)) (lK h2 ks) wk (.b (.int (-1))) (.b (.tup k)) (.b (.tup v)) uy uz,.cont):=by
 have hs:j8 (.dict hc) (.tup k) (.tup v)=f (.dict (iI hc ks (.tup v))):=by show(match keyOf k with|f k=>if hc.length<=lim then f (PV.dict (iI hc k (.tup v))) else V |V=>V)=_;exact J Y (ai L)
 have hp:D5 N' (.dict h2) (.tup k)=f (.dict (lK h2 ks)):=by show(match keyOf k with|f k=>if h2.length<=lim then(match N'||(jR h2 k).isSome with|R=>f (PV.dict (lK h2 k))|N'=>V) else .none |V=>V)=_;exact J Y ((ai h3).trans (by exact J h4 X))
 exact(cq (cb (x:=-1) (y:=0) X X)).trans ((ag (Hd (o:=6) (M:=DS K' B1 L3 hc h2 wk (.b (.int (-1))) (.b (.tup k)) (.b (.tup v)) uy uz) (M':=.tup k) (v:=.tup v) X X X hs)).trans ((ag (O7 (d:=7) (M:=DS K' B1 L3 (iI hc ks (.tup v)) h2 wk (.b (.int (-1))) (.b (.tup k)) (.b (.tup v)) uy uz) (kv:=.tup k) X X hp)).trans (sW X)))
theorem w_6(Y:yz L3 j=f (.b (.tup [.tup l,.tup c])))(h0:L3.length<=lim)(L:ck.fn [.b (.tup k),.b (.tup l)]=f (.b s))(h3:B0.fn [.b (.tup v),.b (.tup c)]=f (.b u)) :
  aD [6,7] iq (DS K' B1 L3 hc h2 wk (.b (.int j)) (.b (.tup k)) (.b (.tup v)) uy uz)=f (DS K' B1 L3 hc h2 wk (.b (.int j)) (.b (.tup k)) (.b (.tup v)) (.b s) (.b u),.next):=
 pI (Cj (bE (ar X (bE X (eI (A:=.b (.tup [.tup l,.tup c])) (I:=M' 0) (eI (A:=.list L3) (I:=M' j) X X ((ai h0).trans Y)) X X)) L) (ar X (bE X (eI (A:=.b (.tup [.tup l,.tup c])) (I:=M' 1) (eI (A:=.list L3) (I:=M' j) X X ((ai h0).trans Y)) X X)) h3)) X) X X X
theorem w_8(Y:yz B1 j=f (.dict Q))(h0:B1.length<=lim)(L:jC.fn [.dict Q,.b (.tup s),.b (.tup u)]=f (.dict S))(h3:qa.fn [.dict h2,.dict S]=f (.dict L')) :
  aD [6,7] jY (DS K' B1 L3 hc h2 wk (.b (.int j)) CD Av (.b (.tup s)) (.b (.tup u)))=f (DS K' B1 L3 hc L' wk (.b (.int j)) CD Av (.b (.tup s)) (.b (.tup u)),.next):=
 aB (ar X (bE X (ar X (nk (eI (A:=.list B1) (I:=M' j) X X ((ai h0).trans Y)) X X) L)) h3) X
end
structure QD(m:a_)(q:c9):Prop where
 len:q.length<=m
 el:∀ p∈q,∃ n:G,p.2=zr n/\n.natAbs<=m*1000000000
theorem O8:∀{q:c9} {p:aA × AV},p∈iI q k v->p∈q\/p.2=v:=by intro w';induction w' with|nil=>intro p h;(dsimp only[iI]at h;rw[az]at h);exact J h (.inr X)|cons x q ih=>
  intro p h;dsimp only[iI]at h;split at h;rotate_left;rotate_left
  .rcases aT.mp h with h|h
   .exact J h (.inr X)
   .exact .inl (bg _ h)
  .rcases aT.mp h with h|h
   .exact J h (.inl aQ)
   .exact(ih h).imp (bg _) id
theorem EK:∀{q:c9},(iI q k v).length<=q.length+1
 |[]=>by(dsimp only[iI];simp)
 |x::q=>by
  dsimp only[iI];split
  .simp
  .have:=EK (k:=k) (v:=v) (q:=q)
   simp only[fD];lia
theorem O9:∀{q:c9} {p:aA × AV},p∈lK q k->p∈q:=by intro w';induction w' with|nil=>intro p h;dsimp only[lK]at h;simp at h|cons x q ih=>
  intro p h;dsimp only[lK]at h;split at h;rotate_left;rotate_left
  .exact bg _ h
  .rcases aT.mp h with h|h
   .exact J h aQ
   .exact bg _ (ih h)
theorem EL:∀{q:c9},(lK q k).length<=q.length
 |[]=>by(dsimp only[lK];simp)
 |x::q=>by
  dsimp only[lK];split
  .simp
  .have:=EL (k:=k) (q:=q)
   simp only[fD];lia
theorem Pa:∀{q:c9},jR q k=f v->∃ p∈q,p.2=v:=by intro w';induction w' with|nil=>intro h;exact nS h|cons x q ih=>
  intro h;dsimp only[jR]at h;split at h;rotate_left;rotate_left
  .clear ih;obtain rfl:=aw h;exact aK x aQ X
  .exact ah (ih h) λp a b=>aK p (bg _ a) b
theorem Xq(h:QD m q)(hm:m<=1000)(s:a_)(hn:n.natAbs<=1000000000):∃ q',cZ.fn [.dict q,.b (kT s),.b (zr n)]=f (.dict q')/\QD (m+1) q':=by
 have hl:q.length<=lim:=aR h.len (aR hm (by dsimp only[lim];exact rS _ _));have up:∀ p∈q,∃ n:G,p.2=zr n/\n.natAbs<=(m+1)*1000000000:=λp hp=>by exact ah (h.el p hp) λn a b=>aK n a (aR b (zA _ (CJ m)))
 have step:∀ t:G,t.natAbs<=(m+1)*1000000000->∃ q',(match fw ⟨0,.nil⟩ .eq (zr t) (.tup [.int 0,.int 1]) with|f R=>if q.length<=lim then f (PV.dict (lK q (nq s))) else .none|f N'=>if q.length<=lim then f (PV.dict (iI q (nq s) (zr t))) else .none|V=>V)=f (.dict q')/\QD (m+1) q':=λt ht=>by
  refine J (Jh _) ?_;by_cases h0:t=0
  .refine J (bP h0) ?_;simp only[hl,gv];exact⟨_,X,aR EL (CK h.len),λp hp=>up p (O9 hp)⟩
  .refine J (bT h0) ?_;simp only[hl,gv];refine⟨_,X,aR EK (zB h.len),λp hp=>?_⟩;rcases O8 hp with hp|hp
   .exact up p hp
   .exact aK t hp ht
 show ∃ q',fR pv.fn [.dict q,.b (kT s),.b (zr n)]=_/\_;dsimp only[fR,wa];cases hz:jR q (nq s) with|none=>exact step n (by omega)|some v=>refine ah (Pa hz) λp hp fJ=>?_;clear hz;subst fJ;refine ah (h.el p hp) λk hk hb=>J hk ?_;dsimp only;exact J (OU k n (by omega) (by omega)) (step (k+n) (J (Nat.succ_mul m 1000000000) (nab hb hn)))
theorem Pb:∀{P h2 L':ZP},Ak s u P h2=f L'->(∀ p∈P,Yc (p_ p.1 s)=R)/\L'=pK (P.map λp=>(p.1+s,-(p.2*u))) h2:=by intro w';induction w' with|nil=>intro h2 L' h;dsimp only[Ak]at h;rw[dN]at h;exact⟨λO q=>g_ q fH,h.symm⟩|cons p P ih=>
  intro h2 L' h;revert h;refine cx (λhz h=>?_);refine cC (ih h) λY L=>?_;refine⟨λq hq=>?_,L⟩;rcases aT.mp hq with eE|hq
  .clear h L hq;subst eE;exact hz
  .exact Y q hq
theorem Pc(hL:jl b h2)(hP:jl bp P)(hs:sm s)(hu:u≠0)(hbp:bp<=1000000000)(hu2:u.natAbs<=1000000000)(hb:b+u.natAbs*bp<=1000000000)(h:Ak s u P h2=f L') :
  ∃ S,jC.fn [.dict (au P),.b (kT s),.b (zr u)]=f (.dict (au S))/\qa.fn [.dict (au h2),.dict (au S)]=f (.dict (au L'))/\jl (b+u.natAbs*bp) L':=by
 obtain⟨Y,iA⟩:=Pb h;clear h;subst iA;refine cC (As hP hs (λp hp=>OZ (hP.el p hp).1 hs (Y p hp)) hu (fB _) (by lia) (by lia)) λh3 h4=>?_;refine cC (Sw hL h4 (by refine J (CM bp _) ?_;lia)) λh5 h6=>?_;refine kz _ h3 ?_ ?_
 .exact J h5 (J fE X)
 .rw[fE,CM bp]at h6;exact h6
theorem EM:∀{A:ZP} {p:a_ × G},p∈mm c n A->p∈A\/p=(c,n):=by intro w';induction w' with|nil=>intro p h;(dsimp only[mm]at h;rw[az]at h);exact .inr h|cons q A ih=>
  intro p h;dsimp only[mm]at h;revert h;cases q_:f_ q.1 c<;>intro h;rotate_left
  .rcases aT.mp h with h|h
   .exact .inr h
   .exact .inl (bg _ h)
  .rcases aT.mp h with h|h
   .exact J h (.inl aQ)
   .exact(ih h).imp (bg _) id
theorem He:∀{A:ZP},(keys A).Nodup->(keys (mm c n A)).Nodup:=by intro w';induction w' with|nil=>intro O;dsimp only[mm,keys];simp|cons q A ih=>
  intro hn;have hn0:=hn;dsimp only[keys]at hn;rw[bW,gw]at hn;dsimp only[mm];cases e:f_ q.1 c;rotate_left
  .exact dR (wj e) hn0
  .show(q.1::keys (mm c n A)).Nodup;refine J (propext gw) ⟨λh=>?_,ih hn.2⟩;refine ah (eR.mp h) λp hp hq=>?_;rcases EM hp with hp|rfl
   .exact hn.1 (hq▸eR.mpr ⟨p,hp,X⟩)
   .exact(L2 e) hq.symm
theorem yi:∀{A:ZP},List.Sublist (oB c A) A:=by intro w';cases w' with|nil=>exact List.Sublist.refl _|cons q A=>
  dsimp only[oB];cases q_:f_ q.1 c;rotate_left
  .exact List.sublist_cons_self _ _
  .exact yi.cons₂ _
theorem jl.del(h:jl b A):jl b (oB c A):=⟨(yi.map (λx:a_ × G=>x.1)).nodup h.nd,λp hp=>h.el p (yi.mem hp)⟩
theorem jl.put(h:jl b A)(U':sm c)(h0:n≠0)(hn:n.natAbs<=b):jl b (mm c n A):=⟨He h.nd,λp hp=>by
 rcases EM hp with hp|rfl
 .exact h.el p hp
 .exact⟨U',h0,hn⟩⟩
theorem rN.CF(h:rN e):sm e.l:=by
 refine eD (h.ld) λp r Y L=>?_
 have:=qi r p
 rw[L,<-Y]at this;exact(h.ok.el _ this).1
abbrev dP(e:ZE):PV:=.dict (au e.p)
theorem l7{α:Type}(Z:d_ α)(j:a_):yz Z (j:G)=Z[j]?:=rfl
theorem Pd(h:sm c):((c/256:a_):G)<=20000/\((c/16%16:a_):G)<=20000/\((c%16:a_):G)<=20000:=by exact⟨Qn.mpr (aR (kD h.1) (by decide)),Qn.mpr (aR (kD h.2.1) (by decide)),Qn.mpr (aR (kD h.2.2) (by decide))⟩
theorem Xr(hE:∀ e∈Es,rN e)(hEl:Es.length<=1000):∀(n b:a_) (hc h2:ZP) (b':a_) (R':ZP) (wk:G) (m:a_) (qs:d_ (c9)) (a9 CD Av uy uz:PV) (σ:a_),Eh Es n b hc h2=f (b',R')->b<=1000000000->jl b h2->jl b hc->wk+n*1536<=3000000->qs.length=Es.length->(∀ q∈qs,QD m q)->m+n<=1000->n<=σ ->
  xD cZ.fn dK cP dC σ (DS K' (Es.map dP) (Es.map pL) (au hc) (au h2) wk a9 CD Av uy uz) qs=f (.dict (au R'))/\jl b' R'/\b'<=1000000000:=by
 intro w';induction w' with|zero=>intro b hc h2 b' R' wk m qs a9 CD Av uy uz σ h O O O O O O O O;exact nS h|succ n ih=>intro b hc z3 b' R' wk m qs a9 CD Av uy uz z14;cases z14 with|zero=>intro h O O O O O O O hN;lia|succ σ=>cases z3 with|nil=>(intro h hb hL hR hw hq hQ hm hN;dsimp only[Eh]at h;rw[dN,rP]at h;obtain⟨j5,mj⟩:=h;subst j5;subst mj;refine qH ?_ hR hb;dsimp only[xD];refine J (w_T (by exact jP _)) ?_;rfl)|cons p r=>
    intro h hb hL hR hw hq hQ hm hN;have Qg:(au (p::r)).length<=lim:=J (cu _) hL.lim;have Yg:(au hc).length<=lim:=J (cu _) hR.lim;have hlen:(au (p::r)).length<=1536:=J (cu _) hL.length;have fC:=qi r p;have Y:=yh hL;dsimp only[Eh]at h;rcases hca:fQ r p with ⟨c,a⟩;rw[hca]at h fC Y;simp -iota only  at h Y;refine dF (hL.el _ fC) λU' ha0 hab=>?_;simp only at U' ha0 hab;have hT:ax dK (DS K' (Es.map dP) (Es.map pL) (au hc) (au (p::r)) wk a9 CD Av uy uz)=f (.b (.bool R)):=by refine J (w_T Qg) ?_;simp[dT]
    have aaT:=KS a (by omega);refine dF (Pd U') λi1 i2 i3=>?_;have hls:∀ e∈Es,sm e.l:=λe he=>(hE e he).CF;obtain⟨hf0,hf1⟩:=Ji U' hls;have base:∀{j:G} {b12 b13:PV},cO.fn [.b (kT c),.list (Es.map pL)]=f (.b (.int j))->∀ aj,aD [6,7] (.seq fU (.seq fV (.seq fW (.seq fX aj)))) (DS K' (Es.map dP) (Es.map pL) (au hc) (au (p::r)) wk a9 CD Av b12 b13)=aD [6,7] aj (DS K' (Es.map dP) (Es.map pL) (au hc) (au (p::r)) (wk+((au (p::r)).length:G)) (.b (.int j)) (.b (kT c)) (.b (zr a)) b12 b13):=λhj aj=>by exact J (ag (w_1 Y)) (J (ag (w_2 Qg)) (J (ag (w_3 (by omega) aaT i1 i2 i3)) (J (ag (w_4 hj)) X)))
    dsimp only[xD];refine J hT ?_
    cases hz:j9 c Es with
    |none=>
     rw[hz]at h;simp only at h;have hD:aD [6,7] cP (DS K' (Es.map dP) (Es.map pL) (au hc) (au (p::r)) wk a9 CD Av uy uz)=f (DS K' (Es.map dP) (Es.map pL) (au (mm c a hc)) (au (oB c (p::r))) (wk+((au (p::r)).length:G)) (.b (.int (-1))) (.b (kT c)) (.b (zr a)) uy uz,.cont):=by refine J (show cP=.seq fU (.seq fV (.seq fW (.seq fX (.seq fY (.seq iq .skip))))) from X) (J (base (hf0 hz) _) ?_);exact J (sW (aec (wa c) Yg Qg (by rw[sX,Jg hL.nd fC];rfl))) (J (pJ _ _ _) (J (ED _ _) X))
     exact J hD (ih b (mm c a hc) (oB c (p::r)) b' R' _ m qs _ _ _ _ _ σ h hb hL.del (hR.put U' ha0 hab) (by lia) hq hQ (by exact kD ‹_›) (by lia))
    |some e=>
     rw[hz]at h;simp only at h;revert h;refine cx (λUn h=>?_);have Un:b+a.natAbs*e.b<=1000000000:=iC Un;revert h;refine zsZ (λL' hL' h=>ia λGq zq=>bY (hf1 e hz) λj hj hdv hfj=>?_);have heE:e∈Es:=dU hj;have he:=hE e heE;obtain⟨JW,hs2⟩:=G9 he.CF U' hdv;refine bY (Pc hL he.ok JW ha0 he.bd (by exact aR ‹_› ‹_›) Un hL') λS k1 k2 k3=>?_;refine zq ?_;clear zq;have hD:aD [6,7] cP (DS K' (Es.map dP) (Es.map pL) (au hc) (au (p::r)) wk a9 CD Av uy uz)=f (DS K' (Es.map dP) (Es.map pL) (au hc) (au (p::r)) (wk+((au (p::r)).length:G)) (.b (.int j)) (.b (kT c)) (.b (zr a)) (.b (kT (c-e.l))) (.b (zr a)),.next):=by refine J (show cP=.seq fU (.seq fV (.seq fW (.seq fX (.seq fY (.seq iq .skip))))) from X) (J (base hfj _) (J (ag (w_5 (Qm j))) ?_));have hq6:ck.fn [.b (kT c),.b (kT e.l)]=f (.b (kT (c-e.l))):=J (rK _ _ _ _ _ _) (J hs2 X);refine J (ag (w_6 (j:=(j:G)) (by rw[l7,mH,hj];rfl) (by rw[cw];dsimp only[lim];lia) hq6 (Xf a (by lia)))) ?_;rfl
     have RH:j<qs.length:=J hq ((mi.mp hj).1);have hqj:qs[j]?=f qs[j]:=lJ RH;refine ah (Xq (hQ _ (UL RH)) (by lia) (c-e.l) (n:=a) (by exact aR ‹_› ‹_›)) λq' hq1 Ye=>?_;have hD2:aD [6,7] dC (DS K' (Es.map dP) (Es.map pL) (au hc) (au (p::r)) (wk+((au (p::r)).length:G)) (.b (.int j)) (.b (kT c)) (.b (zr a)) (.b (kT (c-e.l))) (.b (zr a)))=f (DS K' (Es.map dP) (Es.map pL) (au hc) (au L') (wk+((au (p::r)).length:G)) (.b (.int j)) (.b (kT c)) (.b (zr a)) (.b (kT (c-e.l))) (.b (zr a)),.next):=by refine J (show dC=.seq jY .skip from X) (J (ag (w_8 (j:=(j:G)) (by rw[l7,mH,hj];rfl) (by rw[cw];dsimp only[lim];lia) k1 k2)) ?_);rfl
     refine J hD ?_;dsimp only[bf];refine J (show((j:G))=w_ j from X) ?_;refine J hqj ?_;dsimp only;refine J hq1 ?_;dsimp only;refine J (show(w_ j)=(j:G) from X) (J hD2 ?_);refine ih _ hc L' b' R' _ (m+1) (qs.set j q') _ _ _ _ _ σ h Un k3 (hR.mono (Nat.le_add_right _ _)) (by lia) (by exact J List.length_set hq) (λq hqm=>?_) (by lia) (by lia);rcases List.mem_or_eq_of_mem_set hqm with hqm|rfl
     .have:=hQ q hqm
      exact⟨CK this.len,λp hp=>ah (this.el p hp) λn x y=>⟨n,x,aR y (zA _ (CJ m))⟩⟩
     .exact Ye
theorem nt{α:Type}{g:PV->af (aC)}{K':α->PV}{w:α->aC}:∀(l:d_ α),(∀ x∈l,g (K' x)=f (w x))->lu g (l.map K')=f (l.flatMap w):=λw'=>by induction w' with|nil=>intro O;exact X|cons x l ih=>intro h;dsimp only[Gq,lu];refine J (h x aQ) ?_;dsimp only;exact J (ih λy hy=>h y (bg _ hy)) (J CR X)
theorem EN{α β:Type}(w:α->β):∀ l:d_ α,(l.flatMap λx=>[w x])=l.map w:=λw'=>by induction w' with|nil=>exact X|cons x l ih=>simp[ih]
theorem pM(h:rN e):eN.fn [dP e,.b (.str 0)]=f (pL e):=by
 refine eD (h.ld) λp r Y L=>?_
 have:=h.ok
 have k:=yh (Y▸this);rw[L]at k;show eN.fn [.dict (au e.p),.b (.str 0)]=_;exact J Y k
theorem bH{g:PV->af (aC)}(h:A=f iv)(Y:D3 ik iv=f Xs)(L:lu g Xs=f Ys)(h3:Ys.length<=lim):rn A ik g=f (.list Ys):=by(dsimp only[rn];(refine J h ?_;try dsimp only;refine J Y ?_;try dsimp only;refine J L ?_;try dsimp only;exact J (ai h3) X))
theorem fA(h:g (bM M i x)=f y):D4 g [i] M x=f [y]:=by dsimp only[D4,cS];exact J h X
theorem yj(hb:cS C' x M=f v1)(U':c v1=f (.b (.bool R)))(hg:g v1=f y):rm c g C' M x=f [y]:=by dsimp only[rm];refine J hb ?_;dsimp only;refine J U' ?_;dsimp only;exact J hg X
theorem Uo{K':PV->af (aC)}(Y:K' x=f [a])(L:K' y=f [b]):lu K' [x,y]=f [a,b]:=by dsimp only[lu];refine J Y ?_;dsimp only;exact J L X
theorem eP{g:PV->af (aC)}{α:Type}{K' w:α->PV}(l:d_ α)(h:∀ x∈l,g (K' x)=f [w x]):lu g (l.map K')=f (l.map w):=by exact J (nt (w:=λx=>[w x]) l h) (J (EN _ _) X)
theorem Sy{Es:d_ ZE}(hE:∀ e∈Es,rN e)(hl:Es.length<=lim){K':PV}:aD [6,7] di ([K',.list (Es.map dP),.b (.str 0)]++bz 16)=f ([K',.list (Es.map dP),.b (.str 0),.list (Es.map pL)]++bz 15,.next):=by refine aB (bH (iv:=.list (Es.map dP)) (Xs:=Es.map dP) (Ys:=Es.map pL) X X ?_ (by exact J (cw _) hl)) X;refine eP Es λe he=>fA ?_;dsimp only[ax,EB,bz,bM,bf,cons_append,nil_append];exact pM (hE e he)
noncomputable def EO (c:a_):al:=[.int ((c/256:a_):G),.int ((c/16%16:a_):G),.int ((c%16:a_):G)]
theorem Hf:∀(Z:aA) (a:G),(∀ x∈Z,x<=a)->iL (Z.map .int) a=f a:=λw'=>by induction w' with|nil=>intro a O;exact X|cons x Z ih=>
  intro a h
  have:=h x aQ
  dsimp only[Gq,iL];exact J (ak (by lia)) (ih a λy hy=>h y (bg _ hy))
theorem i7:∀ Z:al,allB (Z.map .b)=f Z:=λw'=>by induction w' with|nil=>exact X|cons x Z ih=>dsimp only[Gq,allB];exact J ih X
theorem Xt:WI (ax ph) .plain (ax m7) [16] [17] ([K',.list Bs,.b (.str 0),.list Ls,.any,.any,.dict hc,.dict h2,.b (.int 0)]++bz 10) (.b (K3 x y z))=f [.b (.int x),.b (.int y),.b (.int z)]:=by rfl
theorem Pe:∀ A:ZP,(A.flatMap λp=>(EO p.1).map PV.b).length=3*A.length:=λw'=>by induction w' with|nil=>exact X|cons p A ih=>refine J CR (J oi (J ih ?_));(dsimp only[EO];simp);lia
theorem Xu(hA:jl b A) :
  aD [6,7] dj ([.dict (au A),.list Bs,.b (.str 0),.list Ls,.any,.any,.dict hc,.dict h2,.b (.int 0)]++bz 10)=f ([.dict (au A),.list Bs,.b (.str 0),.list Ls,.any,.b (.int 20000),.dict hc,.dict h2,.b (.int 0)]++bz 10,.next):=by
 have hlen:(A.flatMap λp=>(EO p.1).map PV.b).length<=lim:=by
  have:=hA.length
  refine J (Pe _) ?_;dsimp only[lim];lia
 have Y:ax (.dH m7 [16] .plain bw [17] .plain ph) ([.dict (au A),.list Bs,.b (.str 0),.list Ls,.any,.any,.dict hc,.dict h2,.b (.int 0)]++bz 10)=f (.list (A.flatMap λp=>(EO p.1).map .b)):=by
  refine bH (iv:=.dict (au A)) (Xs:=A.map λp=>.b (kT p.1)) X (by(dsimp only[D3];exact J (qh _) X)) ?_ ?_
  .exact nt A λp hp=>Xt
  .exact hlen
 have L:allB ([.b (.int 20000)]++A.flatMap λp=>(EO p.1).map .b)=f ((20000::A.flatMap λp=>[((p.1/256:a_):G),((p.1/16%16:a_):G),((p.1%16:a_):G)]).map .int):=by
  have:[PV.b (.int 20000)]++(A.flatMap λp=>(EO p.1).map PV.b)=((20000::A.flatMap λp=>[((p.1/256:a_):G),((p.1/16%16:a_):G),((p.1%16:a_):G)]).map AV.int).map .b:=by simp only[bW,List.singleton_append,List.map_flatMap];rfl
  exact J this (J (i7 _) X)
 have h3:iL ((A.flatMap λp=>[((p.1/256:a_):G),((p.1/16%16:a_):G),((p.1%16:a_):G)]).map .int) 20000=f 20000:=by refine Hf _ _ λx hx=>ah (UT.mp hx) λp hp hx=>dF (Pd (hA.el p hp).1) λi1 i2 i3=>?_;simp only[aT,fH,or_false]at hx;rcases hx with rfl|rfl|rfl<;>assumption
 refine aB (iv:=.b (.int 20000)) ?_ X;show(match (match ax (.bin .add (.lst (bx (.glob "MOST_FAR" (.int 20000)))) (.dH m7 [16] .plain bw [17] .plain ph)) ([.dict (au A),.list Bs,.b (.str 0),.list Ls,.any,.any,.dict hc,.dict h2,.b (.int 0)]++bz 10) with|f x=>f (PV.tup [x])|V=>V) with|f (.tup Z)=>tu .yC Z|_=>V)=_;have h4:ax (.bin .add (.lst (bx (.glob "MOST_FAR" (.int 20000)))) (.dH m7 [16] .plain bw [17] .plain ph)) ([.dict (au A),.list Bs,.b (.str 0),.list Ls,.any,.any,.dict hc,.dict h2,.b (.int 0)]++bz 10)=f (.list ([.b (.int 20000)]++A.flatMap λp=>(EO p.1).map .b)):=by refine J mV (J Y ?_);show N7 .add (.list [.b (.int 20000)]) (.list (A.flatMap λp=>(EO p.1).map .b))=_;dsimp only[N7];simp only[fD,uL];exact ai ⟨by dsimp only[lim];exact rS _ _,hlen⟩
 refine J h4 ?_;dsimp only[tu,nM];simp only[L,bW,h3]
theorem Pf{b b':a_}{A hc:ZP}{Es:d_ ZE}(hA:jl b A)(hb:b<=1000000000)(hE:∀ e∈Es,rN e)(hEl:Es.length<=1000)(h:Eh Es 200 b [] A=f (b',hc)) :
  kR.fn [.dict (au A),.list (Es.map dP),.b (.str 0)]=f (.dict (au hc))/\jl b' hc/\b'<=1000000000:=by
 have hl:Es.length<=lim:=by unfold lim;lia
 have aeg:jl b ([]:ZP):=⟨rV,λO q=>g_ q fH⟩
 obtain⟨Y,L,h3⟩:=Xr (K':=.dict (au A)) hE hEl 200 b [] A b' hc 0 0 (k_ Es.length []) .any .any .any .any .any 100000 h hb hA aeg (by decide) (by exact YC) (λq hq=>by
  refine J ((List.mem_replicate.mp hq).2) ?_
  exact⟨fB _,λO q=>g_ q fH⟩) (by decide) (by decide)
 refine qH ?_ L h3;show jy cZ.fn di dj dK cP dC [.dict (au A),.list (Es.map dP),.b (.str 0)]=_;unfold jy;dsimp only;refine J (Sy hE hl) ?_;dsimp only;have hd:tu .dict [.dict (au A)]=f (.dict (au A)):=by dsimp only[tu];rw[ai];exact J (cu _) ⟨hA.lim,Ar hA⟩
 refine J hd ?_;dsimp only;have hm:=Xu hA (Bs:=Es.map dP) (Ls:=Es.map pL) (hc:=[]) (h2:=au A);rw[show bM (bM (bM ([PV.dict (au A),.list (Es.map dP),.b (.str 0),.list (Es.map pL)]++bz 15) 6 (.dict [])) 7 (.dict (au A))) 8 (.b (.int 0))=([.dict (au A),.list (Es.map dP),.b (.str 0),.list (Es.map pL),.any,.any,.dict [],.dict (au A),.b (.int 0)]++bz 10) from X,hm];(refine J (cw _) ?_;try dsimp only;refine J (ai hl) ?_;try dsimp only);exact Y
theorem sY(a b:a_):lA a b=if b>a then b else a:=by dsimp only[lA];cases h:m_ a b with|true=>have:=iC h;simp only;split<;>lia|false=>
  have:¬ a<=b:=λq=>by rw[CH.mpr q]at h;exact tF h
  simp only;exact J (ak (by lia)) X
theorem Jj(a b:a_):lL a b=if b<a then b else a:=by dsimp only[lL];cases h:m_ a b with|true=>have:=iC h;simp only;split<;>lia|false=>
  have:¬ a<=b:=λq=>by rw[CH.mpr q]at h;exact tF h
  simp only;exact J (ai (by lia)) X
theorem Pg(a b:a_):eM a b=lA (a/256) (b/256)*256+(lA (a/16%16) (b/16%16)*16+lA (a%16) (b%16)):=rfl
theorem sZ(Y:a<c)(L:b<c):lA a b<c:=by refine J (sY _ _) ?_;split<;>omega
theorem Xv(a b:a_):a<=lA a b:=by refine J (sY _ _) ?_;split<;>lia
theorem Xw(a b:a_):b<=lA a b:=by refine J (sY _ _) ?_;split<;>lia
theorem qm(Y:sm a)(L:sm b):eM a b/256=lA (a/256) (b/256)/\eM a b/16%16=lA (a/16%16) (b/16%16)/\eM a b%16=lA (a%16) (b%16):=by
 have:=dg (lA (a/256) (b/256)) (rT (sZ Y.2.1 L.2.1) (by decide)) (rT (sZ Y.2.2 L.2.2) (by decide))
 rwa [CM 256,CM 16,Nat.add_assoc,<-Pg]at this
theorem s8(Y:sm a)(L:sm b):sm (eM a b):=by refine dF (qm Y L) λe1 e2 e3=>?_;dsimp only[sm]at Y L ⊢;refine J e1 (J e2 (J e3 ?_));exact⟨sZ Y.1 L.1,sZ Y.2.1 L.2.1,sZ Y.2.2 L.2.2⟩
theorem Cn(Y:sm a)(L:sm b):eu.fn [.b (kT a),.b (kT b)]=f (.b (kT (eM a b))):=by
 refine dF (qm Y L) λe1 e2 e3=>?_;dsimp only[kT];simp only[Xh,e1,e2,e3]
 have c:∀ x y:a_,(if (y:G)>(x:G) then(y:G) else(x:G))=((lA x y:a_):G):=λx y=>by
  refine J (sY _ _) ?_;by_cases h:y>x
  .exact J (ai h) (J (ai (by lia)) X)
  .exact J (ak h) (J (ak (by lia)) X)
 simp only[c,c,c]
theorem Xx(Y:sm a)(L:sm b):pg a (eM a b)=R:=by refine dF (qm Y L) λe1 e2 e3=>?_;simp only[yg Y (s8 Y L),e1,e2,e3];simp only[Xv,decide_true,Yo]
theorem Xy(Y:sm a)(L:sm b):pg b (eM a b)=R:=by refine dF (qm Y L) λe1 e2 e3=>?_;simp only[yg L (s8 Y L),e1,e2,e3];simp only[Xw,decide_true,Yo]
theorem Ph(a b:a_):jZ.fn [.b (kT a),.b (kT b)]=f (.b (.bool (tY a b))):=by
 refine J (Sq _ _ _ _ _ _) ?_
 have c:∀ x y:a_,(if (y:G)<(x:G) then(y:G) else(x:G))=((lL x y:a_):G):=λx y=>by
  refine J (Jj _ _) ?_;by_cases h:y<x
  .exact J (ai h) (J (ai (by lia)) X)
  .exact J (ak h) (J (ak (by lia)) X)
 refine J (c _ _) (J (c _ _) (J (c _ _) ?_))
 have:tY a b=decide (((lL (a/256) (b/256):a_):G)+((lL (a/16%16) (b/16%16):a_):G)+((lL (a%16) (b%16):a_):G)=0):=by dsimp only[tY];show(match f_ (lL (a/256) (b/256)) 0 with|R=>(match f_ (lL (a/16%16) (b/16%16)) 0 with|R=>f_ (lL (a%16) (b%16)) 0|N'=>N')|N'=>N')=_;generalize lL (a/256) (b/256)=x;generalize lL (a/16%16) (b/16%16)=y;generalize lL (a%16) (b%16)=z;cases x with|zero=>(cases y with|zero=>(cases z with|zero=>rfl|succ z=>symm;exact bT (by omega))|succ y=>symm;exact bT (by omega))|succ x=>symm;exact bT (by omega)
 simp only[this]
theorem Xz(Y:eN.fn [.dict D1,.b (.str 0)]=f (.b (.tup [.tup l1,.tup u1])))(L:eN.fn [.dict D2,.b (.str 0)]=f (.b (.tup [.tup l2,.tup u2])))(h3:eu.fn [.b (.tup l1),.b (.tup l2)]=f (.b (.tup j)))(h4:ck.fn [.b (.tup j),.b (.tup l1)]=f (.b (.tup s1))) (h5:ck.fn [.b (.tup j),.b (.tup l2)]=f (.b (.tup s2))) (h6:rz.fn [.b (.tup u1)]=f (.b (.tup r1))) (h7:rz.fn [.b (.tup u2)]=f (.b (.tup r2)))(h8:jC.fn [.dict D1,.b (.tup s1),.b (.tup r1)]=f (.dict S1)) (h9:jC.fn [.dict D2,.b (.tup s2),.b (.tup r2)]=f (.dict S2)) (h10:qa.fn [.dict S1,.dict S2]=f (.dict hc)):pD.fn [.dict D1,.dict D2,.b (.str 0)]=f (.dict hc):=by
 show prun [] 3 4 sM [PV.dict D1,PV.dict D2,PV.b (.str 0)]=_;exact aI X ((ag (pI (Cj (bE (ar X X Y) (ar X X L)) X) X X X)).trans ((ag (aB (ar X (bE X X) h3) X)).trans ((ag (aB (ar X (nk X (ar X (bE X X) h4) (ar X (eW X) h6)) h8) X)).trans (gc (ar X (bE X (ar X (nk X (ar X (bE X X) h5) (ar X (eW X) h7)) h9)) h10)))))
theorem K9:∀{P S:ZP},BN s P=f S->(∀ p∈P,Yc (p_ p.1 s)=R)/\S=P.map λp=>(p.1+s,p.2):=by intro w';induction w' with|nil=>intro S h;dsimp only[BN]at h;rw[dN]at h;exact⟨λO q=>g_ q fH,h.symm⟩|cons p P ih=>
  intro S h;revert h;refine cx (λhz h=>?_);revert h;refine zsZ (λQ hQ h=>?_);obtain rfl:=aw h;refine cC (ih hQ) λY aL=>?_;clear hQ;subst aL;refine⟨λq hq=>?_,X⟩;rcases aT.mp hq with eE|hq
  .clear h hq;subst eE;exact hz
  .exact Y q hq
theorem Sz(hf:rN K')(hg:rN g)(h:Oy K' g=f (b,hc)):pD.fn [dP K',dP g,.b (.str 0)]=f (.dict (au hc))/\jl b hc/\b<=1000000000:=by
 revert h;refine cx (λUn h=>?_);have Un:K'.b+g.b<=1000000000:=iC Un;revert h;refine zsZ (λS hS=>zsZ (λR' hR h=>gI h ?_));have hJ:=s8 hf.CF hg.CF;obtain⟨s1,s2⟩:=G9 hf.CF hJ (Xx hf.CF hg.CF);obtain⟨t1,t2⟩:=G9 hg.CF hJ (Xy hf.CF hg.CF);obtain⟨z1,iA⟩:=K9 hS;clear hS;subst iA;have hk:∀ p∈K'.p,sm (p.1+(eM K'.l g.l-K'.l)):=λp hp=>OZ (hf.ok.el p hp).1 s1 (z1 p hp);obtain⟨m1,m2⟩:=As (c:=K'.b) (u:=1) hf.ok s1 hk (by decide) (by simp) (by lia) (by decide);have Co:(K'.p.map λp=>(p.1+(eM K'.l g.l-K'.l),p.2*1))=K'.p.map λp=>(p.1+(eM K'.l g.l-K'.l),p.2):=by simp
 rw[Co]at m1 m2;refine bY (Pc (bp:=g.b) (u:=1) m2 hg.ok t1 (by decide) (by lia) (by decide) (by simp;omega) hR) λS2 n1 n2 n3=>?_;refine qH (Xz (pM hf) (pM hg) (Cn hf.CF hg.CF) ?_ ?_ G0 G0 m1 n1 n2) ?_ Un
 .exact(by rw[rK,s2]:ck.fn [.b (kT (eM K'.l g.l)),.b (kT K'.l)]=f (.b (kT (eM K'.l g.l-K'.l))))
 .exact(by rw[rK,t2]:ck.fn [.b (kT (eM K'.l g.l)),.b (kT g.l)]=f (.b (kT (eM K'.l g.l-g.l))))
 .have:K'.b+(1:G).natAbs*g.b=p_ K'.b g.b:=by show K'.b+1*g.b=K'.b+g.b;simp
  exact dR this n3
abbrev lP(e:ZE):PV:=.b (kT e.l)
noncomputable abbrev pT (i k:a_):AV:=.tup [.int (i:G),.int (k:G)]
abbrev wP(w:ZW):PV:=.b (pT w.i w.k)
structure Pj(Es:d_ ZE)(w:ZW):Prop where
 at_:∃ e d,Es[w.i]?=f e/\Es[w.k]?=f d/\w.j=eM e.l d.l
theorem XA(Y:yz h2 i=f (.b (.tup x)))(L:yz h2 k=f (.b (.tup y)))(h0:h2.length<=lim)(h3:eu.fn [.b (.tup x),.b (.tup y)]=f (.b (.tup j))):hF.fn [.b (.tup [.int i,.int k]),.list h2,.b (.str 0)]=f (.b (.tup [.tup j,.tup [.int i,.int k]])):=by show prun [] 3 1 nU [.b (.tup [.int i,.int k]),.list h2,.b (.str 0)]=_;exact aI X ((ag (aB (ar X (bE (eI (A:=.list h2) (I:=M' i) X X ((ai h0).trans Y)) (eI (A:=.list h2) (I:=M' k) X X ((ai h0).trans L))) h3) X)).trans (gc (Cj (bE (ar X (bE X X) (j1 (.tup j) (by intro h;cases h))) X) X)))
theorem yk(h:Pj Es w)(hE:∀ e∈Es,rN e)(hl:Es.length<=lim):hF.fn [wP w,.list (Es.map lP),.b (.str 0)]=f (.b (.tup [kT w.j,pT w.i w.k])):=by exact aW (h.at_) λe d Y L h3=>J h3 (XA (by refine J (l7 _ _) (J mH (J Y ?_));rfl) (by refine J (l7 _ _) (J mH (J L ?_));rfl) (by exact J (cw _) hl) (Cn (hE e (dU Y)).CF (hE d (dU L)).CF))
theorem Cp(a b:a_):m_ a b=decide (a<=b):=by cases h:m_ a b with|true=>exact(bP (iC h)).symm|false=>exact(bT λq=>by rw[CH.mpr q]at h;exact tF h).symm
theorem SD(h:a<b):m_ b a=N':=J (Aq _ _) (J (bT (Nat.not_le_of_lt h)) X)
theorem Yh(h:a<=b):m_ a b=R:=YG h
theorem aei(a b:ZW):fw ⟨0,.nil⟩ .lt (.tup [kT a.j,pT a.i a.k]) (.tup [kT b.j,pT b.i b.k])=f (OA a b):=by
 show rY (fk 2) (kW N' 2) _ _ _=_;dsimp only[OA];by_cases Y:a.j=b.j
 .refine J (Yf ((eqK 1 _ _).trans (c8 f (bP Y)))) (J (Yh (Nat.le_of_eq Y.symm)) (J (Yh (Nat.le_of_eq Y)) ?_));by_cases L:a.i=b.i/\a.k=b.k
  .have e:fk 2 (pT a.i a.k) (pT b.i b.k)=f R:=by refine J L.1 (J L.2 ?_);show f (decide ((b.i:G)=b.i)&&(decide ((b.k:G)=b.k)&&R))=_;exact J (bP X) (J (bP X) X)
   refine J (Yf e) (J L.1 (J L.2 (J (Yh (fB _)) ?_)));show f (decide (2<2))=f (m_ _ _);rw[Aq,bT (Nat.not_succ_le_self _)];rfl
  .have e:fk 2 (pT a.i a.k) (pT b.i b.k)=f N':=by show f (decide ((a.i:G)=b.i)&&(decide ((a.k:G)=b.k)&&R))=_;exact J (Bool.and_true _) (dR (Bool.decide_and _ _) (J (bT λk=>L ⟨vz k.1,vz k.2⟩) X))
   refine J (Xl e) ?_;show rY (fk 1) (kW N' 1) _ _ _=_;by_cases h3:a.i=b.i
   .exact J (Yf (iT h3)) (J (Xl (iF λk=>L ⟨h3,k⟩)) (J iO (J h3 (J (Yh (fB _)) (c8 f (Aq _ _).symm)))))
   .refine J (Xl (iF h3)) (J iO ?_);rcases Nat.lt_or_gt_of_ne h3 with h|h
    .exact J (SD h) (c8 f (bP h))
    .exact J (Yh (kD h)) (J (SD h) (c8 f (bT (Nat.lt_asymm h))))
 .refine J (Xl ((eqK 1 _ _).trans (c8 f (bT Y)))) (J (Xm _ _ _ _) ?_);rcases Nat.lt_or_gt_of_ne Y with h|h
  .exact J (SD h) (c8 f (bP h))
  .exact J (Yh (kD h)) (J (SD h) (c8 f (bT (Nat.lt_asymm h))))
theorem EP(h:hF.fn [.b (.tup [.int i,.int k]),.list h2,.b (.str 0)]=f (.b (.tup t))):cn (aD [] bS.tl.hd.body) [3] (.b (.tup [.int i,.int k])) [.list W,.list h2,.b (.str 0),x,.b .none,.b .none,a6]=f ([.list W,.list h2,.b (.str 0),.b (.tup [.int i,.int k]),.b (.tup [.int i,.int k]),.b (.tup t),.b (.tup t)],.next):=by dsimp only[bS,CS.hd,CS.tl,CS.body,cn,h,AV.isNone,hG,aD,ax,bf,bM,ft,eh,cS,ro,F?,q?,dO,ie,allB,v_,C?];simp -iota only [h,hG,zE,uI,bW,mI];rfl
theorem Hg(h:hF.fn [.b (.tup [.int i,.int k]),.list h2,.b (.str 0)]=f (.b (.tup t)))(U':fw ⟨0,.nil⟩ .lt (.tup t) (.tup t')=f g) :
  cn (aD [] bS.tl.hd.body) [3] (.b (.tup [.int i,.int k])) [.list W,.list h2,.b (.str 0),x,.b (.tup [.int i',.int k']),.b (.tup t'),a6]=f (bif g then [.list W,.list h2,.b (.str 0),.b (.tup [.int i,.int k]),.b (.tup [.int i,.int k]),.b (.tup t),.b (.tup t)]
   else [.list W,.list h2,.b (.str 0),.b (.tup [.int i,.int k]),.b (.tup [.int i',.int k']),.b (.tup t'),.b (.tup t)],.next):=by
 cases g<;>(dsimp only[bS,CS.hd,CS.tl,CS.body,cn,h,U',AV.isNone,hG,aD,ax,bf,bM,ft,eh,cS,ro,F?,q?,nL,dO,ie,allB,v_,C?];simp -iota [h,U',hG,zE,uI,bW,mI];dsimp only[bS,CS.hd,CS.tl,CS.body,cn,h,U',AV.isNone,hG,aD,ax,bf,bM,ft,eh,cS,ro,F?,q?,nL,dO,ie,allB,v_,C?];simp -iota [h,U',hG,zE,uI,bW,mI];dsimp only[bS,CS.hd,CS.tl,CS.body,cn,h,U',AV.isNone,hG,aD,ax,bf,bM,ft,eh,cS,ro,F?,q?,nL,dO,ie,allB,v_,C?])
theorem Hh:∀(r:d_ ZW) (w:ZW),cY r w∈w::r:=λw'=>by induction w' with|nil=>intro w;dsimp only[cY];exact aQ|cons v r ih=>
  intro w;dsimp only[cY];cases q_:OA v w;rotate_left
  .exact bg _ (ih v)
  .rcases aT.mp (ih w) with h|h
   .exact J h aQ
   .exact bg _ (bg _ h)
theorem Hi(hE:∀ e∈Es,rN e)(hl:Es.length<=lim):∀(r:d_ ZW) (w:ZW) (x a6:PV),(∀ v∈r,Pj Es v)->Pj Es w->∃ x' Aw,dQ (cn (aD [] bS.tl.hd.body) [3]) (r.map wP) [.list W,.list (Es.map lP),.b (.str 0),x,wP w,.b (.tup [kT w.j,pT w.i w.k]),a6] =
  f ([.list W,.list (Es.map lP),.b (.str 0),x',wP (cY r w),.b (.tup [kT (cY r w).j,pT (cY r w).i (cY r w).k]),Aw],.next):=by
 intro w';induction w' with|nil=>intro w x a6 O O;exact⟨x,a6,X⟩|cons v r IH=>intro w x a6 hr hw;refine C2 λGq kq=>?_;have hv:=hr v aQ;have ht:=Hg (W:=W) (x:=x) (a6:=a6) (i':=w.i) (k':=w.k) (yk hv hE hl) (aei v w);have hr':∀ u∈r,Pj Es u:=λu hu=>hr u (bg _ hu);cases hz:OA v w with|true=>(rw[hz]at ht;obtain⟨x',Aw,ih⟩:=IH v (wP v) (.b (.tup [kT v.j,pT v.i v.k])) hr' hv;refine kq x' Aw ?_;dsimp only[cY];(refine J bW (J hz ?_));dsimp only[dQ];refine dR ih (J ht ?_);rfl)|false=>rw[hz]at ht;obtain⟨x',Aw,ih⟩:=IH w (wP v) (.b (.tup [kT v.j,pT v.i v.k])) hr' hw;refine kq x' Aw ?_;dsimp only[cY];(refine J bW (J hz ?_));dsimp only[dQ];refine dR ih (J ht ?_);rfl
theorem SE(hE:∀ e∈Es,rN e)(hl:Es.length<=lim)(hr:∀ v∈w::r,Pj Es v):kL.fn [.list ((w::r).map wP),.list (Es.map lP),.b (.str 0)]=f (wP (cY r w)):=by
 have hw:=hr w aQ;refine gx (Hi hE hl (W:=(w::r).map wP) r w (wP w) (.b (.tup [kT w.j,pT w.i w.k])) (λv hv=>hr v (bg _ hv)) hw) λx' Aw Y=>?_;have e1:aD [] bS.hd [.list ((w::r).map wP),.list (Es.map lP),.b (.str 0),.any,.any,.any,.any]=f ([.list ((w::r).map wP),.list (Es.map lP),.b (.str 0),.any,.b .none,.b .none,.any],.next):=by dsimp only[bS,CS.hd,aD,ax,bM,ft,eh,ro,F?,q?,ie,allB,v_,C?];rfl
 have e2:aD [] bS.tl.hd [.list ((w::r).map wP),.list (Es.map lP),.b (.str 0),.any,.b .none,.b .none,.any]=f ([.list ((w::r).map wP),.list (Es.map lP),.b (.str 0),x',wP (cY r w),.b (.tup [kT (cY r w).j,pT (cY r w).i (cY r w).k]),Aw],.next):=by refine(jO (i:=0) (ik:=.plain) (C':=[3]) (b:=bS.tl.hd.body) (Z:=(w::r).map wP) X X X).trans ?_;rw[<-Y,bW,dQ,EP (yk hw hE hl)]
 have e3:aD [] bS.tl.tl [.list ((w::r).map wP),.list (Es.map lP),.b (.str 0),x',wP (cY r w),.b (.tup [kT (cY r w).j,pT (cY r w).i (cY r w).k]),Aw]=f ([.list ((w::r).map wP),.list (Es.map lP),.b (.str 0),x',wP (cY r w),.b (.tup [kT (cY r w).j,pT (cY r w).i (cY r w).k]),Aw],.ret (wP (cY r w))):=by rfl
 exact aI (mu:=[]) (np:=3) (more:=4) (ha:=bS) (as:=[.list ((w::r).map wP),.list (Es.map lP),.b (.str 0)]) X ((ag e1).trans ((ag e2).trans e3))
theorem Ax(i k a b:a_):fk 3 (pT i k) (pT a b)=f (f_ i a&&f_ k b):=by
 have c:∀ x y:a_,decide ((x:G)=(y:G))=f_ x y:=λx y=>by
  by_cases h:x=y
  .subst h;exact J (JA _) (bP X)
  .exact J (KX h) (bT λq=>h (vz q))
 dsimp only[fk,Fh];simp only[c,Bool.and_true]
theorem Up(a b:a_):∀ W:d_ ZW,ji (pT a b) (W.map λw=>pT w.i w.k)=f (zh a b W):=λw'=>by induction w' with|nil=>exact X|cons w W ih=>dsimp only[v_,ji,Ax,ih,zh];simp -iota only [bW,Ax,ih];dsimp only[v_,ji,Ax,ih,zh];simp -iota only [bW,Ax,ih];dsimp only[v_,ji,Ax,ih,zh];cases f_ w.i a<;>cases f_ w.k b<;>rfl
theorem Pk(W:d_ ZW):allB (W.map wP)=f (W.map λw=>pT w.i w.k):=by
 have:W.map wP=(W.map λw=>pT w.i w.k).map .b:=J fE X
 exact J this (J (i7 _) X)
theorem SF(a i k:a_):ji (.int (a:G)) [.int (i:G),.int (k:G)]=f (f_ a i||f_ a k):=by
 have c:∀ x y:a_,decide ((x:G)=(y:G))=f_ y x:=λx y=>by
  by_cases h:x=y
  .subst h;exact J (JA _) (bP X)
  .exact J (KX (kx h)) (bT λq=>h (vz q))
 dsimp only[ji,fk];simp only[c,Jw]
theorem La{a3 a6 a7:PV}(hW:allB W=f ws)(Y:ji (.int a) [.int i,.int k]=f g1)(L:cH.fn [.b (.tup p),.b (.tup j)]=f (.b (.bool g2)))(hb1:(if a<i then a else i)=b1) (sA:(if a>i then a else i)=b2) (hc1:(if a<k then a else k)=c1) (VM:(if a>k then a else k)=c2) (h3:ji (.tup [.int b1,.int b2]) ws=f g3) (h4:ji (.tup [.int c1,.int c2]) ws=f g4) :
  cn (aD [] cg.tl.tl.tl.hd.body) [6,7] (.b (.tup [.int a,.tup p])) [.b (.tup [.int i,.int k]),.list W,.list h2,.b (.tup j),.b (.int i),.b (.int k),a6,a7] =
   f ([.b (.tup [.int i,.int k]),.list W,.list h2,.b (.tup j),.b (.int i),.b (.int k),.b (.int a),.b (.tup p)],match g1||!g2 with|R=>.cont|N'=>match g3||g4 with|R=>.next|N'=>.ret (.b (.bool R))):=by
 subst hb1 sA hc1 VM;have inW:∀ x g,ji x ws=f g->WG (.b x) (.list W)=f g:=λx g h=>by show(match allB W with|f Z=>ji x Z |V=>V)=_;exact J hW h
 have e1:=cq (mu:=[]) (a:=.seq .cont .skip) (b:=.skip) (GZ (yf (y:=R) (a:=.var 6) (b:=.var 0) (M:=[.b (.tup [.int i,.int k]),.list W,.list h2,.b (.tup j),.b (.int i),.b (.int k),.b (.int a),.b (.tup p)]) X X Y) (Sn (ar (K':="powers_divide") (F:=gV) vM (bE (a:=.var 7) (b:=.var 3) X X) L)));have e2:=cq (mu:=[]) (a:=.seq (.ret (.k (.bool R))) .skip) (b:=.skip) (Ck (yf (y:=N') (a:=.bc (aO (.bi .min2 (aO jf lM)) (.bi .max2 (aO jf lM)))) (b:=.var 1) (M:=[.b (.tup [.int i,.int k]),.list W,.list h2,.b (.tup j),.b (.int i),.b (.int k),.b (.int a),.b (.tup p)]) X X (inW _ _ h3)) (yf (y:=N') (a:=.bc (aO (.bi .min2 (aO kb lM)) (.bi .max2 (aO kb lM)))) (b:=.var 1) X X (inW _ _ h4)));show aD [] (.seq (.iff _ _ _) (.seq (.iff _ _ _) .skip)) _=_;cases hx:g1||!g2 with|true=>rw[QH,hx]at e1;exact sW (e1.trans X)|false=>rw[QH,hx]at e1;refine(ag (e1.trans X)).trans ?_;(clear h3;cases g3)<;>(clear h4;cases g4)<;>first|exact(ag (e2.trans X)).trans X|exact d8 (e2.trans X)
theorem ES(a i:a_):(if (a:G)<(i:G) then(a:G) else(i:G))=((lL i a:a_):G):=by
 refine J (Jj _ _) ?_;by_cases h:a<i
 .exact J (ai h) (J (ai (by lia)) X)
 .exact J (ak h) (J (ak (by lia)) X)
theorem ET(a i:a_):(if (a:G)>(i:G) then(a:G) else(i:G))=((lA i a:a_):G):=by
 refine J (sY _ _) ?_;by_cases h:a>i
 .exact J (ai h) (J (ai (by lia)) X)
 .exact J (ak h) (J (ak (by lia)) X)
theorem Lb(hj:sm w.j):∀(r:d_ ZE) (a:a_) (a6 a7:PV),(∀ e∈r,rN e)->∃ Aw EU,dQ (cn (aD [] cg.tl.tl.tl.hd.body) [6,7]) (fy a (r.map lP)) [wP w,.list (W.map wP),.list h2,.b (kT w.j),.b (.int w.i),.b (.int w.k),a6,a7] =
  f ([wP w,.list (W.map wP),.list h2,.b (kT w.j),.b (.int w.i),.b (.int w.k),Aw,EU],match vm w W a r with|R=>.ret (.b (.bool R))|N'=>.next):=by
 intro w';induction w' with|nil=>intro a a6 a7 O;exact⟨a6,a7,X⟩|cons e r IH=>intro a a6 a7 hr;have he:=hr e aQ;refine gx (IH (a+1) (.b (.int a)) (lP e) λd hd=>hr d (bg _ hd)) λAw EU ih=>?_;dsimp only[v_,hU,dQ,vm];refine J (hU _ _ _) ?_;dsimp only[v_,hU,dQ,vm];refine J (La (h2:=h2) (a3:=.any) (a6:=a6) (a7:=a7) (Pk W) (SF a w.i w.k) (Au he.CF hj) (ES a w.i) (ET a w.i) (ES a w.k) (ET a w.k) (Up (lL w.i a) (lA w.i a) W) (Up (lL w.k a) (lA w.k a) W)) ?_;cases Y:(f_ a w.i||f_ a w.k)||!(pg e.l w.j) with|true=>exact uT Aw EU ih|false=>cases L:zh (lL w.i a) (lA w.i a) W||zh (lL w.k a) (lA w.k a) W with|true=>exact uT Aw EU ih|false=>exact uT _ _ X
theorem XB:aD [] cg.hd [.b (.tup [.int i,.int k]),.list W,.list h2,.any,.any,.any,.any,.any]=f ([.b (.tup [.int i,.int k]),.list W,.list h2,.any,.b (.int i),.b (.int k),.any,.any],.next):=by rfl
theorem XC(Y:yz h2 i=f (.b (.tup x)))(L:yz h2 k=f (.b (.tup y)))(h0:h2.length<=lim)(h3:jZ.fn [.b (.tup x),.b (.tup y)]=f (.b (.bool g))) :
  aD [] cg.tl.hd [.b (.tup [.int i,.int k]),.list W,.list h2,.any,.b (.int i),.b (.int k),.any,.any]=f ([.b (.tup [.int i,.int k]),.list W,.list h2,.any,.b (.int i),.b (.int k),.any,.any],bif g then .ret (.b (.bool R)) else .next):=
 (cq (ar X (bE (eI (A:=.list h2) (I:=M' i) X X ((ai h0).trans Y)) (eI (A:=.list h2) (I:=M' k) X X ((ai h0).trans L))) h3)).trans (by(clear h3;cases g)<;>rfl)
theorem XD(Y:yz h2 i=f (.b (.tup x)))(L:yz h2 k=f (.b (.tup y)))(h0:h2.length<=lim)(h3:eu.fn [.b (.tup x),.b (.tup y)]=f (.b (.tup j))) :
  aD [] cg.tl.tl.hd [.b (.tup [.int i,.int k]),.list W,.list h2,.any,.b (.int i),.b (.int k),.any,.any]=f ([.b (.tup [.int i,.int k]),.list W,.list h2,.b (.tup j),.b (.int i),.b (.int k),.any,.any],.next):=
 aB (ar X (bE (eI (A:=.list h2) (I:=M' i) X X ((ai h0).trans Y)) (eI (A:=.list h2) (I:=M' k) X X ((ai h0).trans L))) h3) X
theorem Hj(hE:∀ e∈Es,rN e)(hl:Es.length<=lim)(hf:Es[w.i]?=f K')(hg:Es[w.k]?=f g)(hw:w.j=eM K'.l g.l) :
  jN.fn [wP w,.list (W.map wP),.list (Es.map lP)]=f (.b (.bool (tY K'.l g.l||vm w W 0 Es))):=by
 have l1:yz (Es.map lP) (w.i:G)=f (lP K'):=by refine J (l7 _ _) (J mH (J hf ?_));rfl
 have l2:yz (Es.map lP) (w.k:G)=f (lP g):=by refine J (l7 _ _) (J mH (J hg ?_));rfl
 have l0:(Es.map lP).length<=lim:=J (cw _) hl;have sf:=(hE K' (dU hf)).CF;have sg:=(hE g (dU hg)).CF;have e1:=XB (W:=W.map wP) (h2:=Es.map lP) (i:=w.i) (k:=w.k);have e2:=XC (W:=W.map wP) (h2:=Es.map lP) (i:=w.i) (k:=w.k) l1 l2 l0 (Ph K'.l g.l);cases hz:tY K'.l g.l with|true=>rw[hz]at e2;exact aI (mu:=[]) (np:=3) (more:=5) (ha:=cg) (as:=[wP w,.list (W.map wP),.list (Es.map lP)]) X ((ag e1).trans (d8 e2))|false=>rw[hz]at e2;have e3:=XD (W:=W.map wP) (h2:=Es.map lP) (i:=w.i) (k:=w.k) l1 l2 l0 (Cn sf sg);refine gx (Lb (W:=W) (h2:=Es.map lP) (w:=w) (by exact J hw (s8 sf sg)) Es 0 .any .any hE) λa6 a7 Uq=>?_;rw[hw]at Uq;have e4:=(jO (mu:=[]) (i:=2) (ik:=.enum) (C':=[6,7]) (b:=cg.tl.tl.tl.hd.body) (M:=[wP w,.list (W.map wP),.list (Es.map lP),.b (kT (eM K'.l g.l)),.b (.int w.i),.b (.int w.k),.any,.any]) (Z:=fy 0 (Es.map lP)) X X X).trans Uq;cases hn:vm w W 0 Es with|true=>rw[hn]at e4;exact aI (mu:=[]) (np:=3) (more:=5) (ha:=cg) (as:=[wP w,.list (W.map wP),.list (Es.map lP)]) X ((ag e1).trans ((ag e2).trans ((ag e3).trans (d8 e4))))|false=>
   rw[hn]at e4;have e5:aD [] cg.tl.tl.tl.tl [wP w,.list (W.map wP),.list (Es.map lP),.b (kT (eM K'.l g.l)),.b (.int w.i),.b (.int w.k),a6,a7]=f ([wP w,.list (W.map wP),.list (Es.map lP),.b (kT (eM K'.l g.l)),.b (.int w.i),.b (.int w.k),a6,a7],.ret (.b (.bool N'))):=by rfl
   exact aI (mu:=[]) (np:=3) (more:=5) (ha:=cg) (as:=[wP w,.list (W.map wP),.list (Es.map lP)]) X ((ag e1).trans ((ag e2).trans ((ag e3).trans ((ag e4).trans e5))))
noncomputable abbrev GS (S:PV) (ha h2 W:aC) (dn:G) (a7 a8:PV):aC:=[S,.b (.str 0),.b (.int 200),.list ha,.list h2,.list W,.b (.int dn),a7,a8,.any,.any,.any,.any,.any,.any]
abbrev GB:CS:=c0.tl.tl.tl.tl.hd.body
noncomputable def CS.test:CS->CE|.kF t O=>t|_=>.bad
abbrev GT:CE:=c0.tl.tl.tl.tl.hd.test
section
variable{S:PV}{ha h2 W:aC}{dn:G}{a7 a8:PV}
theorem g_T(hl:W.length<=lim):ax GT (GS S ha h2 W dn a7 a8)=f (.b (.bool (decide (0<(W.length:G))))):=
 cb (y:=0) (rJ (eW X) (ai hl)) X
theorem g_1(h:kL.fn [.list W,.list h2,.b (.str 0)]=f (.b p)):aD [3,4,5] GB.hd (GS S ha h2 W dn a7 a8)=f (GS S ha h2 W dn (.b p) a8,.next):=
 aB (ar X (nk X X X) h) X
theorem g_3(h:jN.fn [.b (.tup p),.list W,.list h2]=f (.b (.bool g))):aD [3,4,5] GB.tl.tl.hd (GS S ha h2 W dn (.b (.tup p)) a8)=f (GS S ha h2 W dn (.b (.tup p)) a8,bif g then .cont else .next):=
 (cq (ar X (nk X X X) h)).trans (by(clear h;cases g)<;>rfl)
theorem g_4:aD [3,4,5] GB.tl.tl.tl.hd (GS S ha h2 W dn a7 a8)=f (GS S ha h2 W (dn+1) a7 a8,.next):=by rfl
theorem g_5(h:dn<=200):aD [3,4,5] GB.tl.tl.tl.tl.hd (GS S ha h2 W dn a7 a8)=f (GS S ha h2 W dn a7 a8,.next):=by exact(cq (cb (x:=dn) (y:=200) X X)).trans (by(rw[cmpInt];refine J (bT (by lia)) ?_);rfl)
theorem g_6(Y:yz ha i=f (.dict D1))(L:yz ha k=f (.dict D2))(h0:ha.length<=lim)(h3:pD.fn [.dict D1,.dict D2,.b (.str 0)]=f (.dict T))(h4:kR.fn [.dict T,.list ha,.b (.str 0)]=f (.dict hc)) :
  aD [3,4,5] GB.tl.tl.tl.tl.tl.hd (GS S ha h2 W dn (.b (.tup [.int i,.int k])) a8)=f (GS S ha h2 W dn (.b (.tup [.int i,.int k])) (.dict hc),.next):=
 aB (ar X (nk (ar X (nk (eI (A:=.list ha) (I:=M' i) X X ((ai h0).trans Y)) (eI (A:=.list ha) (I:=M' k) X X ((ai h0).trans L)) X) h3) X X) h4) X
theorem aej:aD [3,4,5] GB.tl.tl.tl.tl.tl.tl.hd (GS S ha h2 W dn a7 (.dict []))=f (GS S ha h2 W dn a7 (.dict []),.next):=by rfl
theorem g_7{n:a_}{hc vs:c9}{aj:al}{l c:AV}(hB:ha.length=n)(hn:n<=1000)(hR:0<hc.length)(hRl:hc.length<=lim)(hW:W.length<=lim)(hL:h2.length<=lim)(hX:ax (.bq (.bc (aO yA (.bi .len (bx cA)))) [9] .range (.bi .len (bx cA))) (GS S ha h2 W dn a7 (.dict hc))=f (.list (aj.map .b))) (hXl:aj.length<=lim) (Y:gn.fn [.dict hc,.b (.str 0)]=f (.dict vs)) (L:eN.fn [.dict hc,.b (.str 0)]=f (.b (.tup [l,c]))) :
  aD [3,4,5] GB.tl.tl.tl.tl.tl.tl.hd (GS S ha h2 W dn a7 (.dict hc))=f (GS S (ha++[.dict vs]) (h2++[.b l]) (W++aj.map .b) dn a7 (.dict hc),.next):=by
 have e2:(2:a_)<=lim:=by decide
 have e (x y:AV):yz [x,y] 0=f x:=X;have hBl:ha.length<=lim:=by refine J hB ?_;dsimp only[lim];lia
 have hR':decide (0<(hc.length:G))=R:=bP (by lia);have t1:ax (.cmp .gt (.bi .len (bx tx)) bC) (GS S ha h2 W dn a7 (.dict hc))=f (.b (.bool R)):=by dsimp only[ax,bf,tu,nL,fw,cmpInt];simp[hRl];omega
 have t2:aD [3,4,5] (.extend 5 (.bq (.bc (aO yA (.bi .len (bx cA)))) [9] .range (.bi .len (bx cA)))) (GS S ha h2 W dn a7 (.dict hc))=f (GS S ha h2 (W++aj.map .b) dn a7 (.dict hc),.next):=by have ahN:(aj.map PV.b).length<=lim:=J (cw _) hXl;dsimp only[aD,bf,fresh];(simp -iota only [hX,i7,L8,Yo];dsimp only[hX,i7,Option.isSome_some,Bool.and_self];simp -iota only [hX,i7,L8,Yo]);dsimp only[bM];simp[hW,hXl]
 have t3:aD [3,4,5] (.append 3 (fS (aO tx aS))) (GS S ha h2 (W++aj.map .b) dn a7 (.dict hc))=f (GS S (ha++[.dict vs]) h2 (W++aj.map .b) dn a7 (.dict hc),.next):=by dsimp only[aD,ax,bf,bM,ro,fu,eL,fresh];simp[hBl,Y,KQ,KR]
 have t4:aD [3,4,5] (.append 4 (.idx (bN (aO tx aS)) bC)) (GS S (ha++[.dict vs]) h2 (W++aj.map .b) dn a7 (.dict hc))=f (GS S (ha++[.dict vs]) (h2++[.b l]) (W++aj.map .b) dn a7 (.dict hc),.next):=by dsimp only[aD,ax,bf,bM,ro,ml];simp[hL,L,e,e2,EB]
 have t5:aD [3,4,5] (.seq (.extend 5 (.bq (.bc (aO yA (.bi .len (bx cA)))) [9] .range (.bi .len (bx cA)))) (.seq (.append 3 (fS (aO tx aS))) (.seq (.append 4 (.idx (bN (aO tx aS)) bC)) .skip))) (GS S ha h2 W dn a7 (.dict hc))=f (GS S (ha++[.dict vs]) (h2++[.b l]) (W++aj.map .b) dn a7 (.dict hc),.next):=by exact J (ag t2) (J (ag t3) (J (ag t4) X))
 exact J Ag (J t1 t5)
theorem g_X(hB:ha.length=n)(hn:n<=1000):ax (.bq (.bc (aO yA (.bi .len (bx cA)))) [9] .range (.bi .len (bx cA))) (GS S ha h2 W dn a7 a8)=f (.list (((y_ n).map λ(i:a_)=>pT i n).map .b)):=by
 have hBl:ha.length<=lim:=by refine J hB ?_;dsimp only[lim];lia
 have Y:ax (.bi .len (bx cA)) (GS S ha h2 W dn a7 a8)=f (.b (.int (n:G))):=by dsimp only[ax,bf,tu];simp[hB];lia
 refine bH (Xs:=(y_ n).map λ(i:a_)=>.b (.int (i:G))) Y ?_ ?_ (by simp;dsimp only[lim];omega)
 .dsimp only[D3];refine J (ai ⟨by simp,by lia⟩) ?_;refine J fE (J (CG _) ?_);rfl
 .refine J fE (eP (w:=λ(i:a_)=>.b (pT i n)) _ λi hi=>fA ?_);have hn':n<=lim:=by dsimp only[lim];omega
  dsimp only[ax,bM,bf,tu,hB,hn',if_true,ie,allB];simp -iota only [hB,hn',gv];rfl
theorem Lc(w:ZW):∀ Ws:d_ ZW,(Ws.flatMap λv=>bif sK v w then [] else [wP v])=(eU w Ws).map wP:=λw'=>by induction w' with|nil=>exact X|cons v Ws ih=>dsimp only[eU];refine J CR (J ih ?_);cases sK v w<;>rfl
theorem aaU(v w:ZW):fw ⟨0,.nil⟩ .ne (pT v.i v.k) (pT w.i w.k)=f (!(sK v w)):=by show(match fk 3 (pT v.i v.k) (pT w.i w.k) with|f p=>f (!p) |V=>V)=_;refine J (Ax _ _ _ _) ?_;dsimp only[sK];cases f_ v.i w.i<;>rfl
theorem g_2(hl:Ws.length<=lim):aD [3,4,5] GB.tl.hd (GS S ha h2 (Ws.map wP) dn (wP w) a8)=f (GS S ha h2 ((eU w Ws).map wP) dn (wP w) a8,.next):=by
 have hlen:((eU w Ws).map wP).length<=lim:=by refine J (cw _) (aR ?_ hl);clear hl;induction Ws with|nil=>exact fB _|cons v Ws ih=>
   dsimp only[eU];cases q_:sK v w;rotate_left
   .exact CK ih
   .exact zB ih
 have Y:ax (.bR iX [10] .plain kb (.cmp .ne iX rQ)) (GS S ha h2 (Ws.map wP) dn (wP w) a8)=f (.list ((eU w Ws).map wP)):=by refine bH (iv:=.list (Ws.map wP)) (Xs:=Ws.map wP) X X ?_ hlen;refine dR (Lc w Ws) (nt Ws λv hv=>?_);have d9:=aaU v w;dsimp only[pT]at d9;dsimp only[rm,cS,ax,bM,bf,nL];refine J d9 ?_;cases sK v w<;>rfl
 exact aB Y (by(dsimp only[ro,fu,eL,fresh];simp[Pk]))
end
theorem Pl:∀(Bs:d_ ZE) (i:a_),Oz Bs i=Bs[i]?:=λw'=>by induction w' with|nil=>intro i;rfl|cons e Bs ih=>intro z1;cases z1 with|zero=>exact X|succ i=>dsimp only[Oz];refine J (KX (Nat.succ_ne_zero i)) ?_;exact ih i
theorem Hk(l n:a_):∀(Es:d_ ZE) (a:a_),(mq l n a Es).map (λw=>pT w.i w.k)=(List.range' a Es.length).map λi=>pT i n:=λw'=>by induction w' with|nil=>intro a;exact X|cons e Es ih=>intro a;dsimp only[mq];simp only[bW,fD,List.range'_succ,ih (g? a)]
theorem Ld:∀(r:d_ ZE) (a:a_),(∀ i,r[i]?=Bs[a+i]?)->∀ w∈mq e.l Bs.length a r,Pj (Bs++[e]) w:=λw'=>by induction w' with|nil=>intro a O w hw;dsimp only[mq]at hw;simp at hw|cons d r ih=>
  intro a h w hw;dsimp only[mq]at hw;rw[aT]at hw;rcases hw with eE|hw
  .subst eE;have h0:=h 0;simp only[Qp,Nat.add_zero]at h0;refine⟨d,e,?_,?_,X⟩
   .refine J (LY ((mi.mp h0.symm).1)) ?_;exact h0.symm
   .show(Bs++[e])[Bs.length]?=_;simp
  .refine ih (g? a) (λi=>?_) w hw
   have:=h (i+1)
   simp only[UJ]at this;refine J this ?_;congr 1;lia
theorem Pj.more(h:Pj Bs w):Pj (Bs++[e]) w:=by exact aW (h.at_) λK' g Y L h3=>⟨K',g,by refine J (LY (mi.mp Y).1) ?_;exact Y,by refine J (LY (mi.mp L).1) ?_;exact L,h3⟩
theorem Le:∀{W:d_ ZW},v∈eU w W->v∈W:=by intro w';induction w' with|nil=>intro h;dsimp only[eU]at h;simp at h|cons u W ih=>
  intro h;dsimp only[eU]at h;revert h;cases q_:sK u w<;>intro h;rotate_left
  .exact bg _ (ih h)
  .rcases aT.mp h with h|h
   .exact J h aQ
   .exact bg _ (ih h)
theorem Lf(w:ZW):∀ W:d_ ZW,(eU w W).length<=W.length:=λw'=>by induction w' with|nil=>exact fB _|cons v W ih=>
  dsimp only[eU];cases q_:sK v w;rotate_left
  .exact CK (ih)
  .exact zB (ih)
theorem Hl(l n:a_):∀(Es:d_ ZE) (a:a_),(mq l n a Es).length=Es.length:=λw'=>by induction w' with|nil=>intro O;exact X|cons e Es ih=>intro a;dsimp only[mq];simp[ih]
theorem Pm{S:PV}:∀(m:a_) (Bs:d_ ZE) (W:d_ ZW) (SG:d_ ZE) (dn:G) (a7 a8:PV) (σ:a_),Ei m Bs W=f SG->(∀ e∈Bs,rN e)->(∀ w∈W,Pj Bs w)->dn+m<=200->Bs.length+m<=1000->W.length+m*1000<=1000000->m<=σ ->
  ∃ L' W' dn' EU a8',eY (ax GT) (aD [3,4,5] GB) σ (GS S (Bs.map dP) (Bs.map lP) (W.map wP) dn a7 a8)=f (GS S (SG.map dP) L' W' dn' EU a8',.next)/\(∀ e∈SG,rN e)/\SG.length<=1000:=by
 intro w';induction w' with|zero=>intro Bs W SG dn a7 a8 σ h O O O O O O;exact nS h|succ m ih=>intro Bs z2 SG dn a7 a8 z7;cases z7 with|zero=>intro h O O O O O hN;lia|succ σ=>cases z2 with|nil=>intro h hE hW hd hBl hWl hN;dsimp only[Ei]at h;rw[dN]at h;subst h;refine⟨Bs.map lP,[],dn,a7,a8,?_,hE,by lia⟩;dsimp only[eY];refine J (g_T (by exact jP _)) ?_;rfl|cons v r=>
    intro h hE hW hd hBl hWl hN;have Jk:Bs.length<=lim:=by dsimp only[lim];lia
    have Ur:(v::r).length<=lim:=by dsimp only[lim];lia
    have hT:ax GT (GS S (Bs.map dP) (Bs.map lP) ((v::r).map wP) dn a7 a8)=f (.b (.bool R)):=by refine J (g_T (by rw[cw];exact Ur)) ?_;simp
    dsimp only[Ei]at h;generalize hw:cY r v=w at h;have hwm:w∈v::r:=dR hw (Hh r v);have k1:=g_1 (S:=S) (ha:=Bs.map dP) (dn:=dn) (a7:=a7) (a8:=a8) (SE hE Jk hW);rw[hw]at k1;have k2:=g_2 (S:=S) (ha:=Bs.map dP) (h2:=Bs.map lP) (dn:=dn) (a8:=a8) (w:=w) Ur;have hW':∀ u∈eU w (v::r),Pj Bs u:=λu hu=>hW u (Le hu);have ahS:=Lf w (v::r);revert h;refine W8 (λK' hf h=>?_);rw[Pl]at hf;revert h;refine W8 (λg hg h=>?_);rw[Pl]at hg;have hj:w.j=eM K'.l g.l:=by refine aW ((hW w hwm).at_) λe d e1 e2 e3=>?_;rw[hf]at e1;obtain rfl:=aw e1;rw[hg]at e2;obtain rfl:=aw e2;exact e3
    have k3:=g_3 (S:=S) (ha:=Bs.map dP) (dn:=dn) (a8:=a8) (Hj hE Jk (W:=eU w (v::r)) hf hg hj);dsimp only[eY];refine J hT ?_;revert h;refine Tx (λCA h=>?_) λCA h=>?_
    .rw[CA]at k3
     have body:aD [3,4,5] GB (GS S (Bs.map dP) (Bs.map lP) ((v::r).map wP) dn a7 a8)=f (GS S (Bs.map dP) (Bs.map lP) ((eU w (v::r)).map wP) dn (wP w) a8,.cont):=
      (ag (a:=GB.hd) k1).trans ((ag (a:=GB.tl.hd) k2).trans (sW (a:=GB.tl.tl.hd) k3))
     exact J body (ih Bs (eU w (v::r)) SG dn _ _ σ h hE hW' (by lia) (by exact kD ‹_›) (by lia) (by lia))
    .rw[CA]at k3;have k4:=g_4 (S:=S) (ha:=Bs.map dP) (h2:=Bs.map lP) (W:=(eU w (v::r)).map wP) (dn:=dn) (a7:=wP w) (a8:=a8);have k5:=g_5 (S:=S) (ha:=Bs.map dP) (h2:=Bs.map lP) (W:=(eU w (v::r)).map wP) (dn:=dn+1) (a7:=wP w) (a8:=a8) (by(simp -iota at *;omega));revert h;refine zsP (λb T Yb h=>?_);have hfE:=hE K' (dU hf);have hgE:=hE g (dU hg);refine dF (Sz hfE hgE Yb) λs1 s2 s3=>?_;revert h;refine zsP (λb2 hc hR h=>dF (Pf s2 s3 hE (by omega) hR) λr1 r2 r3=>?_);have k6:=g_6 (S:=S) (h2:=Bs.map lP) (W:=(eU w (v::r)).map wP) (dn:=dn+1) (a8:=a8) (ha:=Bs.map dP) (i:=w.i) (k:=w.k) (by refine J (l7 _ _) (J mH (J hf ?_));rfl) (by refine J (l7 _ _) (J mH (J hg ?_));rfl) (by exact J (cw _) Jk) s1 r1
     have aaX:∀{aj h1:aC},aD [3,4,5] GB.tl.tl.tl.tl.tl.tl.hd (GS S (Bs.map dP) (Bs.map lP) ((eU w (v::r)).map wP) (dn+1) (wP w) (.dict (au hc)))=f (h1,.next)->aD [3,4,5] GB (GS S (Bs.map dP) (Bs.map lP) ((v::r).map wP) dn a7 a8)=f (h1,.next):=fun {aj h1} k7=>
      (ag (a:=GB.hd) k1).trans ((ag (a:=GB.tl.hd) k2).trans ((ag (a:=GB.tl.tl.hd) k3).trans ((ag (a:=GB.tl.tl.tl.hd) k4).trans ((ag (a:=GB.tl.tl.tl.tl.hd) k5).trans ((ag (a:=GB.tl.tl.tl.tl.tl.hd) k6).trans ((ag (a:=GB.tl.tl.tl.tl.tl.tl.hd) k7).trans X))))))
     revert h;refine zsN (λhRe h=>?_) (λhRn h=>?_)
     .clear hR r1 r2 k6;subst hRe;have body:=aaX (aj:=[]) aej;refine J body ?_;simp only;exact ih Bs (eU w (v::r)) SG (dn+1) _ _ σ h hE hW' (by lia) (by exact kD ‹_›) (by lia) (by lia)
     .revert h;refine W8 (λe he h=>?_);obtain⟨m1,m2,m3,n,m4,m5⟩:=qj r2 r3 he;have hRp:0<(au hc).length:=by refine J (cu _) ?_;cases hc with|nil=>exact g_ X hRn|cons p hc=>exact iD _
      have k7:=g_7 (S:=S) (ha:=Bs.map dP) (h2:=Bs.map lP) (W:=(eU w (v::r)).map wP) (dn:=dn+1) (a7:=wP w) (n:=Bs.length) (by exact J (cw _) X) (by lia) hRp (by exact J (cu _) r2.lim) (by exact J (cw _) (aR ‹_› ‹_›)) (by exact J (cw _) Jk) (g_X (by exact J (cw _) X) (by omega)) (by simp;dsimp only[lim];assumption) m1 m5;have body:=aaX (aj:=[]) k7;refine J body ?_;simp only
      have hx:(eU w (v::r)).map wP++((y_ Bs.length).map λi=>pT i Bs.length).map PV.b=((eU w (v::r))++mq e.l Bs.length 0 Bs).map wP:=by
       refine J CU ?_;congr 1
       have:=Hk e.l Bs.length Bs 0
       refine J List.range_eq_range' (dR this (J fE ?_));rfl
      have hB':Bs.map dP++[PV.dict (au e.p)]=(Bs++[e]).map dP:=by simp
      have hL':Bs.map lP++[PV.b (kT e.l)]=(Bs++[e]).map lP:=by simp
      refine J hx (J hB' (J hL' (ih (Bs++[e]) _ SG (dn+1) _ _ σ h (λd hd=>?_) (λu hu=>?_) (by lia) (by simp;lia) (by refine J oi (J (Hl _ _ _ _) ?_);lia) (by lia))))
      .rcases fG.mp hd with hd|hd
       .exact hE d hd
       .exact J (az.mp hd) m2
      .rcases fG.mp hu with hu|hu
       .exact(hW' u hu).more
       .exact Ld Bs 0 (λi=>by exact J (wq _) X) u hu
theorem ael(l1:0<D1.length)(l2:0<D2.length)(k1:D1.length<=lim)(k2:D2.length<=lim)(Y:gn.fn [.dict D1,.b (.str 0)]=f (.dict M1))(L:gn.fn [.dict D2,.b (.str 0)]=f (.dict M2)) :
  aD [3,4,5] c0.hd ([.list [.dict D1,.dict D2],.b (.str 0),.b (.int 200)]++bz 12)=f ([.list [.dict D1,.dict D2],.b (.str 0),.b (.int 200),.list [.dict M1,.dict M2]]++bz 11,.next):=by
 have d1:decide (0<(D1.length:G))=R:=bP (by lia);have d2:decide (0<(D2.length:G))=R:=bP (by lia);exact aB (bH (iv:=.list [.dict D1,.dict D2]) (Xs:=[.dict D1,.dict D2]) X X (Uo (yj X ((cb (o:=.gt) (x:=(D1.length:G)) (y:=0) (rJ (k:=.len) (Vs:=[.dict D1]) (eW X) (ai k1)) X).trans (by rw[cmpInt,d1])) (ar X (bE X X) Y)) (yj X ((cb (o:=.gt) (x:=(D2.length:G)) (y:=0) (rJ (k:=.len) (Vs:=[.dict D2]) (eW X) (ai k2)) X).trans (by rw[cmpInt,d2])) (ar X (bE X X) L))) (show(2:a_)<=lim by decide)) X
theorem aem(Y:eN.fn [.dict M1,.b (.str 0)]=f (.b (.tup [x1,u1])))(L:eN.fn [.dict M2,.b (.str 0)]=f (.b (.tup [x2,u2]))) :
  aD [3,4,5] c0.tl.hd ([S0,.b (.str 0),.b (.int 200),.list [.dict M1,.dict M2]]++bz 11)=f ([S0,.b (.str 0),.b (.int 200),.list [.dict M1,.dict M2],.list [.b x1,.b x2]]++bz 10,.next):=
 aB (bH (iv:=.list [.dict M1,.dict M2]) (Xs:=[.dict M1,.dict M2]) X X (Uo (fA (eI (A:=.b (.tup [x1,u1])) (I:=M' 0) (ar X (bE X X) Y) X X)) (fA (eI (A:=.b (.tup [x2,u2])) (I:=M' 0) (ar X (bE X X) L) X X))) (show(2:a_)<=lim by decide)) X
theorem aen:aD [3,4,5] c0.tl.tl.hd ([S0,.b (.str 0),.b (.int 200),.list [x1,x2],.list [y1,y2]]++bz 10)=f ([S0,.b (.str 0),.b (.int 200),.list [x1,x2],.list [y1,y2],.list [.b (pT 0 1)]]++bz 9,.next):=by
 have e2:(2:a_)<=lim:=by decide
 have e1:(1:a_)<=lim:=by decide
 have r2:gY 2=[.int 0,.int 1]:=X;have r1:gY 1=[.int 0]:=X;have r0:gY 0=[]:=X;kernel_rfl
theorem aeo:aD [3,4,5] c0.tl.tl.tl.hd ([S0,.b (.str 0),.b (.int 200),ha,h2,W]++bz 9)=f ([S0,.b (.str 0),.b (.int 200),ha,h2,W,.b (.int 0)]++bz 8,.next):=by rfl
theorem EV(h:A≠[]):0<(au A).length:=by cases A with|nil=>exact g_ X h|cons p A=>simp[dT]
theorem Hm(hf:jl 2 K')(hg:jl 2 g)(he:rq 2 K'=f e)(hd:rq 2 g=f d)(h:Ei 200 [e,d] [⟨eM e.l d.l,0,1⟩]=f Bs) :
  rE.fn [.list [.dict (au K'),.dict (au g)],.b (.str 0),.b (.int 200)]=f (.list (Bs.map dP))/\(∀ e∈Bs,rN e)/\Bs.length<=1000:=by
 refine ia λGq zq=>?_;obtain⟨m1,m2,m3,n1,m4,m5⟩:=qj hf (by decide) he;obtain⟨k1,k2,k3,n2,k4,k5⟩:=qj hg (by decide) hd;refine zq ?_;clear zq;have hfn:K'≠[]:=by intro iA;clear hf m1 m4 m5;subst iA;exact nS he
 have hgn:g≠[]:=by intro j5;clear hg k1 k4 k5;subst j5;exact nS hd
 have s1:=ael (EV hfn) (EV hgn) (by exact J (cu _) hf.lim) (by exact J (cu _) hg.lim) m1 k1;have s2:=aem (S0:=.list [.dict (au K'),.dict (au g)]) (pM m2) (pM k2);have s3:=aen (S0:=.list [.dict (au K'),.dict (au g)]) (x1:=dP e) (x2:=dP d) (y1:=lP e) (y2:=lP d);have s4:=aeo (S0:=.list [.dict (au K'),.dict (au g)]) (ha:=.list [dP e,dP d]) (h2:=.list [lP e,lP d]) (W:=.list [.b (pT 0 1)])
 have hE:∀ c∈[e,d],rN c:=λc U'=>by
  rcases aT.mp U' with eE|U'
  .clear he h m1 m3 m4 m5 s1 s2 s3 s4 U';subst eE;exact m2
  .exact J (az.mp U') k2
 obtain⟨L',W',dn',EU,a8',Y,L,h3⟩:=Pm (S:=.list [.dict (au K'),.dict (au g)]) 200 [e,d] [⟨eM e.l d.l,0,1⟩] Bs 0 .any .any 100000 h hE (λw hw=>by
  refine J (az.mp hw) ?_
  exact⟨e,d,X,X,X⟩) (by decide) (by simp) (by simp) (by decide)
 refine⟨?_,L,h3⟩;have s5:aD [3,4,5] c0.tl.tl.tl.tl.hd ([.list [.dict (au K'),.dict (au g)],.b (.str 0),.b (.int 200),.list [dP e,dP d],.list [lP e,lP d],.list [.b (pT 0 1)],.b (.int 0)]++bz 8)=f (GS (.list [.dict (au K'),.dict (au g)]) (Bs.map dP) L' W' dn' EU a8',.next):=Y;have s6:aD [3,4,5] c0.tl.tl.tl.tl.tl (GS (.list [.dict (au K'),.dict (au g)]) (Bs.map dP) L' W' dn' EU a8')=f (GS (.list [.dict (au K'),.dict (au g)]) (Bs.map dP) L' W' dn' EU a8',.ret (.list (Bs.map dP))):=by dsimp only[c0,CS.tl,aD,ax,bf]
 exact aI (mu:=[3,4,5]) (np:=3) (more:=12) (ha:=c0) (as:=[.list [.dict (au K'),.dict (au g)],.b (.str 0),.b (.int 200)]) X ((ag s1).trans ((ag s2).trans ((ag s3).trans ((ag s4).trans ((ag s5).trans s6)))))
theorem Lg(U':sm c)(hL:∀ e∈Ls,sm e.l)(hl:Ls.length<=lim):gk.fn [.b (kT c),.list (Ls.map lP)]=f (.b (.bool (oE c Ls))):=by
 have Y:ax (.bq (.bc (aO cJ (.glob "R1" (.tup [.int 1,.int 1])))) [2] .plain aS) [.b (kT c),.list (Ls.map lP),.any]=f (.list (Ls.map pL)):=by refine bH (iv:=.list (Ls.map lP)) (Xs:=Ls.map lP) X X ?_ (by exact J (cw _) hl);exact eP (w:=pL) Ls λe he=>fA (by dsimp only[ax,bM,bf,ie,allB])
 obtain⟨f0,f1⟩:=Ji U' hL
 have key:∀{j:G},cO.fn [.b (kT c),.list (Ls.map pL)]=f (.b (.int j))->gk.fn [.b (kT c),.list (Ls.map lP)]=f (.b (.bool (decide (0<=j)))):=fun {j} hj=>by
  have L:ax (eO (aO bw (.bq (.bc (aO cJ (.glob "R1" (.tup [.int 1,.int 1])))) [2] .plain aS))) [.b (kT c),.list (Ls.map lP),.any]=f (.b (.int j)):=by
   have h3:ax (aO bw (.bq (.bc (aO cJ (.glob "R1" (.tup [.int 1,.int 1])))) [2] .plain aS)) [.b (kT c),.list (Ls.map lP),.any]=f (.tup [.b (kT c),.list (Ls.map pL)]):=by exact J bX (J tU (J bX (J Y X)))
   exact J rp (J h3 (J vN hj))
  refine aI (mu:=[]) (np:=2) (more:=1) (ha:=kK) (as:=[.b (kT c),.list (Ls.map lP)]) (M:=[.b (kT c),.list (Ls.map lP),.any]) X (d8 ?_);have h4:ax (.cmp .ge (eO (aO bw (.bq (.bc (aO cJ (.glob "R1" (.tup [.int 1,.int 1])))) [2] .plain aS))) bC) [.b (kT c),.list (Ls.map lP),.any]=f (.b (.bool (decide (0<=j)))):=by refine J ju (J L ?_);rfl
  show aD [] (.ret (.cmp .ge (eO (aO bw (.bq (.bc (aO cJ (.glob "R1" (.tup [.int 1,.int 1])))) [2] .plain aS))) bC)) [.b (kT c),.list (Ls.map lP),.any]=_;dsimp only[aD];exact J h4 X
 have WV:oE c Ls=(j9 c Ls).isSome:=by clear hL hl Y f0 f1 key;induction Ls with|nil=>rfl|cons e Ls ih=>dsimp only[oE,j9];cases pg e.l c with|true=>rfl|false=>exact ih
 refine J WV ?_;cases hz:j9 c Ls with|none=>exact J (key (f0 hz)) X|some e=>refine bY (f1 e hz) λj O O h3=>?_;refine J (key h3) ?_;rfl
theorem EW(c:a_):∀ A ha:d_ ZE,oE c (A++ha)=(oE c A||oE c ha):=λw'=>by induction w' with|nil=>intro ha;exact X|cons e A ih=>intro ha;dsimp only[cons_append,oE];cases pg e.l c with|true=>rfl|false=>exact ih ha
abbrev MB:CS:=cv.tl.tl.tl.hd.body
@[simp] theorem PV.list.injEq (a b):(PV.list a=PV.list b)=(a=b):=propext ⟨λh=>by cases h;rfl,λh=>h▸X⟩
theorem EX{k:a_}(h:Z.length<=lim):Ad (.list Z) (.b (.int (k:G)))=f (.list (Z.take k)):=by show(if Z.length<=lim then _ else _)=_;exact J (ai h) X
theorem Hn{k:a_}(h:Z.length<=lim):sF (.list Z) (.b (.int (k:G)))=f (.list (Z.drop k)):=by show(if Z.length<=lim then _ else _)=_;exact J (ai h) X
theorem Pn(hs:Ls=P++e::r)(hE:∀ d∈Ls,sm d.l)(hl:Ls.length<=1000)(hK:K.length<=lim)(hEs:Es=Ls.map dP) :
  ∃ EU,cn (aD [4] MB) [5,6] (.b (.tup [.int (P.length:G),kT e.l])) ([b0,.b (.str 0),.list Es,.list (Ls.map lP),.list K,a5,a6,a7]++bz 3) =
   f ([b0,.b (.str 0),.list Es,.list (Ls.map lP),.list (bif oE e.l P||oE e.l (r.filter λd:ZE=>!(f_ d.l e.l)) then K else K++[dP e]),.b (.int (P.length:G)),.b (kT e.l),EU]++bz 3,.next):=by
 have Qg:(Ls.map lP).length<=lim:=by refine J (cw _) ?_;dsimp only[lim];lia
 have hlen:P.length+(r.length+1)<=1000:=by rw[hs]at hl;simp at hl;omega
 have t1:ax (.bR tx [8] .plain (.fq cA (.bin .add kb bQ)) (.cmp .ne tx lM)) ([b0,.b (.str 0),.list Es,.list (Ls.map lP),.list K,.b (.int (P.length:G)),.b (kT e.l),a7]++bz 3)=f (.list ((r.filter λd:ZE=>!(f_ d.l e.l)).map lP)):=by
  have u1:ax (.fq cA (.bin .add kb bQ)) ([b0,.b (.str 0),.list Es,.list (Ls.map lP),.list K,.b (.int (P.length:G)),.b (kT e.l),a7]++bz 3)=f (.list (r.map lP)):=by
   have:ax (.fq cA (.bin .add kb bQ)) ([b0,.b (.str 0),.list Es,.list (Ls.map lP),.list K,.b (.int (P.length:G)),.b (kT e.l),a7]++bz 3)=sF (.list (Ls.map lP)) (.b (.int ((P.length+1:a_):G))):=X
   refine J this (J (Hn Qg) (dR List.map_drop (J hs (J List.drop_append ?_))));simp
  refine bH (iv:=.list (r.map lP)) (Xs:=r.map lP) u1 X ?_ (by
   refine J (cw _) ?_
   have:=HP (λd:ZE=>!(f_ d.l e.l)) r
   dsimp only[lim];lia)
  have:(r.filter λd:ZE=>!(f_ d.l e.l)).map lP=r.flatMap λd=>bif f_ d.l e.l then [] else [lP d]:=by clear hs hlen u1;induction r with|nil=>rfl|cons d r ih=>refine J CR (dR ih (J UI ?_));cases f_ d.l e.l<;>rfl
  refine J this (nt r λd hd=>?_);show(match (match nL .ne (.b (kT d.l)) (.b (kT e.l)) with|f r=>f (PV.b (.bool r))|V=>V) with|f (.b (.bool R))=>f [lP d]|f (.b (.bool N'))=>f []|_=>V)=_;show(match (match fw ⟨0,.nil⟩ .ne (kT d.l) (kT e.l) with|f r=>f (PV.b (.bool r))|V=>V) with|f (.b (.bool R))=>f [lP d]|f (.b (.bool N'))=>f []|_=>V)=_;refine J (aea d.l e.l) ?_;cases f_ d.l e.l<;>rfl
 have t2:ax (.gJ cA kb) ([b0,.b (.str 0),.list Es,.list (Ls.map lP),.list K,.b (.int (P.length:G)),.b (kT e.l),a7]++bz 3)=f (.list (P.map lP)):=by
  have:ax (.gJ cA kb) ([b0,.b (.str 0),.list Es,.list (Ls.map lP),.list K,.b (.int (P.length:G)),.b (kT e.l),a7]++bz 3)=Ad (.list (Ls.map lP)) (.b (.int (P.length:G))):=X
  exact J this (J (EX Qg) (dR UQ (J hs (J List.take_left X))))
 have t3:aD [4] MB.hd ([b0,.b (.str 0),.list Es,.list (Ls.map lP),.list K,.b (.int (P.length:G)),.b (kT e.l),a7]++bz 3)=f ([b0,.b (.str 0),.list Es,.list (Ls.map lP),.list K,.b (.int (P.length:G)),.b (kT e.l),.list ((P++r.filter λd:ZE=>!(f_ d.l e.l)).map lP)]++bz 3,.next):=by
  refine aB (iv:=.list ((P++r.filter λd:ZE=>!(f_ d.l e.l)).map lP)) ?_ X;refine J mV (J t2 (J t1 ?_));show(if _ then _ else _)=_
  rw[ai ⟨by rw[cw];dsimp only[lim];lia,by
   rw[cw]
   have:=HP (λd:ZE=>!(f_ d.l e.l)) r
   dsimp only[lim];omega⟩,CU]
 have fC:e∈Ls:=by refine J hs ?_;simp
 have wW:∀ d∈P++r.filter (λd:ZE=>!(f_ d.l e.l)),sm d.l:=λd hd=>hE d (by
  refine J hs ?_;rcases fG.mp hd with hd|hd
  .exact uN _ hd
  .exact HQ _ (bg _ (UR.mp hd).1))
 have t4:=Lg (hE e fC) wW (by
  have:=HP (λd:ZE=>!(f_ d.l e.l)) r
  refine J oi ?_;dsimp only[lim];lia)
 rw[EW]at t4;refine⟨.list ((P++r.filter λd:ZE=>!(f_ d.l e.l)).map lP),?_⟩;refine J (X:cn (aD [4] MB) [5,6] (.b (.tup [.int (P.length:G),kT e.l])) ([b0,.b (.str 0),.list Es,.list (Ls.map lP),.list K,a5,a6,a7]++bz 3)=aD [4] MB ([b0,.b (.str 0),.list Es,.list (Ls.map lP),.list K,.b (.int (P.length:G)),.b (kT e.l),a7]++bz 3)) ?_;have aep:ml (.list Es) (.b (.int (P.length:G)))=f (dP e):=by show(if Es.length<=lim then Es[P.length]? else .none)=_;refine J (ai (by rw[hEs,cw];dsimp only[lim];lia)) (J hEs (J hs ?_));simp
 refine(ag (a:=MB.hd) (b:=MB.tl) t3).trans ?_
 cases hz:oE e.l P||oE e.l (r.filter λd:ZE=>!(f_ d.l e.l)) with
 |true=>
  rw[hz]at t4;dsimp only[kT,K3]at t4 ⊢
  have t5:aD [4] MB.tl.hd ([b0,.b (.str 0),.list Es,.list (Ls.map lP),.list K,.b (.int (P.length:G)),.b (kT e.l),.list ((P++r.filter λd:ZE=>!(f_ d.l e.l)).map lP)]++bz 3)=f ([b0,.b (.str 0),.list Es,.list (Ls.map lP),.list K,.b (.int (P.length:G)),.b (kT e.l),.list ((P++r.filter λd:ZE=>!(f_ d.l e.l)).map lP)]++bz 3,.next):=by
   show(match (match (match gk.fn [.b (kT e.l),.list ((P++r.filter λd:ZE=>!(f_ d.l e.l)).map lP)]with
    |f (.b (.bool b))=>f (PV.b (.bool (!b)))
    |_=>V) with|f (.b (.bool R))=>aD [4] (.seq (.append 4 (.idx cJ kb)) .skip) ([b0,.b (.str 0),.list Es,.list (Ls.map lP),.list K,.b (.int (P.length:G)),.b (kT e.l),.list ((P++r.filter λd:ZE=>!(f_ d.l e.l)).map lP)]++bz 3)|f (.b (.bool N'))=>aD [4] .skip ([b0,.b (.str 0),.list Es,.list (Ls.map lP),.list K,.b (.int (P.length:G)),.b (kT e.l),.list ((P++r.filter λd:ZE=>!(f_ d.l e.l)).map lP)]++bz 3)|_=>V) with|r=>r)=_
   refine J t4 ?_;rfl
  exact(ag (a:=MB.tl.hd) t5).trans X
 |false=>
  rw[hz]at t4
  have t5:aD [4] MB.tl.hd ([b0,.b (.str 0),.list Es,.list (Ls.map lP),.list K,.b (.int (P.length:G)),.b (kT e.l),.list ((P++r.filter λd:ZE=>!(f_ d.l e.l)).map lP)]++bz 3)=f ([b0,.b (.str 0),.list Es,.list (Ls.map lP),.list (K++[dP e]),.b (.int (P.length:G)),.b (kT e.l),.list ((P++r.filter λd:ZE=>!(f_ d.l e.l)).map lP)]++bz 3,.next):=by
   have t6:aD [4] (.append 4 (.idx cJ kb)) ([b0,.b (.str 0),.list Es,.list (Ls.map lP),.list K,.b (.int (P.length:G)),.b (kT e.l),.list ((P++r.filter λd:ZE=>!(f_ d.l e.l)).map lP)]++bz 3)=f ([b0,.b (.str 0),.list Es,.list (Ls.map lP),.list (K++[dP e]),.b (.int (P.length:G)),.b (kT e.l),.list ((P++r.filter λd:ZE=>!(f_ d.l e.l)).map lP)]++bz 3,.next):=by have u:ax (.idx cJ kb) ([b0,.b (.str 0),.list Es,.list (Ls.map lP),.list K,.b (.int (P.length:G)),.b (kT e.l),.list ((P++r.filter λd:ZE=>!(f_ d.l e.l)).map lP)]++bz 3)=f (dP e):=aep;dsimp only[aD];refine J u ?_;show(if K.length<=lim then _ else _)=_;refine J (ai hK) ?_;rfl
   show(match (match gk.fn [.b (kT e.l),.list ((P++r.filter λd:ZE=>!(f_ d.l e.l)).map lP)]with
    |f (.b (.bool b))=>f (PV.b (.bool (!b)))
    |_=>V) with|f (.b (.bool R))=>aD [4] (.seq (.append 4 (.idx cJ kb)) .skip) ([b0,.b (.str 0),.list Es,.list (Ls.map lP),.list K,.b (.int (P.length:G)),.b (kT e.l),.list ((P++r.filter λd:ZE=>!(f_ d.l e.l)).map lP)]++bz 3)|f (.b (.bool N'))=>aD [4] .skip ([b0,.b (.str 0),.list Es,.list (Ls.map lP),.list K,.b (.int (P.length:G)),.b (kT e.l),.list ((P++r.filter λd:ZE=>!(f_ d.l e.l)).map lP)]++bz 3)|_=>V)=_
   refine J t4 ?_;show aD [4] (.seq (.append 4 (.idx cJ kb)) .skip) _=_;refine J (ag t6) ?_;rfl
  exact(ag (a:=MB.tl.hd) t5).trans X
theorem Po(hE:∀ d∈Ls,sm d.l)(hl:Ls.length<=1000):∀(r P:d_ ZE) (K:aC) (a5 a6 a7:PV),Ls=P++r->K.length<=P.length ->
  ∃ a5' Aw EU,dQ (cn (aD [4] MB) [5,6]) (fy P.length (r.map lP)) ([b0,.b (.str 0),.list (Ls.map dP),.list (Ls.map lP),.list K,a5,a6,a7]++bz 3)=f ([b0,.b (.str 0),.list (Ls.map dP),.list (Ls.map lP),.list (K++(nO P r).map dP),a5',Aw,EU]++bz 3,.next):=by
 intro w';induction w' with|nil=>intro P K a5 a6 a7 O O;exact⟨a5,a6,a7,by simp[fy,dQ,nO]⟩|cons e r IH=>
  intro P K a5 a6 a7 hs hK;have hlen:P.length+(r.length+1)<=1000:=by rw[hs]at hl;simp at hl;omega
  obtain⟨EU,ht⟩:=Pn (b0:=b0) (K:=K) hs hE hl (by dsimp only[lim];lia) X (a5:=a5) (a6:=a6) (a7:=a7);simp only[bW,hU,dQ,ht];have Fi:Ls=(P++[e])++r:=by refine J hs ?_;simp
  have Ut:(P++[e]).length=P.length+1:=by simp
  dsimp only[nO];cases hz:oE e.l P||oE e.l (r.filter λd:ZE=>!(f_ d.l e.l)) with|true=>(obtain⟨b5,b6,b7,ih⟩:=IH (P++[e]) K (.b (.int (P.length:G))) (.b (kT e.l)) EU Fi (by lia);rw[Ut]at ih;exact Mw b5 b6 b7 ih)|false=>obtain⟨b5,b6,b7,ih⟩:=IH (P++[e]) (K++[dP e]) (.b (.int (P.length:G))) (.b (kT e.l)) EU Fi (by simp;omega);rw[Ut]at ih;refine Mw b5 b6 b7 ?_;rw[UH]at ih;exact ih
theorem Pp:∀{P r:d_ ZE} {e:ZE},e∈nO P r->e∈r:=by intro P w';induction w' generalizing P with|nil=>intro e h;dsimp only[nO]at h;simp at h|cons d r ih=>
  intro e h;dsimp only[nO]at h;revert h;cases q_:oE d.l P||oE d.l (r.filter λx=>!(f_ x.l d.l))<;>intro h;rotate_left
  .exact bg _ (ih h)
  .rcases aT.mp h with h|h
   .exact J h aQ
   .exact bg _ (ih h)
theorem rN.ne(h:rN e):0<(au e.p).length:=by refine eD (h.ld) λp r Y O=>?_;refine J Y ?_;simp[dT]
theorem Lh(hE:∀ e∈Ls,rN e)(hl:Ls.length<=1000):kh.fn [.list (Ls.map dP),.b (.str 0)]=f (.list ((nO [] Ls).map dP)):=by
 have oA:Ls.length<=lim:=by dsimp only[lim];lia
 have s1:aD [4] cv.hd ([.list (Ls.map dP),.b (.str 0)]++bz 9)=f ([.list (Ls.map dP),.b (.str 0),.list (Ls.map dP)]++bz 8,.next):=by refine aB (bH (iv:=.list (Ls.map dP)) (Xs:=Ls.map dP) (Ys:=Ls.map dP) X X ?_ (by exact J (cw _) oA)) X;refine eP (w:=dP) Ls λe he=>?_;have Y:=(hE e he).ne;have L:(au e.p).length<=lim:=J (cu _) ((hE e he).ok.lim);have h3:decide (0<((au e.p).length:G))=R:=bP (by lia);exact yj X ((cb (o:=.gt) (x:=((au e.p).length:G)) (y:=0) (rJ (k:=.len) (Vs:=[.dict (au e.p)]) (eW X) (ai L)) X).trans (by rw[cmpInt,h3])) X
 have s2:aD [4] cv.tl.hd ([.list (Ls.map dP),.b (.str 0),.list (Ls.map dP)]++bz 8)=f ([.list (Ls.map dP),.b (.str 0),.list (Ls.map dP),.list (Ls.map lP)]++bz 7,.next):=by refine aB (bH (iv:=.list (Ls.map dP)) (Xs:=Ls.map dP) (Ys:=Ls.map lP) X X ?_ (by exact J (cw _) oA)) X;refine eP (w:=lP) Ls λe he=>fA ?_;have Y:ax (bN (aO yA aS)) (bM ([.list (Ls.map dP),.b (.str 0),.list (Ls.map dP)]++bz 8) 9 (dP e))=f (pL e):=pM (hE e he);refine J mW (J Y ?_);rfl
 have s3:aD [4] cv.tl.tl.hd ([.list (Ls.map dP),.b (.str 0),.list (Ls.map dP),.list (Ls.map lP)]++bz 7)=f ([.list (Ls.map dP),.b (.str 0),.list (Ls.map dP),.list (Ls.map lP),.list []]++bz 6,.next):=X;refine H6 (Po (b0:=.list (Ls.map dP)) (Ls:=Ls) (λd hd=>(hE d hd).CF) hl Ls [] [] .any .any .any X (fB _)) λa5 a6 a7 h4=>?_;have s4:aD [4] cv.tl.tl.tl.hd ([.list (Ls.map dP),.b (.str 0),.list (Ls.map dP),.list (Ls.map lP),.list []]++bz 6)=f ([.list (Ls.map dP),.b (.str 0),.list (Ls.map dP),.list (Ls.map lP),.list ((nO [] Ls).map dP),a5,a6,a7]++bz 3,.next):=by refine(jO (i:=3) (ik:=.enum) (C':=[5,6]) (b:=MB) (Z:=fy 0 (Ls.map lP)) X X X).trans ?_;rw[CV]at h4;exact h4
 have s5:aD [4] cv.tl.tl.tl.tl ([.list (Ls.map dP),.b (.str 0),.list (Ls.map dP),.list (Ls.map lP),.list ((nO [] Ls).map dP),a5,a6,a7]++bz 3)=f ([.list (Ls.map dP),.b (.str 0),.list (Ls.map dP),.list (Ls.map lP),.list ((nO [] Ls).map dP),a5,a6,a7]++bz 3,.ret (.list ((nO [] Ls).map dP))):=X;exact aI (mu:=[4]) (np:=2) (more:=9) (ha:=cv) (as:=[.list (Ls.map dP),.b (.str 0)]) X ((ag s1).trans ((ag s2).trans ((ag s3).trans ((ag s4).trans s5))))
abbrev kV(e:ZE)(i:a_):AV:=.tup [kT e.l,.int (i:G)]
def zv:a_->d_ ZE->al|O,[]=>[]|i,e::r=>kV e i::zv (i+1) r
theorem Jl:∀(Ms:d_ ZE) (i:a_),(zv i Ms).length=Ms.length:=λw'=>by induction w' with|nil=>intro O;exact X|cons e Ms ih=>intro i;dsimp only[zv];simp[ih]
theorem Ay:∀(Ms:d_ ZE) (i:a_),Ms≠[]->BO Ms=R->w4 (zv i Ms)=R|[],O,h,O'=>g_ X h|[e],i,O,O'=>X|e::d::r,i,O,h=>by revert h;refine qW (λiQ h=>?_);have iQ:d.l<e.l:=iC iQ;have ih:=Ay (d::r) (i+1) (by simp) h;show((match fk 3 (kT d.l) (kT e.l),kW N' 3 (kT d.l) (kT e.l) with|f N',f R=>R|_,_=>N')&&w4 (zv (i+1) (d::r)))=R;refine J (aaR _ _) (J (ad9 _ _) (J (KX (by lia)) (J (bP iQ) (J ih ?_))));rfl
theorem SH:∀(Ms:d_ ZE) (i:a_),sq (zv i Ms)=R:=λw'=>by induction w' with|nil=>intro O;exact X|cons e Ms ih=>intro i;exact ih (i+1)
theorem Li:∀(Ms:d_ ZE) (i:a_),(∀ e∈Ms,rN e) ->
  lu (D4 (ax (.bc (aO (d5 (aO aS (.idx (bN (aO tx aS)) bC))) rQ))) [7,8] [x0,.b (.str 0),.list K0,a3,a4,a5,a6,.any,.any]) (fy i (Ms.map dP))=f ((zv i Ms).map .b):=by
 intro w';induction w' with|nil=>intro i O;exact X|cons e Ms ih=>
  intro i h;have hl:=pM (h e aQ);have hk:d0.fn [.b (.str 0),.b (kT e.l)]=f (.b (kT e.l)):=j1 _ (by intro h;cases h)
  have Y:D4 (ax (.bc (aO (d5 (aO aS (.idx (bN (aO tx aS)) bC))) rQ))) [7,8] [x0,.b (.str 0),.list K0,a3,a4,a5,a6,.any,.any] (.tup [.b (.int (i:G)),dP e])=f [.b (kV e i)]:=by
   have g1:ax (bN (aO tx aS)) [x0,.b (.str 0),.list K0,a3,a4,a5,a6,.b (.int (i:G)),dP e]=f (pL e):=hl;have g2:ax (.idx (bN (aO tx aS)) bC) [x0,.b (.str 0),.list K0,a3,a4,a5,a6,.b (.int (i:G)),dP e]=f (.b (kT e.l)):=by exact J mW (J g1 X)
   have g3:ax (d5 (aO aS (.idx (bN (aO tx aS)) bC))) [x0,.b (.str 0),.list K0,a3,a4,a5,a6,.b (.int (i:G)),dP e]=f (.b (kT e.l)):=by
    refine J rp (J dq ?_)
    show(match ax (aO aS (.idx (bN (aO tx aS)) bC)) [x0,.b (.str 0),.list K0,a3,a4,a5,a6,.b (.int (i:G)),dP e]with
     |f (.tup Z)=>d0.fn Z
     |_=>V)=_
    have g4:ax (aO aS (.idx (bN (aO tx aS)) bC)) [x0,.b (.str 0),.list K0,a3,a4,a5,a6,.b (.int (i:G)),dP e]=f (.tup [.b (.str 0),.b (kT e.l)]):=by
     first|exact bE X g2|(rw[bX,tU,bX,g2];rfl)
    exact J g4 hk
   have g5:ax (aO (d5 (aO aS (.idx (bN (aO tx aS)) bC))) rQ) [x0,.b (.str 0),.list K0,a3,a4,a5,a6,.b (.int (i:G)),dP e]=f (.tup [.b (kT e.l),.b (.int (i:G))]):=by exact J bX (J g3 X)
   show(match ax (.bc (aO (d5 (aO aS (.idx (bN (aO tx aS)) bC))) rQ)) [x0,.b (.str 0),.list K0,a3,a4,a5,a6,.b (.int (i:G)),dP e]with
    |f y=>f [y]
    |V=>V)=_
   refine J eZ (J g5 ?_);rfl
  have L:fy i ((e::Ms).map dP)=.tup [.b (.int (i:G)),dP e]::fy (i+1) (Ms.map dP):=X;refine J L ?_;dsimp only[lu];refine J Y ?_;refine J (ih (i+1) λd hd=>h d (bg _ hd)) ?_;rfl
abbrev RB:CS:=ct.tl.tl.tl.tl.hd.body
theorem Pq{x0:PV}{Ms:d_ ZE}(hM:∀ e∈Ms,rN e)(hl:Ms.length<=1000):∀(r:d_ (ZE × a_)) (Ds wb:d_ ZE) (a5 a6:PV),(∀ p∈r,Ms[p.2]?=f p.1)->Go (r.map (·.1)) Ds=f wb->(∀ e∈Ds,rN e)->Ds.length+r.length<=1000 ->
  ∃ a5' Aw,dQ (cn (aD [3,4] RB) [5,6]) (r.map λp=>.b (kV p.1 p.2)) [x0,.b (.str 0),.list (Ms.map dP),.any,.list (Ds.map dP),a5,a6,.any,.any]=f ([x0,.b (.str 0),.list (Ms.map dP),.any,.list (wb.map dP),a5',Aw,.any,.any],.next)/\∀ e∈wb,rN e:=by
 intro w';induction w' with|nil=>(intro Ds wb a5 a6 O h hD O;refine Mp λGq kq=>?_;obtain rfl:=aw h;exact kq a5 a6 X hD)|cons p r ih=>
  intro Ds wb a5 a6 hr h hD hlen;refine Mp λGq kq=>?_;have hp:=hr p aQ;have hpE:=hM p.1 (dU hp);simp only[fD]at hlen
  (conv at h=>lhs;whnf)
  revert h;refine zsP (λb hc hR h=>?_);revert h;refine W8 (λd hd h=>ia λGq zq=>dF (Pf hpE.ok hpE.bd hD (by lia) hR) λr1 r2 r3=>?_);obtain⟨m1,m2,m3,n,m4,m5⟩:=qj r2 r3 hd;refine zq ?_;clear zq
  have ht:cn (aD [3,4] RB) [5,6] (.b (kV p.1 p.2)) [x0,.b (.str 0),.list (Ms.map dP),.any,.list (Ds.map dP),a5,a6,.any,.any]=f ([x0,.b (.str 0),.list (Ms.map dP),.any,.list ((Ds++[d]).map dP),.b (kT p.1.l),.b (.int (p.2:G)),.any,.any],.next):=by
   have g1:ax (.idx cJ lM) [x0,.b (.str 0),.list (Ms.map dP),.any,.list (Ds.map dP),.b (kT p.1.l),.b (.int (p.2:G)),.any,.any]=f (dP p.1):=by show(if (Ms.map dP).length<=lim then(Ms.map dP)[p.2]? else .none)=_;refine J (ai (by rw[cw];dsimp only[lim];lia)) (J mH (J hp ?_));rfl
   have g2:ax (g9 (iB (.idx cJ lM) jf aS)) [x0,.b (.str 0),.list (Ms.map dP),.any,.list (Ds.map dP),.b (kT p.1.l),.b (.int (p.2:G)),.any,.any]=f (.dict (au hc)):=by
    have g3:ax (iB (.idx cJ lM) jf aS) [x0,.b (.str 0),.list (Ms.map dP),.any,.list (Ds.map dP),.b (kT p.1.l),.b (.int (p.2:G)),.any,.any]=f (.tup [dP p.1,.list (Ds.map dP),.b (.str 0)]):=by exact J bX (J g1 X)
    exact ar X g3 r1
   have g4:ax (fS (aO (g9 (iB (.idx cJ lM) jf aS)) aS)) [x0,.b (.str 0),.list (Ms.map dP),.any,.list (Ds.map dP),.b (kT p.1.l),.b (.int (p.2:G)),.any,.any]=f (dP d):=by
    have g5:ax (aO (g9 (iB (.idx cJ lM) jf aS)) aS) [x0,.b (.str 0),.list (Ms.map dP),.any,.list (Ds.map dP),.b (kT p.1.l),.b (.int (p.2:G)),.any,.any]=f (.tup [.dict (au hc),.b (.str 0)]):=by exact J bX (J g2 X)
    exact ar X g5 m1
   show aD [3,4] (.seq (.append 4 (fS (aO (g9 (iB (.idx cJ lM) jf aS)) aS))) .skip) [x0,.b (.str 0),.list (Ms.map dP),.any,.list (Ds.map dP),.b (kT p.1.l),.b (.int (p.2:G)),.any,.any]=_;have g6:aD [3,4] (.append 4 (fS (aO (g9 (iB (.idx cJ lM) jf aS)) aS))) [x0,.b (.str 0),.list (Ms.map dP),.any,.list (Ds.map dP),.b (kT p.1.l),.b (.int (p.2:G)),.any,.any]=f ([x0,.b (.str 0),.list (Ms.map dP),.any,.list ((Ds++[d]).map dP),.b (kT p.1.l),.b (.int (p.2:G)),.any,.any],.next):=by dsimp only[aD];refine J g4 ?_;show(if (Ds.map dP).length<=lim then _ else _)=_;refine J (ai (by rw[cw];dsimp only[lim];lia)) ?_;dsimp only[bM];simp
   refine J (ag g6) ?_;rfl
  obtain⟨a5',Aw,ih1,ih2⟩:=ih (Ds++[d]) wb (.b (kT p.1.l)) (.b (.int (p.2:G))) (λq hq=>hr q (bg _ hq)) h (λc U'=>by
   rcases fG.mp U' with U'|U'
   .exact hD c U'
   .exact J (az.mp U') m2) (by simp;lia)
  refine kq a5' Aw ?_ ih2;refine J bW ?_;rw[dQ];refine J ht ?_;exact ih1
noncomputable def qQ:a_->d_ ZE->d_ (ZE × a_)|O,[]=>[]|i,e::r=>(e,i)::qQ (i+1) r
theorem Pr:∀(Ms:d_ ZE) (i:a_),zv i Ms=(qQ i Ms).map λp=>kV p.1 p.2:=λw'=>by induction w' with|nil=>intro O;exact X|cons e Ms ih=>intro i;dsimp only[zv,qQ];exact J (ih _) X
theorem Az:∀(Ms:d_ ZE) (i:a_),(qQ i Ms).map (·.1)=Ms:=λw'=>by induction w' with|nil=>intro O;exact X|cons e Ms ih=>intro i;exact J bW (J (ih _) X)
theorem Pu:∀(Ms Ns:d_ ZE),∀ p∈qQ Ns.length Ms,(Ns++Ms)[p.2]?=f p.1:=λw'=>by induction w' with|nil=>intro Ns p h;dsimp only[qQ]at h;simp at h|cons e Ms ih=>
  intro Ns p h;dsimp only[qQ]at h;rw[aT]at h;rcases h with eE|h
  .subst eE;simp
  .have:=ih (Ns++[e]) p (by exact J oi h)
   rw[UH]at this;exact this
theorem Lj{Bs Ds:d_ ZE}(hE:∀ e∈Bs,rN e)(hl:Bs.length<=1000)(hf:BO (nO [] Bs)=R)(L:2<=(nO [] Bs).length)(h64:(nO [] Bs).length<64)(h:Go (nO [] Bs).reverse []=f Ds) :
  lC.fn [.list (Bs.map dP),.b (.str 0)]=f (.list (Ds.map dP))/\∀ e∈Ds,rN e:=by
 have hm:=Lh hE hl;generalize hMs:nO [] Bs=Ms at *;have hM:∀ e∈Ms,rN e:=λe he=>hE e (Pp (hMs▸he));have s1:aD [3,4] ct.hd ([.list (Bs.map dP),.b (.str 0)]++bz 7)=f ([.list (Bs.map dP),.b (.str 0),.list (Ms.map dP)]++bz 6,.next):=by refine aB (iv:=.list (Ms.map dP)) ?_ X;exact hm
 have s2:aD [3,4] ct.tl.hd ([.list (Bs.map dP),.b (.str 0),.list (Ms.map dP)]++bz 6)=f ([.list (Bs.map dP),.b (.str 0),.list (Ms.map dP),.list ((zv 0 Ms).map .b)]++bz 5,.next):=by refine aB (bH (iv:=.list (Ms.map dP)) (Xs:=fy 0 (Ms.map dP)) (Ys:=(zv 0 Ms).map .b) X X (Li Ms 0 hM) (by refine J (cw _) (J (Jl _ _) ?_);dsimp only[lim];lia)) ?_;rfl
 have s3:aD [3,4] ct.tl.tl.hd ([.list (Bs.map dP),.b (.str 0),.list (Ms.map dP),.list ((zv 0 Ms).map .b)]++bz 5)=f ([.list (Bs.map dP),.b (.str 0),.list (Ms.map dP),.list ((zv 0 Ms).map PV.b).reverse]++bz 5,.next):=by
  have:D6 (.list ((zv 0 Ms).map .b))=f (.list ((zv 0 Ms).map PV.b).reverse):=by dsimp only[D6];simp only[i7,Jl,SH,Ay Ms 0 (by intro q;rw[q]at L;exact g_ L (by decide)) hf,Yo];exact ai ⟨L,h64⟩
  show ly ([.list (Bs.map dP),.b (.str 0),.list (Ms.map dP),.list ((zv 0 Ms).map .b)]++bz 5) 3 (D6 (.list ((zv 0 Ms).map .b)))=_;refine J this ?_;rfl
 have s4:aD [3,4] ct.tl.tl.tl.hd ([.list (Bs.map dP),.b (.str 0),.list (Ms.map dP),.list ((zv 0 Ms).map PV.b).reverse]++bz 5)=f ([.list (Bs.map dP),.b (.str 0),.list (Ms.map dP),.list ((zv 0 Ms).map PV.b).reverse,.list []]++bz 4,.next):=X
 obtain⟨a5,a6,k1,k2⟩:=Pq (x0:=.list (Bs.map dP)) hM (by lia) (qQ 0 Ms).reverse [] Ds .any .any (λp hp=>Pu Ms [] p (List.mem_reverse.mp hp)) (by exact J UP (J (Az _ _) h)) (λO q=>g_ q fH) (by
  have:(qQ 0 Ms).length=Ms.length:=by(exact dR (cw (f:=λp:ZE × a_=>p.1)) (J (Az _ _) X))
  refine J uM (J this (J uL ?_));lia)
 have s5:aD [3,4] ct.tl.tl.tl.tl.hd ([.list (Bs.map dP),.b (.str 0),.list (Ms.map dP),.list ((zv 0 Ms).map PV.b).reverse,.list []]++bz 4)=f ([.list (Bs.map dP),.b (.str 0),.list (Ms.map dP),.any,.list (Ds.map dP),a5,a6,.any,.any],.next):=by
  have hx:((zv 0 Ms).map PV.b).reverse=(qQ 0 Ms).reverse.map λp=>PV.b (kV p.1 p.2):=by exact J (Pr _ _) (J fE (J UP X))
  exact J hx k1
 have s6:aD [3,4] ct.tl.tl.tl.tl.tl [.list (Bs.map dP),.b (.str 0),.list (Ms.map dP),.any,.list (Ds.map dP),a5,a6,.any,.any]=f ([.list (Bs.map dP),.b (.str 0),.list (Ms.map dP),.any,.list (Ds.map dP),a5,a6,.any,.any],.ret (.list (Ds.map dP))):=X;exact⟨aI (mu:=[3,4]) (np:=2) (more:=7) (ha:=ct) (as:=[.list (Bs.map dP),.b (.str 0)]) X ((ag s1).trans ((ag s2).trans ((ag s3).trans ((ag s4).trans ((ag s5).trans s6))))),k2⟩
theorem EY{α:Type}(K':α->e_):∀ l:d_ α,boolsOf (l.map λx=>.bool (K' x))=f (l.map K'):=λw'=>by induction w' with|nil=>exact X|cons x l ih=>dsimp only[Gq,boolsOf];exact J ih X
theorem XE(h:rN e):nX.fn [dP e,.b (.int 1)]=f (.b (.bool (e.p.all λp=>s_ p.1 256))):=by
 have hl:e.p.length<=lim:=h.ok.lim
 have Y:ax (.bq (.cmp .eq (.bi .sum (bx (.gJ cJ aS))) bC) [2] .plain bw) [dP e,.b (.int 1),.any]=f (.list ((e.p.map λp=>AV.bool (s_ p.1 256)).map .b)):=by
  refine J fE (bH (iv:=dP e) (Xs:=e.p.map λp=>.b (kT p.1)) X (by(dsimp only[D3];exact J (qh _) X)) ?_ (by exact J (cw _) hl));refine eP (w:=λp:a_ × G=>.b (.bool (s_ p.1 256))) _ λp hp=>fA ?_
  have g:s_ p.1 256=decide ((0:G)+((p.1/256:a_):G)=0):=by
   unfold s_;refine J (Cp _ _) ?_;by_cases q:p.1<256
   .exact J (bP (show p.1.succ<=256 by assumption)) (J (bP (by lia)) X)
   .exact J (bT (show ¬ p.1.succ<=256 by assumption)) (J (bT (by lia)) X)
  refine J g ?_;rfl
 have L:ax (.bi .all (bx (.bq (.cmp .eq (.bi .sum (bx (.gJ cJ aS))) bC) [2] .plain bw))) [dP e,.b (.int 1),.any]=f (.b (.bool (e.p.all λp=>s_ p.1 256))):=by
  have h3:ax (bx (.bq (.cmp .eq (.bi .sum (bx (.gJ cJ aS))) bC) [2] .plain bw)) [dP e,.b (.int 1),.any]=f (.tup [.list ((e.p.map λp=>AV.bool (s_ p.1 256)).map .b)]):=by exact J bX (J Y X)
  refine J jX (J h3 ?_);(dsimp only[tu,nM];(refine J (i7 _) ?_;try dsimp only;refine J (EY _ _) ?_;try dsimp only;refine J List.all_map ?_;try dsimp only));rfl
 refine aI (mu:=[]) (np:=2) (more:=1) (ha:=kM) (as:=[dP e,.b (.int 1)]) (M:=[dP e,.b (.int 1),.any]) X (d8 ?_);show aD [] (.ret (.bi .all (bx (.bq (.cmp .eq (.bi .sum (bx (.gJ cJ aS))) bC) [2] .plain bw)))) [dP e,.b (.int 1),.any]=_;dsimp only[aD];exact J L X
theorem XF(hf:jl 2 K')(hg:jl 2 g)(h:Al K' g=f Ds):l4.fn [.list [.dict (au K'),.dict (au g)],.b (.int 1),.b (.int 200)]=f (.list (Ds.map dP))/\∀ e∈Ds,rN e:=by
 delta Al at h;revert h;refine W8 (λe he h=>?_);revert h;refine W8 (λd hd h=>?_);revert h;refine zsL (λBs hB h=>dF (Hm hf hg he hd hB) λg1 g2 g3=>?_);simp -iota only  at h;revert h;refine gg nS λU' h=>?_;simp only[jb]at U';revert h;refine zsL (λwb hD h=>?_);cases h;obtain⟨r1,r2⟩:=Lj g2 g3 U'.1 (iC U'.2.1) (iC U'.2.2) hD
 have hb:kl.fn [.list [.dict (au K'),.dict (au g)],.b (.str 0),.b (.int 200)]=f (.list (wb.map dP)):=by
  have Y:ax (j0 (iB bw aS cJ)) [.list [.dict (au K'),.dict (au g)],.b (.str 0),.b (.int 200)]=f (.list (Bs.map dP)):=g1
  have L:ax (ki (aO (j0 (iB bw aS cJ)) aS)) [.list [.dict (au K'),.dict (au g)],.b (.str 0),.b (.int 200)]=f (.list (wb.map dP)):=by
   have h3:ax (aO (j0 (iB bw aS cJ)) aS) [.list [.dict (au K'),.dict (au g)],.b (.str 0),.b (.int 200)]=f (.tup [.list (Bs.map dP),.b (.str 0)]):=by exact J bX (J Y X)
   exact ar X h3 r1
  refine aI (mu:=[]) (np:=3) (more:=0) (ha:=gX) (as:=[.list [.dict (au K'),.dict (au g)],.b (.str 0),.b (.int 200)]) (M:=[.list [.dict (au K'),.dict (au g)],.b (.str 0),.b (.int 200)]) X (d8 ?_);show aD [] (.ret (ki (aO (j0 (iB bw aS cJ)) aS))) [.list [.dict (au K'),.dict (au g)],.b (.str 0),.b (.int 200)]=_;dsimp only[aD];exact J L X
 have We:wb.length<=1000:=by
  have:∀(r Ds wb:d_ ZE),Go r Ds=f wb->wb.length=Ds.length+r.length:=by intro r;induction r with|nil=>intro Ds wb h;(dsimp only[Go]at h;rw[dN]at h);exact J h X|cons e r ih=>intro Ds wb h;dsimp only[Go]at h;revert h;refine zsP (λO O O=>W8 (λO O h=>?_));refine J (ih _ _ h) ?_;simp;lia
  have Y:=this _ _ _ hD;have L:=iC U'.2.2;rw[uM,uL]at Y;lia
 refine⟨?_,λc hcm=>r2 c (UR.mp hcm).1⟩
 have h4:ax (.bR cA [3] .plain (jD (iB bw (.k (.str 0)) cJ)) (gO (aO cA aS))) [.list [.dict (au K'),.dict (au g)],.b (.int 1),.b (.int 200),.any]=f (.list ((wb.filter λe:ZE=>e.p.all λp=>s_ p.1 256).map dP)):=by
  refine bH (iv:=.list (wb.map dP)) (Xs:=wb.map dP) hb X ?_ (by
   refine J (cw _) ?_
   have:=HP (λe:ZE=>e.p.all λp=>s_ p.1 256) wb
   dsimp only[lim];lia)
  have:(wb.filter λe:ZE=>e.p.all λp=>s_ p.1 256).map dP=wb.flatMap λe=>bif (e.p.all λp=>s_ p.1 256) then [dP e] else []:=by clear hD r1 r2 hb We;induction wb with|nil=>rfl|cons c wb ih=>refine J UI (J CR (dR ih ?_));cases (c.p.all λp=>s_ p.1 256)<;>rfl
  refine J this (nt wb λc hcm=>?_);have Ue:=XE (r2 c hcm);have h5:ax (gO (aO cA aS)) [.list [.dict (au K'),.dict (au g)],.b (.int 1),.b (.int 200),dP c]=f (.b (.bool (c.p.all λp=>s_ p.1 256))):=Ue
  show(match ax (gO (aO cA aS)) [.list [.dict (au K'),.dict (au g)],.b (.int 1),.b (.int 200),dP c]with
   |f (.b (.bool R))=>f [dP c]
   |f (.b (.bool N'))=>f []
   |_=>V)=_
  refine J h5 ?_;cases (c.p.all λp=>s_ p.1 256)<;>rfl
 refine aI (mu:=[]) (np:=3) (more:=1) (ha:=l3) (as:=[.list [.dict (au K'),.dict (au g)],.b (.int 1),.b (.int 200)]) (M:=[.list [.dict (au K'),.dict (au g)],.b (.int 1),.b (.int 200),.any]) X (d8 ?_);show aD [] (.ret (.bR cA [3] .plain (jD (iB bw (.k (.str 0)) cJ)) (gO (aO cA aS)))) [.list [.dict (au K'),.dict (au g)],.b (.int 1),.b (.int 200),.any]=_;dsimp only[aD];exact J h4 X
end Mine.Internal
end
section
namespace Mine.Internal
noncomputable def Fp (n:G):e_:=m_ n.natAbs 1000000000
def Ho:aA->e_|[]=>R|x::r=>match Fp x with|R=>Ho r|N'=>N'
def cQ:aA->aA|[]=>[]|x::r=>match cQ r with|[]=>(match zg x with|R=>[]|N'=>[x])|y::s=>x::y::s
noncomputable def Yi:G->G->G|.ofNat m,.ofNat n=>M? m n|.ofNat m,.negSucc n=>.ofNat (g? (p_ m n))|.negSucc m,.ofNat n=>.negSucc (p_ m n)|.negSucc m,.negSucc n=>M? n m
def yl:aA->aA->aA|r,[]=>r|[],y::b=>I? y::yl [] b|x::r,y::b=>Yi x y::yl r b
def jG:a_->aA->aA->aA|0,r,b=>yl r b|n+1,[],b=>0::jG n [] b|n+1,x::r,b=>x::jG n r b
noncomputable def Jm (k:G):aA->aA|[]=>[]|x::r=>Int.mul x k::Jm k r
noncomputable def Pw:G->e_|.ofNat n=>f_ n 1|_=>N'
def Cq(p:aA)(k:G):af (aA):=match Ho p with|N'=>V|R=>match Pw k with|R=>f p|N'=>match zg k with|R=>V|N'=>match Fp k with|R=>f (Jm k p)|N'=>V
noncomputable def dM:aA->G->G|[],d=>d|x::r,O=>dM r x
def XG(first:G)(b:aA)(lb:a_):a_->aA->a_->a_->af (aA × a_)|0,O,O',O''=>V|m+1,D',fb,left=>match m_ lb D'.length with|N'=>(match zbd fb with|R=>f (D',left)|N'=>V)|R=>match left with|0=>V|left+1=>match zbd fb with|N'=>V|R=>match Cq D' first with|V=>V|f r1=>match Cq b (dM D' 0) with|V=>V|f b1=>XG first b lb m (cQ (jG (W_ D'.length lb) r1 b1)) (p_ (x? fb first.natAbs) (dM D' 0).natAbs) left
def Uu(a b:aA):af (aA):=match XG (dM b 0) b b.length 10 a 0 (p_ (W_ a.length b.length) 1) with|V=>V|f (D',left)=>match Fp (dM b 0) with|N'=>V|R=>match left with|0=>(match Ho D' with|R=>f D'|N'=>V)|_=>match Fp ((dM b 0)^left) with|N'=>V|R=>match Cq D' ((dM b 0)^left) with|V=>V|f r=>match Ho r with|R=>f r|N'=>V
def j2(n:G)(p:aA):aA:=match Pw n with|R=>p|N'=>p.map λx=>Int.fdiv x n
noncomputable def jm (n:a_):e_:=f_ (o? n 2) 0
def Cr:a_->aA->aA->G->G->G->af G|0,O,O',O'',O''',O''''=>V|m+1,a,b,sign,g,h=>match b with|[]=>f 0|[b0]=>(match a.length with|0=>V|1=>V|k+2=>match Fp b0&&(Fp h&&(Fp (h^k)&&(!(zg (h^k))&&Fp sign))) with|N'=>V|R=>match Int.fdiv (b0^(k+1)) (h^k) with|r=>match m_ r.natAbs 1000000000000000000 with|R=>f (Int.mul sign r)|N'=>V)|b=>match m_ b.length a.length with|N'=>V|R=>match W_ a.length b.length with|gap=>match (match jm a.length&&jm b.length with|R=>I? sign|N'=>sign) with|iz=>match Uu a b with|V=>V|f D'=>match h^gap with|hg=>match Fp g&&(Fp h&&Fp hg) with|N'=>V|R=>match Int.mul g hg with|n=>match Fp n&&!(zg n) with|N'=>V|R=>match dM b 0 with|g'=>match gap with|0=>Cr m b (j2 n D') iz g' h|k+1=>match Fp g'&&(Fp (h^k)&&!(zg (h^k))) with|N'=>V|R=>Cr m b (j2 n D') iz g' (Int.fdiv (g'^(k+1)) (h^k))
noncomputable def AA:aA->a_->a_|[],g=>g|x::r,g=>AA r (p? g x.natAbs)
noncomputable def Px:aA->e_|[]=>R|x::r=>match m_ x.natAbs 90000 with|R=>Px r|N'=>N'
def Py(p:aA):e_:=match Px p with|R=>f_ (AA p 0) 1|N'=>N'
noncomputable def SI (r:af G):af G:=match r with|V=>V|f r=>match m_ r.natAbs 1000000000000000000 with|R=>f r|N'=>V
def Lk(a b:aA):af G:=match Py a&&Py b with|N'=>V|R=>match s_ a.length b.length with|R=>SI (Cr 10 b a (match jm a.length&&jm b.length with|R=>-1|N'=>1) 1 1)|N'=>SI (Cr 10 a b 1 1 1)
end Mine.Internal
end
section
open PySem
namespace Mine.Internal
abbrev il(l:aA):PV:=.list (l.map M')
theorem i8(l:aA):(l.map M').length=l.length:=cw _
theorem ym(x:G):∀ l:aA,cQ (l++[x])=if x=0 then cQ l else l++[x]:=λw'=>by
 induction w' with
 |nil=>
  dsimp only[nil_append,cQ,fz];refine J (fz _) ?_;by_cases h:x=0
  .simp[h]
  .simp[h]
 |cons y l ih=>
  dsimp only[cons_append,cQ,ih];refine J ih ?_;by_cases h:x=0
  .simp -iota [h]
  .simp -iota only [ak h];(clear ih;cases l)<;>rfl
theorem XH(hl:l.length<=lim)(h:ml (il l) (M' (k-1))=f (M' v)):ax i6.tl.hd.test [il l,M' k]=f (.b (.bool (decide (0<k)&&decide (v=0)))):=by
 by_cases hk:0<k
 .have L:ax (.idx bw (.bin .sub aS bQ)) [il l,M' k]=f (M' v):=h;show(match (f (PV.b (.bool (decide (0<k)))):fm) with|f (.b (.bool R))=>ax (.cmp .eq (.idx bw (.bin .sub aS bQ)) bC) [il l,M' k]|f (.b (.bool N'))=>f (.b (.bool N'))|_=>V)=_;refine J (bP hk) ?_;refine J ju (J L ?_);rfl
 .show(match (f (PV.b (.bool (decide (0<k)))):fm) with|f (.b (.bool R))=>ax (.cmp .eq (.idx bw (.bin .sub aS bQ)) bC) [il l,M' k]|f (.b (.bool N'))=>f (.b (.bool N'))|_=>V)=_;refine J (bT hk) ?_;rfl
theorem Cs(hl:l.length<=lim)(k:a_):ml (il l) (M' (k:G))=(l[k]?).map M':=by show(if (l.map M').length<=lim then(l.map M')[k]? else .none)=_;exact J (ai (by rw[i8];exact hl)) (J mH X)
theorem AB(hl:l.length<=lim):∀(k σ:a_),k<=l.length->k<σ->∃ k':a_,k'<=k/\eY (ax i6.tl.hd.test) (aD [] i6.tl.hd.body) σ [il l,M' (k:G)]=f ([il l,M' (k':G)],.next)/\l.take k'=cQ (l.take k)
 |0,σ+1,O,O'=>⟨0,fB _,by dsimp only[eY];rfl,X⟩
 |k+1,σ+1,hk,hN=>by
  have hx:l[k]?=f l[k]:=lJ ‹_›;have hi:ml (il l) (M' (((k+1:a_):G)-1))=f (M' l[k]):=by exact J (show((k+1:a_):G)-1=(k:G) from by simp) (J (Cs hl _) (J hx X))
  have hT:=XH hl hi;rw[bP (show(0:G)<((k+1:a_):G) by simp),Bool.true_and]at hT;have htk:l.take (k+1)=l.take k++[l[k]]:=J List.take_add_one (J hx X);dsimp only[eY];refine J hT (J htk (J (ym _ _) ?_));by_cases h0:l[k]=0
  .refine J (bP h0) (J (ai h0) ?_);refine bY (AB hl k σ (by exact kD ‹_›) (by lia)) λk' Y L h3=>kz k' (by lia) ?_ h3;have hb:aD [] i6.tl.hd.body [il l,M' ((k+1:a_):G)]=f ([il l,M' (k:G)],.next):=by show f ([il l,M' (((k+1:a_):G)-1)],kQ.next)=_;exact J (show((k+1:a_):G)-1=(k:G) from by simp) X
   exact J hb L
  .refine(bT h0).symm▸?_;refine(ak h0).symm▸?_;exact kz (k+1) (fB _) X htk
theorem SJ(hl:l.length<=1000):B5.fn [il l]=f (il (cQ l)):=by
 have oA:l.length<=lim:=by dsimp only[lim];lia
 refine bY (AB oA l.length 100000 (fB _) (by lia)) λk' Y L h3=>?_;rw[List.take_length]at h3
 have s1:aD [] i6.hd [il l,.any]=f ([il l,M' (l.length:G)],.next):=by
  have:ax (.bi .len (bx bw)) [il l,.any]=f (M' (l.length:G)):=by show(if (l.map M').length<=lim then f (M' ((l.map M').length:G)) else .none)=_;exact J (ai (by rw[i8];exact oA)) (J (i8 _) X)
  exact aB this X
 have s2:aD [] i6.tl.hd [il l,M' (l.length:G)]=f ([il l,M' (k':G)],.next):=L;have hle:(cQ l).length<=lim:=by(refine dR h3 (J UN ?_));lia
 have s3:aD [] i6.tl.tl [il l,M' (k':G)]=f ([il l,M' (k':G)],.ret (il (cQ l))):=by
  have g1:ax (.gJ bw aS) [il l,M' (k':G)]=f (il (cQ l)):=by show Ad (il l) (M' (k':G))=_;((refine J (EX (by rw[i8];exact oA)) ?_);exact dR UQ (J h3 X))
  have g2:ax (.bi .list (bx (.gJ bw aS))) [il l,M' (k':G)]=f (il (cQ l)):=by have g3:ax (bx (.gJ bw aS)) [il l,M' (k':G)]=f (.tup [il (cQ l)]):=J bX (J g1 X);refine J jX (J g3 ?_);exact ai (by exact J (i8 _) hle)
  exact d8 (by(dsimp only[aD];exact J g2 X))
 exact aI (mu:=[]) (np:=1) (more:=1) (ha:=i6) (as:=[il l]) X ((ag s1).trans ((ag s2).trans s3))
theorem uA:∀ l:aA,(cQ l).length<=l.length:=λw'=>by induction w' with|nil=>exact fB _|cons x r IH=>have ih:=IH;dsimp only[cQ];cases h:cQ r with|nil=>(cases zg x with|true=>exact jP _|false=>exact zB (jP _))|cons y s=>exact zB (h▸ih)
theorem Ll:∀{l:aA} {x:G},x∈cQ l->x∈l:=by intro w';induction w' with|nil=>intro x h;dsimp only[cQ]at h;simp at h|cons y r ih=>intro x h;dsimp only[cQ]at h;revert h;cases hz:cQ r with|nil=>(cases zg y with|true=>exact λh=>g_ h fH|false=>intro h;exact J (az.mp h) aQ)|cons z s=>
   intro h;rcases aT.mp h with h|h
   .exact J h aQ
   .exact bg _ (ih (hz▸h))
noncomputable def gd:aA->aA->aA|[],b=>b|a,[]=>a|x::a,y::b=>(x+y)::gd a b
theorem yn:∀ a:aA,gd a []=a:=λw'=>by cases w' with|nil=>exact X|cons x a=>exact X
theorem ta:∀ a b:aA,(gd a b).length=max a.length b.length:=λw'=>by induction w' with|nil=>intro b;rfl|cons x a ih=>intro z1;cases z1 with|nil=>rfl|cons y b=>dsimp only[gd];simp[ih b]
theorem SK:∀(a b:aA) (i:a_),(gd a b)[i]?=if i<max a.length b.length then f (a.getD i 0+b.getD i 0) else .none:=λw'=>by
 induction w' with
 |nil=>
  intro b i;dsimp only[gd];refine J (Nat.zero_max _) ?_;by_cases h:i<b.length
  .refine J (ai h) ?_;simp[H?,lJ h]
  .refine J (ak h) ?_;simp at h ⊢;omega
 |cons x a ih=>
  intro z1
  cases z1 with
  |nil=>
   intro i;dsimp only[gd];refine J (Nat.max_zero _) ?_;by_cases h:i<(x::a).length
   .refine J (ai h) ?_;simp[H?,lJ h]
   .refine J (ak h) ?_;simp at h ⊢;omega
  |cons y b=>intro z2;cases z2 with|zero=>dsimp only[gd];simp|succ i=>
    dsimp only[gd];simp only[UJ,ih b i,fD];by_cases h:i<max a.length b.length
    .refine J (ai h) (J (ai (by lia)) ?_);rfl
    .exact J (ak h) (J (ak (by lia)) X)
theorem Hp(a b:aA):(y_ (max a.length b.length)).map (λi=>a.getD i 0+b.getD i 0)=gd a b:=by
 apply List.ext_getElem?;intro i;refine J mH (J (SK _ _ _) ?_);by_cases h:i<max a.length b.length
 .refine J (ai h) (J (Yz h) ?_);rfl
 ·(refine J (ak h) (J (LZ (by simp;lia)) ?_));rfl
theorem yo(h:l.length<=lim):tu .len [il l]=f (M' (l.length:G)):=by show(if (l.map M').length<=lim then f (M' ((l.map M').length:G)) else .none)=_;exact J (ai (by rw[i8];exact h)) (J (i8 _) X)
theorem Pz(B:a.length<=lim)(i:a_):ax (.ite (.cmp .lt cA (.bi .len (bx bw))) (.idx bw cA) bC) [il a,b,s,M' (i:G)]=f (M' (a.getD i 0)):=by
 have Y:ax (.cmp .lt cA (.bi .len (bx bw))) [il a,b,s,M' (i:G)]=f (.b (.bool (decide ((i:G)<(a.length:G))))):=by
  have:ax (.bi .len (bx bw)) [il a,b,s,M' (i:G)]=f (M' (a.length:G)):=yo B
  exact J ju (J this X)
 refine J pZ (J Y ?_);by_cases h:i<a.length
 .refine J (bP (by lia)) ?_;show ml (il a) (M' (i:G))=_;refine J (Cs B _) (J (lJ h) ?_);simp[H?,h]
 .refine J (bT (by lia)) ?_;show f (M' 0)=_;(rw[H?];refine J (LZ (by lia)) ?_);rfl
theorem Lm(hb:b.length<=lim)(B:a≠.any)(i:a_):ax (.ite (.cmp .lt cA (.bi .len (bx aS))) (.idx aS cA) bC) [a,il b,s,M' (i:G)]=f (M' (b.getD i 0)):=by
 have Y:ax (.cmp .lt cA (.bi .len (bx aS))) [a,il b,s,M' (i:G)]=f (.b (.bool (decide ((i:G)<(b.length:G))))):=by
  have:ax (.bi .len (bx aS)) [a,il b,s,M' (i:G)]=f (M' (b.length:G)):=yo hb
  exact J ju (J this X)
 refine J pZ (J Y ?_);by_cases h:i<b.length
 .refine J (bP (by lia)) ?_;show ml (il b) (M' (i:G))=_;refine J (Cs hb _) (J (lJ h) ?_);simp[H?,h]
 .refine J (bT (by lia)) ?_;show f (M' 0)=_;(rw[H?];refine J (LZ (by lia)) ?_);rfl
theorem XI(B:a.length<=1000)(hb:b.length<=1000):GH.fn [il a,il b]=f (il (cQ (gd a b))):=by
 have la:a.length<=lim:=by dsimp only[lim];lia
 have lb:b.length<=lim:=by dsimp only[lim];lia
 have s1:aD [] uf.hd [il a,il b,.any,.any]=f ([il a,il b,M' ((max a.length b.length:a_):G),.any],.next):=by
  have g1:ax (.bi .len (bx bw)) [il a,il b,.any,.any]=f (M' (a.length:G)):=yo la;have g2:ax (.bi .len (bx aS)) [il a,il b,.any,.any]=f (M' (b.length:G)):=yo lb;refine aB (iv:=M' ((max a.length b.length:a_):G)) ?_ X;have g3:ax (aO (.bi .len (bx bw)) (.bi .len (bx aS))) [il a,il b,.any,.any]=f (.tup [M' (a.length:G),M' (b.length:G)]):=by exact J bX (J g1 (J bX (J g2 X)))
  refine J jX (J g3 ?_);show f (M' (if (b.length:G)>(a.length:G) then(b.length:G) else(a.length:G)))=_;congr 3;split<;>lia
 have s2:aD [] uf.tl [il a,il b,M' ((max a.length b.length:a_):G),.any]=f ([il a,il b,M' ((max a.length b.length:a_):G),.any],.ret (il (cQ (gd a b)))):=by
  have g1:ax (.bq (.bin .add (.ite (.cmp .lt cA (.bi .len (bx bw))) (.idx bw cA) bC) (.ite (.cmp .lt cA (.bi .len (bx aS))) (.idx aS cA) bC)) [3] .range cJ) [il a,il b,M' ((max a.length b.length:a_):G),.any]=f (il (gd a b)):=by
   have hx:il (gd a b)=.list ((y_ (max a.length b.length)).map λ(i:a_)=>M' (a.getD i 0+b.getD i 0)):=by(dsimp only[il];refine dR (Hp _ _) (J fE ?_));rfl
   refine J hx (bH (iv:=M' ((max a.length b.length:a_):G)) (Xs:=(y_ (max a.length b.length)).map λ(i:a_)=>M' (i:G)) X ?_ ?_ (by simp;dsimp only[lim];lia))
   .show(if 0<=((max a.length b.length:a_):G)/\((max a.length b.length:a_):G)<=1000000 then f ((gY ((max a.length b.length:a_):G)).map PV.b) else .none)=_;refine J (ai ⟨by simp,by lia⟩) ?_;refine J fE (J (CG _) ?_);rfl
   .refine eP (w:=λ(i:a_)=>M' (a.getD i 0+b.getD i 0)) _ λi hi=>fA ?_;refine J mV (J (Pz la _) (J (Lm lb (by intro h;cases h) _) ?_));rfl
  have g2:ax (bx (.bq (.bin .add (.ite (.cmp .lt cA (.bi .len (bx bw))) (.idx bw cA) bC) (.ite (.cmp .lt cA (.bi .len (bx aS))) (.idx aS cA) bC)) [3] .range cJ)) [il a,il b,M' ((max a.length b.length:a_):G),.any]=f (.tup [il (gd a b)]):=J bX (J g1 X);refine d8 ?_;exact J Ah (J (ar X g2 (SJ (by rw[ta];lia))) X)
 exact aI (mu:=[]) (np:=2) (more:=2) (ha:=uf) (as:=[il a,il b]) X ((ag s1).trans s2)
theorem XJ(hl:l.length<=lim):GN.fn [il l]=f (il (l.map λx=>-x)):=by
 refine aI (mu:=[]) (np:=1) (more:=1) (ha:=B8) (as:=[il l]) (M:=[il l,.any]) X (d8 ?_)
 have:ax (.bq (.neg aS) [1] .plain bw) [il l,.any]=f (il (l.map λx=>-x)):=by refine bH (iv:=il l) (Xs:=l.map M') X X ?_ (by simp;exact hl);exact J fE (eP (w:=λx=>M' (-x)) l λx hx=>fA X)
 show aD [] (.ret (.bq (.neg aS) [1] .plain bw)) [il l,.any]=_;dsimp only[aD];exact J this X
theorem Hq(B:a.length<=1000)(hb:b.length<=1000):GP.fn [il a,il b]=f (il (cQ (gd a (b.map λx=>-x)))):=by
 refine aI (mu:=[]) (np:=2) (more:=0) (ha:=B9) (as:=[il a,il b]) (M:=[il a,il b]) X (d8 ?_);have g1:ax (sO (bx aS)) [il a,il b]=f (il (b.map λx=>-x)):=XJ (by dsimp only[lim];lia);have g2:ax (aO bw (sO (bx aS))) [il a,il b]=f (.tup [il a,il (b.map λx=>-x)]):=by exact J bX (J tU (J bX (J g1 X)))
 have g3:ax (v8 (aO bw (sO (bx aS)))) [il a,il b]=f (il (cQ (gd a (b.map λx=>-x)))):=by exact ar X g2 (XI B (by exact J (cw _) hb))
 show aD [] (.ret (v8 (aO bw (sO (bx aS))))) [il a,il b]=_;dsimp only[aD];exact J g3 X
theorem aaZ(B:ax a M=f A)(hb:ax b M=f ha)(U':ax c M=f sl)(hd:ax d M=f ρ):ax (Sa a b c d) M=f (.tup [A,ha,sl,ρ]):=by exact J bX (J B (J (nk hb U' hd) X))
theorem i9(hl:l.length<=lim)(h:ax i M=f (il l)):ax (.bi .len (bx i)) M=f (M' (l.length:G)):=by exact J jX (J (eW h) (yo hl))
theorem dz{a:G}{n:a_}(B:a.natAbs<2^63)(hn:n<=4096):cU .pow a (n:G)=f (a^n):=by exact ai ⟨B,hn⟩
theorem pN(h0:b≠0)(hb:b.natAbs<=1000000000):cU .fdiv a b=f (a.fdiv b):=by dsimp only[cU];exact J (ai ⟨h0,by lia⟩) X
theorem pO(hl:p.length<=lim)(h0:k≠0)(hk:k.natAbs<2^63)(hp:∀ x∈p,x.natAbs<2^63):xO.fn [il p,M' k]=f (il (p.map λx=>x*k)):=by
 have ht:ax (.cmp .ne aS bC) [il p,M' k,.any]=f (.b (.bool R)):=by refine J (cb (x:=k) (y:=0) X X) ?_;dsimp only[cmpInt];simp[h0]
 have g:ax (.bq (.bin .mul cJ aS) [2] .plain bw) [il p,M' k,.any]=f (il (p.map λx=>x*k)):=by refine bH (iv:=il p) (Xs:=p.map M') X X ?_ (by simp;exact hl);exact J fE (eP (w:=λx=>M' (x*k)) p λx hx=>fA (aP X X (cB (hp x hx) hk)))
 exact aI (mu:=[]) (np:=2) (more:=1) (ha:=sP) (as:=[il p,M' k]) (M:=[il p,M' k,.any]) X (gc ((lH ht).trans g))
theorem EZ{p:aA}{n:a_}(hp:p≠[])(hl:p.length<=1000)(hn:n<=1000):xQ.fn [il p,M' (n:G)]=f (il (k_ n 0++p)):=by
 have lp:p.length<=lim:=by dsimp only[lim];lia
 have ht:ax (.cmp .gt (.bi .len (bx bw)) bC) [il p,M' (n:G)]=f (.b (.bool R)):=by
  refine J (cb (i9 lp X) (y:=0) X) ?_
  have:0<p.length:=by cases p with|nil=>exact g_ X hp|cons _ _=>exact iD _
  dsimp only[cmpInt];exact J (bP (by lia)) X
 have g1:ax (.bin .mul (.lst (bx bC)) aS) [il p,M' (n:G)]=f (il (k_ n 0)):=by show(if 0<=(n:G)/\(n:G)<=1000000 then f (PV.list (k_ (n:G).toNat (.b (.int 0)))) else .none)=_;dsimp only[il];exact J (ai ⟨by simp,by lia⟩) (J (CG _) (J List.map_replicate X))
 have g2:ax (.bi .list (bx bw)) [il p,M' (n:G)]=f (il p):=by exact ai (by exact J (i8 _) lp)
 have g3:ax (.bin .add (.bin .mul (.lst (bx bC)) aS) (.bi .list (bx bw))) [il p,M' (n:G)]=f (il (k_ n 0++p)):=by refine J mV (J g1 (J g2 ?_));show(if ((k_ n (0:G)).map M').length<=lim/\(p.map M').length<=lim then f (PV.list ((k_ n (0:G)).map M'++p.map M')) else .none)=_;dsimp only[il];(exact J (ai ⟨by simp;dsimp only[lim];lia,by rw[i8];exact lp⟩) (J CU X))
 exact aI (mu:=[]) (np:=2) (more:=0) (ha:=sQ) (as:=[il p,M' (n:G)]) (M:=[il p,M' (n:G)]) X (gc ((lH ht).trans g3))
theorem PA:∀(l:aA) (d:G),dM l d=l.getLastD d:=λw'=>by induction w' with|nil=>intro d;exact X|cons x r ih=>intro d;refine J (ih x) ?_;(clear ih;cases r)<;>rfl
theorem E0(hl:l.length<=lim)(h:l≠[]):ml (il l) (M' (-1))=f (M' (dM l 0)):=by
 show(if (l.map M').length<=lim then(if 0<(l.map M').length then(l.map M')[(l.map M').length-1-0]? else .none) else .none)=_;have hp:0<l.length:=by cases l with|nil=>exact g_ X h|cons _ _=>exact iD _
 refine J (ai (by rw[i8];exact hl)) (J (ai (by rw[i8];exact hp)) (J (i8 _) (J mH (J (PA _ _) ?_))))
 have:l[l.length-1-0]?=f (l.getLastD 0):=by refine J (Nat.sub_zero _) (dR List.getLast?_eq_getElem? ?_);cases l with|nil=>exact g_ X h|cons x r=>rfl
 exact J this X
theorem Ct(hl:l.length<=lim)(h:l≠[]):B7.fn [il l]=f (M' (dM l 0)):=by
 have ht:ax (.cmp .gt (.bi .len (bx bw)) bC) [il l]=f (.b (.bool R)):=by
  refine J (cb (i9 hl X) (y:=0) X) ?_
  have:0<l.length:=by cases l with|nil=>exact g_ X h|cons _ _=>exact iD _
  dsimp only[cmpInt];exact J (bP (by lia)) X
 exact aI (mu:=[]) (np:=1) (more:=0) (ha:=v9) (as:=[il l]) (M:=[il l]) X (gc ((lH ht).trans (E0 hl h)))
theorem uB(hl:l.length<=lim):uh.fn [il l]=f (M' ((l.length:G)-1)):=by exact aI (mu:=[]) (np:=1) (more:=0) (ha:=qf) (as:=[il l]) (M:=[il l]) X (gc (aP (i9 hl X) (y:=1) X X))
theorem SM(hl:l.length<=lim)(h:l≠[]):f5.fn [il l]=f (.b .none):=by
 have ht:ax (.cmp .eq (.bi .len (bx bw)) bC) [il l]=f (.b (.bool N')):=by
  refine J (cb (i9 hl X) (y:=0) X) ?_
  have:0<l.length:=by cases l with|nil=>exact g_ X h|cons _ _=>exact iD _
  dsimp only[cmpInt];exact J (bT (by lia)) X
 have e:aD [] dm [il l]=f ([il l],.next):=by
  have:aD [] dm.hd [il l]=f ([il l],.next):=by
   show(match ax (.cmp .eq (.bi .len (bx bw)) bC) [il l]with
    |f (.b (.bool R))=>aD [] (.seq .raise .skip) [il l]
    |f (.b (.bool N'))=>aD [] .skip [il l]
    |_=>V)=_
   exact J ht X
  exact(ag (a:=dm.hd) this).trans X
 show prun [] 1 0 dm [il l]=_;dsimp only[prun];refine J (ai (show [il l].length=1 from X)) ?_
 show(match aD [] dm [il l]with
  |f (O,.ret iv)=>f iv
  |f (O,.next)=>f (PV.b .none)
  |_=>V)=_
 exact J e X
theorem l8(n:G):Fp n=R↔n.natAbs<=1000000000:=⟨λh=>iC h,λh=>CH.mpr h⟩
theorem yp:∀ l:aA,Ho l=R↔∀ x∈l,x.natAbs<=1000000000:=λw'=>by induction w' with|nil=>dsimp only[Ho];trivial|cons x l ih=>dsimp only[Ho];simp -iota only [aT,forall_eq_or_imp,<-ih,<-l8 x];cases Fp x<;>simp
set_option tactic.hygienic true in
theorem Hr(x y:G):Yi x y=x-y:=by
 cases x<;>cases y
 .rename_i m n
  show M? m n=_;exact J Yw X
 .rename_i m n
  show w_ (g? (p_ m n))=_
  have:p_ m n=m+n:=X
  refine J this ?_;simp only[Yv,AK];rfl
 .rename_i m n
  show B? (p_ m n)=_
  have:p_ m n=m+n:=X
  refine J this ?_;simp only[Yv,AK];lia
 .rename_i m n
  show M? n m=_;refine J Yw ?_;simp only[AK];lia
theorem yq:∀ r b:aA,yl r b=gd r (b.map λx=>-x)|r,[]=>by(dsimp only[yl];simp[yn])|[],y::b=>by dsimp only[yl];refine J (yq [] b) ?_;dsimp only[gd];refine J bW ?_;rfl|x::r,y::b=>by dsimp only[yl];refine J (Hr _ _) (J (yq r b) ?_);dsimp only[v_,gd,Int.sub_eq_add_neg];rfl
theorem AD:∀(n:a_) (r b:aA),jG n r b=gd r ((k_ n 0++b).map λx=>-x):=λw'=>by induction w' with|zero=>intro r b;(dsimp only[jG];refine J (yq _ _) ?_);rfl|succ n ih=>intro z1;cases z1 with|nil=>intro b;dsimp only[jG];refine J (ih [] b) ?_;dsimp only[gd];rfl|cons x r=>intro b;dsimp only[jG];refine J (ih r b) ?_;dsimp only[replicate_succ,gd];simp[HR];dsimp only[replicate_succ,gd];simp[HR]
theorem PC(k:G):∀ p:aA,Jm k p=p.map λx=>x*k:=λw'=>by induction w' with|nil=>exact X|cons x p ih=>(dsimp only[Jm];refine J ih ?_);rfl
theorem E5(k:G):Pw k=R↔k=1:=by
 cases k with
 |ofNat n=>
  show f_ n 1=R↔_;constructor
  .intro h;exact J (wj h) X
  .intro h;have:n=1:=vz (show w_ n=w_ 1 from h);exact J this X
 |negSucc n=>(dsimp only[Pw];simp)
theorem qo(h:Cq p k=f q):q=p.map (λx=>x*k)/\k≠0/\k.natAbs<=1000000000/\∀ x∈p,x.natAbs<=1000000000:=by
 revert h;refine gg nS λB h=>?_;rw[yp]at B;revert h;refine Tx (λY h=>?_) λO h=>?_
 .obtain rfl:=aw h;rw[E5]at Y;subst Y;exact qI (by simp) (by decide) (by decide) B
 .revert h;refine zL nS λh0 h=>?_;rw[fz,uK]at h0;revert h;refine cx (λhk h=>?_);obtain rfl:=aw h;rw[l8]at hk;exact qI (PC k p) h0 hk B
theorem Hs:∀{a b:aA},(∀ x∈a,x.natAbs<=A)->(∀ y∈b,y.natAbs<=ha)->∀ z∈gd a b,z.natAbs<=A+ha:=by intro w';induction w' with|nil=>intro b O hb z hz;exact aR (hb z hz) (rS _ _)|cons x a ih=>intro z1;cases z1 with|nil=>intro B O z hz;exact aR (B z hz) (Nat.le_add_right _ _)|cons y b=>
   intro B hb z hz;dsimp only[gd]at hz;rw[aT]at hz;rcases hz with eE|hz
   .subst eE;exact nab (B x aQ) (hb y aQ)
   .exact ih (λx hx=>B x (bg _ hx)) (λy hy=>hb y (bg _ hy)) z hz
abbrev PB:CS:=fh.tl.tl.tl.hd.body
abbrev PT:CE:=fh.tl.tl.tl.hd.test
abbrev Fq(a b:aA)(m:G)(r K':aA)(k g:G)(u v:PV):aC:=[il a,il b,M' m,.any,il r,il K',M' k,M' g,u,v]
theorem Jn{a b:aA}{first mn:G}(Bv:b≠[])(IV:b.length<=1000):∀(m:a_) (D':aA) (fb left:a_) (w6:aA) (vl:a_) (found:aA) (n8 p9:PV) (σ:a_),XG first b b.length m D' fb left=f (w6,vl)->(∀ x∈found,x.natAbs<=fb)->found.length<=1000->D'.length<=1000->m<=σ ->
  ∃ Ht n8' p9',eY (ax PT) (aD [] PB) σ (Fq a b mn D' found (left:G) first n8 p9)=f ((Fq a b mn w6 Ht (vl:G) first n8' p9'),.next)/\(∀ x∈Ht,x.natAbs<=1000000000)/\Ht.length<=1000/\w6.length<=D'.length/\vl<=left:=by
 intro w';induction w' with|zero=>intro D' fb left w6 vl found n8 p9 σ h O O O O;exact nS h|succ m ih=>intro D' fb left w6 vl found n8 p9 z9;cases z9 with|zero=>intro h O O O hN;lia|succ σ=>
   intro h hf hfl Yg hN;have lb:b.length<=lim:=by dsimp only[lim];lia
   have lr:D'.length<=lim:=by dsimp only[lim];lia
   have hbp:0<b.length:=by cases b with|nil=>exact g_ X Bv|cons _ _=>exact iD _
   have hT:ax PT (Fq a b mn D' found (left:G) first n8 p9)=f (.b (.bool (decide ((b.length:G)<=(D'.length:G))))):=
    cb (o:=.ge) (i9 lr X) (i9 lb X)
   dsimp only[eY];refine J hT ?_;dsimp only[XG]at h;rw[Cp]at h;by_cases hle:b.length<=D'.length
   .rw[bP hle]at h;refine J (bP (by omega)) ?_;dsimp only at h;rcases left with _|kB;exact nS h;refine ia λGq zq=>?_;revert h;refine gg nS λYj h=>?_;have Yj:fb<=1000000000:=iC Yj;revert h;refine r9 nS λr1 Yk h=>?_;refine jh (qo Yk) λaL f0 f1 hra=>?_;subst aL;revert h;refine r9 nS λb1 hb1 h=>?_;refine jh (qo hb1) λaL n0 n1 hba=>?_;subst aL;refine zq ?_;clear zq;have hrn:D'≠[]:=by intro iA;clear Yg lr hT hra Yk n0 n1 hb1 h;subst iA;rw[uL]at hle;lia
    generalize aet:dM D' 0=num at *;have hp:W_ D'.length b.length=D'.length-b.length:=X;rw[hp]at h
    have g0:aD [] PB.hd (Fq a b mn D' found ((kB+1:a_):G) first n8 p9)=f ((Fq a b mn D' found ((kB+1:a_):G) first (M' num) (M' ((D'.length-b.length:a_):G))),.next):=by
     have e1:ax (.idx jf (.neg bQ)) (Fq a b mn D' found ((kB+1:a_):G) first n8 p9)=f (M' num):=aet▸E0 lr hrn;have e2:ax (.bin .sub (.bi .len (bx jf)) (.bi .len (bx aS))) (Fq a b mn D' found ((kB+1:a_):G) first n8 p9)=f (M' ((D'.length-b.length:a_):G)):=by refine J (aP (i9 lr X) (i9 lb X) (z:=((D'.length:G)-(b.length:G))) X) ?_;congr 3;grind
     refine J ej (J eZ (J (bE e1 e2) ?_));rfl
    have lf:found.length<=lim:=by dsimp only[lim];lia
    have z1:∀ M:aC,bf M 5=il found->bf M 7=M' first->ax (iw (aO kb rQ)) M=f (il (found.map λx=>x*first)):=λM h5 h7=>
     ar X (bE (by(dsimp only[ax];exact J h5 X)) (by(dsimp only[ax];exact J h7 X))) (pO lf f0 (by lia) λx hx=>by have:=hf x hx;lia)
    have g1:aD [] PB.tl.hd (Fq a b mn D' found ((kB+1:a_):G) first (M' num) (M' ((D'.length-b.length:a_):G)))=f ((Fq a b mn D' (cQ (gd (found.map λx=>x*first) ((k_ (D'.length-b.length) 0++[-num]).map λx=>-x))) ((kB+1:a_):G) first (M' num) (M' ((D'.length-b.length:a_):G))),.next):=by refine aB ?_ X;refine ar X (bE (z1 _ X X) (ar X (bE (A:=il [-num]) (ha:=M' ((D'.length-b.length:a_):G)) X X) (EZ (by simp) (by exact iD _) (by grind)))) (Hq (by exact J (cw _) hfl) (by simp;lia))
    generalize IG:cQ (gd (found.map λx=>x*first) ((k_ (D'.length-b.length) 0++[-num]).map λx=>-x))=og at g1
    have aeu:∀ x∈og,x.natAbs<=fb*first.natAbs+num.natAbs:=λx hx=>by
     rw[<-IG]at hx;refine Hs (λy hy=>?_) (λy hy=>?_) x (Ll hx)
     .refine ah (eR.mp hy) λw hw fJ=>?_;clear hy;subst fJ;exact J (Jy _ _) (zA _ (hf w hw))
     .refine ah (eR.mp hy) λw hw fJ=>?_;clear hy;subst fJ;rcases fG.mp hw with hw|hw
      .refine J ((List.mem_replicate.mp hw).2) ?_;exact jP _
      .refine J (az.mp hw) ?_;simp
    have aev:og.length<=1000:=by refine dR IG (aR (uA _) (J (ta _ _) ?_));simp;lia
    have g2:aD [] PB.tl.tl.hd (Fq a b mn D' og ((kB+1:a_):G) first (M' num) (M' ((D'.length-b.length:a_):G)))=f ((Fq a b mn (cQ (jG (D'.length-b.length) (D'.map λx=>x*first) (b.map λx=>x*num))) og ((kB+1:a_):G) first (M' num) (M' ((D'.length-b.length:a_):G))),.next):=by refine aB ?_ X;refine J (AD _ _ _) (ar X (bE (ar X (bE (A:=il D') (ha:=M' first) X X) (pO lr f0 (by lia) λx hx=>by have:=hra x hx;lia)) (ar X (bE (ar X (bE (A:=il b) (ha:=M' num) X X) (pO lb n0 (by lia) λx hx=>by have:=hba x hx;omega)) (ha:=M' ((D'.length-b.length:a_):G)) X) (EZ (by simp[Bv]) (by exact J (cw _) IV) (by grind)))) (Hq (by exact J (cw _) Yg) (by simp;grind)))
    have g3:aD [] PB.tl.tl.tl.hd (Fq a b mn (cQ (jG (D'.length-b.length) (D'.map λx=>x*first) (b.map λx=>x*num))) og ((kB+1:a_):G) first (M' num) (M' ((D'.length-b.length:a_):G)))=f ((Fq a b mn (cQ (jG (D'.length-b.length) (D'.map λx=>x*first) (b.map λx=>x*num))) og (kB:G) first (M' num) (M' ((D'.length-b.length:a_):G))),.next):=by show f ((Fq a b mn (cQ (jG (D'.length-b.length) (D'.map λx=>x*first) (b.map λx=>x*num))) og (((kB+1:a_):G)-1) first (M' num) (M' ((D'.length-b.length:a_):G))),kQ.next)=_;exact J (show((kB+1:a_):G)-1=(kB:G) by simp) X
    have body:=(ag (a:=PB.hd) g0).trans ((ag (a:=PB.tl.hd) g1).trans ((ag (a:=PB.tl.tl.hd) g2).trans ((ag (a:=PB.tl.tl.tl.hd) (b:=.skip) g3).trans X)));have aa0:aD [] PB (Fq a b mn D' found ((kB+1:a_):G) first n8 p9)=f ((Fq a b mn (cQ (jG (D'.length-b.length) (D'.map λx=>x*first) (b.map λx=>x*num))) og (kB:G) first (M' num) (M' ((D'.length-b.length:a_):G))),.next):=body;have hlr:(cQ (jG (D'.length-b.length) (D'.map λx=>x*first) (b.map λx=>x*num))).length<=D'.length:=by refine aR (uA _) ?_;rw[AD,ta];simp;lia
    refine H8 (ih _ _ kB w6 vl og (M' num) (M' ((D'.length-b.length:a_):G)) σ h aeu aev (by exact aR ‹_› ‹_›) (by lia)) λfo' n8' p9' k1 k2 k3 k4 k5=>Mx fo' n8' p9' ?_ k2 k3 (by exact aR ‹_› ‹_›) (by lia);exact J aa0 k1
   .rw[bT hle]at h;rw[bT (by omega)];dsimp only at h;revert h;refine cx (λYj h=>?_);have Yj:fb<=1000000000:=iC Yj;refine gI h ?_;exact Mx found n8 p9 X (λx hx=>aR (hf x hx) Yj) hfl (fB _) (fB _)
theorem Ln(h:XG first b b.length m D' fb left=f r)(hle:b.length<=D'.length):first≠0/\first.natAbs<=1000000000:=by cases m with|zero=>exact nS h|succ m=>dsimp only[XG]at h;rw[Cp]at h;rw[bP hle]at h;dsimp only at h;revert h;refine Qy nS λO br h=>?_;subst br;revert h;refine gg nS λO h=>?_;revert h;refine r9 nS λr1 Yk h=>?_;refine jh (qo Yk) λO f0 f1 O=>?_;exact⟨f0,f1⟩
theorem PD{a b D' r:aA}(Bv:b≠[])(hle:b.length<=a.length)(Fm:a.length<=900)(h:XG (dM b 0) b b.length 10 a 0 (p_ (W_ a.length b.length) 1)=f (D',left))(Yl:(dM b 0)^left≠0) (hk:((dM b 0)^left).natAbs<=1000000000) (hr:∀ x∈D',x.natAbs<=1000000000):∃ q,xS.fn [il a,il b]=f (.tup [il q,il (D'.map λx=>x*(dM b 0)^left),M' ((a.length:G)-(b.length:G)+1)]):=by
 refine To λGq kq=>?_;have la:a.length<=lim:=by dsimp only[lim];lia
 have lb:b.length<=lim:=by exact aR ‹_› ‹_›
 refine cC (Ln h hle) λf0 f1=>?_;generalize XK:dM b 0=first at *
 generalize hmn:(a.length:G)-(b.length:G)+1=mn at *;refine H8 (Jn (a:=a) (mn:=mn) Bv (by clear kq;lia) 10 a 0 _ D' left [] .any .any 100000 h (λO q=>g_ q fH) (by exact jP _) (by clear kq;lia) (by exact rS _ _)) λfo n8 p9 k1 k2 k3 k4 k5=>?_;have aa1:((p_ (W_ a.length b.length) 1:a_):G)=mn:=by show((a.length-b.length+1:a_):G)=mn;grind
 have hl4:left<=4096:=by
  have:p_ (W_ a.length b.length) 1=a.length-b.length+1:=X
  grind
 rw[aa1]at k1
 have s1:aD [] fh.hd ([il a,il b]++bz 8)=f ([il a,il b]++bz 8,.next):=by
  show aD [] (.expr (oz (bx aS))) _=_;dsimp only[aD];refine J ye ?_
  show(match f5.fn [il b]with
   |f O=>f (([il a,il b]++bz 8:aC),kQ.next)
   |V=>V)=_
  exact J (SM lb Bv) X
 have s2:aD [] fh.tl.hd ([il a,il b]++bz 8)=f ([il a,il b,M' mn]++bz 7,.next):=by
  refine aB (iv:=M' mn) ?_ X;have g:ax (.bin .add (.bin .sub (.bi .len (bx bw)) (.bi .len (bx aS))) bQ) ([il a,il b]++bz 8)=f (M' mn):=by exact J (aP (aP (i9 la X) (i9 lb X) (z:=(a.length:G)-(b.length:G)) X) (y:=1) X (z:=(a.length:G)-(b.length:G)+1) X) (J hmn X)
  refine J jX (J (bE (a:=.k (.int 0)) (A:=M' 0) X g) ?_);show f (M' (if mn>0 then mn else 0))=_;exact J (ai (by omega)) X
 have s3:aD [] fh.tl.tl.hd ([il a,il b,M' mn]++bz 7)=f ([il a,il b,M' mn,.any,il a,il [],M' mn,M' first,.any,.any],.next):=by
  have g1:ax (.bi .list (bx bw)) ([il a,il b,M' mn]++bz 7)=f (il a):=by exact ai (by exact J (i8 _) la)
  have g2:ax (ng (bx aS)) ([il a,il b,M' mn]++bz 7)=f (M' first):=by exact dR XK (ar X (eW (A:=il b) X) (Ct lb Bv))
  refine J ej (J eZ (J (aaZ g1 (b:=.lst .nil) (ha:=il []) X (c:=.var 2) (sl:=M' mn) X g2) ?_));rfl
 have s4:aD [] fh.tl.tl.tl.hd [il a,il b,M' mn,.any,il a,il [],M' mn,M' first,.any,.any]=f ([il a,il b,M' mn,.any,il D',il fo,M' (left:G),M' first,n8,p9],.next):=k1
 have s5:aD [] fh.tl.tl.tl.tl.hd [il a,il b,M' mn,.any,il D',il fo,M' (left:G),M' first,n8,p9]=f ([il a,il b,M' mn,M' (first^left),il D',il fo,M' (left:G),M' first,n8,p9],.next):=
  aB (aP (x:=first) (y:=(left:G)) X X (dz (by clear kq;lia) hl4)) X
 have s6:aD [] fh.tl.tl.tl.tl.tl [il a,il b,M' mn,M' (first^left),il D',il fo,M' (left:G),M' first,n8,p9]=f ([il a,il b,M' mn,M' (first^left),il D',il fo,M' (left:G),M' first,n8,p9],.ret (.tup [il (fo.map λx=>x*first^left),il (D'.map λx=>x*first^left),M' mn])):=by
  refine gc ?_
  have g1:ax (iw (aO kb cA)) [il a,il b,M' mn,M' (first^left),il D',il fo,M' (left:G),M' first,n8,p9]=f (il (fo.map λx=>x*first^left)):=
   ar X (bE (A:=il fo) (ha:=M' (first^left)) X X) (pO (by dsimp only[lim];lia) Yl (by clear kq;lia) λx hx=>by have:=k2 x hx;lia)
  have g2:ax (iw (aO jf cA)) [il a,il b,M' mn,M' (first^left),il D',il fo,M' (left:G),M' first,n8,p9]=f (il (D'.map λx=>x*first^left)):=
   ar X (bE (A:=il D') (ha:=M' (first^left)) X X) (pO (by exact aR ‹_› ‹_›) Yl (by omega) λx hx=>by have:=hr x hx;omega)
  refine J eZ (J (nk g1 g2 (c:=.var 2) (sl:=M' mn) X) ?_);rfl
 exact kq _ (aI (mu:=[]) (np:=2) (more:=8) (ha:=fh) (as:=[il a,il b]) X ((ag s1).trans ((ag s2).trans ((ag s3).trans ((ag s4).trans ((ag s5).trans s6))))))
theorem XM(Bv:b≠[])(hle:b.length<=a.length)(Fm:a.length<=900)(h:Uu a b=f r):l5.fn [il a,il b]=f (il r)/\r.length<=a.length:=by
 have la:a.length<=lim:=by dsimp only[lim];lia
 have lb:b.length<=lim:=by exact aR ‹_› ‹_›
 revert h;refine Qz nS λD' left hi h=>?_;have hlen:D'.length<=a.length:=by exact H8 (Jn (a:=a) (mn:=0) Bv (by omega) 10 a 0 _ D' left [] .any .any 100000 hi (λO q=>g_ q fH) (by exact jP _) (by omega) (by exact rS _ _)) λfo n8 p9 k1 k2 k3 k4 k5=>k4
 revert h;refine gg nS λhi1 h=>?_;rw[l8]at hi1
 have main:∀ k:G,(dM b 0)^left=k->k≠0->k.natAbs<=1000000000->(∀ x∈D',x.natAbs<=1000000000)->r=D'.map (λx=>x*k)->(∀ x∈r,x.natAbs<=1000000000)->l5.fn [il a,il b]=f (il r)/\r.length<=a.length:=by
  rintro k rfl Yl hk hr hrk hrb;obtain⟨q,hq⟩:=PD (r:=r) Bv hle Fm hi Yl hk hr;rw[<-hrk]at hq;have Yg:r.length<=a.length:=J hrk (J (cw _) hlen);refine⟨?_,Yg⟩;generalize hmn:(a.length:G)-(b.length:G)+1=mn at hq
  have s1:aD [] f7.hd ([il a,il b]++bz 5)=f ([il a,il b,.any,il q,il r,M' mn,.any],.next):=by
   have g:ax (uk (aO bw aS)) ([il a,il b]++bz 5)=f (.tup [il q,il r,M' mn]):=
    ar X (bE (A:=il a) (ha:=il b) X X) hq
   show aD [] (.bj [3,4,5] (uk (aO bw aS))) _=_;dsimp only[aD];refine J g ?_;rfl
  have s2:aD [] f7.tl.hd [il a,il b,.any,il q,il r,M' mn,.any]=f ([il a,il b,M' 0,il q,il r,M' mn,.any],.next):=by refine aB (iv:=M' 0) ?_ X;refine J (aP (aP (aP (ar X (eW (A:=il a) X) (uB la)) (ar X (eW (A:=il b) X) (uB lb)) (z:=(a.length:G)-1-((b.length:G)-1)) X) (y:=1) X (z:=(a.length:G)-1-((b.length:G)-1)+1) X) (y:=mn) X (z:=(a.length:G)-1-((b.length:G)-1)+1-mn) X) ?_;congr 3;simp -iota at *;omega
  have s3:aD [] f7.tl.tl [il a,il b,M' 0,il q,il r,M' mn,.any]=f ([il a,il b,M' 0,il q,il r,M' mn,.any],.ret (il r)):=by
   refine gc (bH (iv:=il r) (Xs:=r.map M') X X ?_ (by simp;exact aR ‹_› ‹_›));refine eP (w:=M') r λx hx=>fA ?_;have e1:ax (ng (bx aS)) (bM [il a,il b,M' 0,il q,il r,M' mn,.any] 6 (M' x))=f (M' (dM b 0)):=ar X (eW (A:=il b) X) (Ct lb Bv)
   have e2:ax (.bin .pow (ng (bx aS)) cJ) (bM [il a,il b,M' 0,il q,il r,M' mn,.any] 6 (M' x))=f (M' 1):=
    aP e1 (y:=((0:a_):G)) X (by exact J (dz (by omega) (by exact rS _ _)) (J (Int.pow_zero _) X))
   exact J (aP (x:=x) X e2 (cB (by have:=hrb x hx;omega) (by decide))) (J (Ql _) X)
  exact aI (mu:=[]) (np:=2) (more:=5) (ha:=f7) (as:=[il a,il b]) X ((ag s1).trans ((ag s2).trans s3))
 revert h;refine Zi (λbr h=>?_) λh=>?_;clear hi;subst br;rotate_left;rotate_left
 .revert h;refine cx (λhr h=>?_);obtain rfl:=aw h;rw[yp]at hr;exact main 1 (by simp) (by decide) (by decide) hr (by simp) hr
 .revert h;refine gg nS λhp h=>?_;rw[l8]at hp;revert h;refine r9 nS λr1 Yk h=>?_;revert h;refine cx (λhr2 h=>?_);obtain rfl:=aw h;rw[yp]at hr2;exact jh (qo Yk) λe1 e2 e3 e4=>main _ X e2 hp e4 e1 hr2
theorem uC(hl:p.length<=lim)(h0:n≠0)(hn:n.natAbs<=1000000000):uo.fn [il p,M' n]=f (il (p.map λx=>x.fdiv n)):=by
 have g:ax (.bq (.bin .fdiv cJ aS) [2] .plain bw) [il p,M' n,.any]=f (il (p.map λx=>x.fdiv n)):=by refine bH (iv:=il p) (Xs:=p.map M') X X ?_ (by simp;exact hl);exact J fE (eP (K':=M') (w:=λx=>M' (x.fdiv n)) p λx hx=>fA (aP (x:=x) (y:=n) X X (pN h0 hn)))
 exact aI (mu:=[]) (np:=2) (more:=1) (ha:=qg) (as:=[il p,M' n]) (M:=[il p,M' n,.any]) X (gc g)
theorem E6(n:G)(p:aA):j2 n p=p.map λx=>x.fdiv n:=by dsimp only[j2];cases h:Pw n with|true=>refine J ((E5 n).mp h) ?_;simp|false=>rfl
theorem tc{n:a_}(h:ax e M=f (M' ((n:G)-1)))(hn:0<n):ax (.cmp .eq (.bin .mod e nx) bQ) M=f (.b (.bool (jm n))):=by
 refine J (cb (aP h (y:=2) X (z:=((n:G)-1).fmod 2) X) (y:=1) X) ?_;dsimp only[cmpInt];congr 3;dsimp only[jm]
 have:o? n 2=n%2:=X
 refine J this (J (Qk _ (by decide)) ?_);by_cases L:n%2=0
 .exact J L (J (bP (by lia)) X)
 .exact J (show n%2=1 by lia) (J (bT (by lia)) X)
abbrev Fs:CS:=cI.tl.hd.body
abbrev RRT:CE:=cI.tl.hd.test
abbrev PE:CS:=cI.tl.tl
theorem ja(hl:l.length<=lim)(h:ax (.var i) M=f (il l)):ax (ba (bx (.var i))) M=f (M' ((l.length:G)-1)):=ar X (eW h) (uB hl)
abbrev RS(a b:aA)(s:G)(x:PV)(g h:G)(u v:PV):aC:=[il a,il b,M' s,x,M' g,M' h,u,v]
theorem XN{x:aA}{F:af G}{j':G->af G}{K:aA->af G}{r:G}{Y':Prop}:(x=[]->F=f r->Y')->(∀ a,x=[a]->j' a=f r->Y')->(2<=x.length->K x=f r->Y')->(match x with|[]=>F|[a]=>j' a|x=>K x)=f r->Y':=by
 intro k l m;rcases x with _|⟨a,_|⟨b,x⟩⟩
 .exact k X
 .exact l a X
 .exact m (rS 2 _)
theorem XQ{x:a_}{K:a_->af G}{r:G}{Y':Prop}:(∀ k,x=k+2->K k=f r->Y')->(match x with|0=>V|1=>V|k+2=>K k)=f r->Y':=by
 intro k;rcases x with _|_|n
 .exact λh=>nomatch h
 .exact λh=>nomatch h
 .exact k n X
set_option tactic.hygienic true in
theorem XR:∀(m:a_) (a b:aA) (sign g h r:G) (x6 x7:PV) (σ:a_),Cr m a b sign g h=f r->a.length<=900->b.length<=900->m<=σ->∃ vs1 vs2,eY (ax RRT) (aD [] Fs) σ (RS a b sign .any g h x6 x7)=f (vs1,.next)/\aD [] PE vs1=f (vs2,.ret (M' r)):=λw'=>by induction w' with|zero=>intro a b sign g h r x6 x7 σ e O O O;exact nS e|succ m ih=>intro a b sign g h r x6 x7 z9;cases z9 with|zero=>intro e O O hN;lia|succ σ=>
   intro e Fm IV hN;have la:a.length<=lim:=by dsimp only[lim];lia
   have lb:b.length<=lim:=by dsimp only[lim];lia
   have hT:ax RRT (RS a b sign .any g h x6 x7)=f (.b (.bool (decide ((0:G)<(b.length:G)-1)))):=
    cb (o:=.gt) (ja lb X) (y:=0) X
   dsimp only[eY];refine J hT ?_;dsimp only[Cr]at e;revert e;refine XN (λhb e=>?_) (λb0 hb=>XQ λk hk e=>?_) (λsA e=>?_)
   .clear IV lb hT;subst hb;obtain rfl:=aw e;refine uU _ ((RS a [] sign .any g h x6 x7)) X ?_;show aD [] (.seq PE.hd PE.tl) _=_;refine d8 ?_;refine J (cq (g:=R) X) ?_;rfl
   .clear IV lb hT;subst hb;refine ia λGq zq=>?_;revert e;refine gg nS λU' e=>?_;simp only[jb,rR,l8,fz,uK]at U';obtain⟨c1,c2,c3,c4,c5⟩:=U';revert e;refine cx (λhr e=>?_);have hr:((b0^(k+1)).fdiv (h^k)).natAbs<=1000000000000000000:=iC hr;obtain rfl:=aw e;refine zq ?_;clear zq;refine uU ((RS a [b0] sign .any g h x6 x7)) ((RS a [b0] sign (M' ((a.length:G)-1)) g h x6 x7)) X ?_;have s1:aD [] PE.hd (RS a [b0] sign .any g h x6 x7)=f ((RS a [b0] sign .any g h x6 x7),.next):=by refine J (cq (g:=N') X) ?_;rfl
    have s2:aD [] PE.tl.hd (RS a [b0] sign .any g h x6 x7)=f ((RS a [b0] sign (M' ((a.length:G)-1)) g h x6 x7),.next):=aB (ja la X) X
    have s3:aD [] PE.tl.tl (RS a [b0] sign (M' ((a.length:G)-1)) g h x6 x7)=f ((RS a [b0] sign (M' ((a.length:G)-1)) g h x6 x7),.ret (M' (Int.mul sign ((b0^(k+1)).fdiv (h^k))))):=by
     refine gc (J (by lia:(a.length:G)-1=((k+1:a_):G)) ?_);have p1:ax (.cmp .gt cA bC) (RS a [b0] sign (M' ((k+1:a_):G)) g h x6 x7)=f (.b (.bool R)):=by refine J (cb (x:=((k+1:a_):G)) X (y:=0) X) ?_;dsimp only[cmpInt];exact J (bP (by simp)) X
     have p2:ax (.bin .pow (.idx aS bC) cA) (RS a [b0] sign (M' ((k+1:a_):G)) g h x6 x7)=f (M' (b0^(k+1))):=
      aP (x:=b0) X (y:=((k+1:a_):G)) X (dz (by lia) (by lia))
     have p3:ax (.bin .sub cA bQ) (RS a [b0] sign (M' ((k+1:a_):G)) g h x6 x7)=f (M' (k:G)):=by refine J (aP (x:=((k+1:a_):G)) X (y:=1) X (z:=((k+1:a_):G)-1) X) ?_;congr 3;simp
     have p4:ax (.bin .pow kb (.bin .sub cA bQ)) (RS a [b0] sign (M' ((k+1:a_):G)) g h x6 x7)=f (M' (h^k)):=
      aP (x:=h) X p3 (dz (by lia) (by lia))
     have p5:ax (.bin .fdiv (.bin .pow (.idx aS bC) cA) (.bin .pow kb (.bin .sub cA bQ))) (RS a [b0] sign (M' ((k+1:a_):G)) g h x6 x7)=f (M' ((b0^(k+1)).fdiv (h^k))):=
      aP p2 p4 (pN c4 c3)
     exact aP (x:=sign) X ((lH p1).trans p5) (cB (by lia) (by omega))
    exact(ag (a:=PE.hd) (b:=PE.tl) s1).trans ((ag (a:=PE.tl.hd) (b:=PE.tl.tl) s2).trans s3)
   .have Bv:b≠[]:=by intro q;rw[q]at sA;simp at sA
    revert e;refine gg nS λhle e=>?_;have hle:b.length<=a.length:=iC hle;refine J (bP (by omega)) ?_;revert e;refine r9 nS λD' aa2 e=>?_;obtain⟨y1,y2⟩:=XM Bv hle Fm aa2;revert e;refine gg nS λU' e=>?_;simp only[jb,l8]at U';obtain⟨c1,c2,c3⟩:=U';revert e;refine gg nS λhd e=>?_;simp only[jb,rR,l8,fz,uK]at hd;obtain⟨d1,d2⟩:=hd;have aex:W_ a.length b.length=a.length-b.length:=X;rw[aex]at e c3 d1 d2;have aa3:Int.mul g (h^(a.length-b.length))=g*h^(a.length-b.length):=X;rw[aa3]at e d1 d2;generalize LR:(match jm a.length&&jm b.length with|R=>I? sign|N'=>sign)=iz at e;generalize hgp:a.length-b.length=gap at *;have b1:aD [] Fs.hd (RS a b sign .any g h x6 x7)=f ((RS a b sign .any g h (M' (gap:G)) x7),.next):=by refine aB (iv:=M' (gap:G)) ?_ X;refine J (aP (ja la X) (ja lb X) (z:=(a.length:G)-1-((b.length:G)-1)) X) ?_;congr 3;simp -iota at *;omega
    have b2:aD [] Fs.tl.hd (RS a b sign .any g h (M' (gap:G)) x7)=f ((RS a b iz .any g h (M' (gap:G)) x7),.next):=by
     have t:ax (.and (.cmp .eq (.bin .mod (ba (bx bw)) nx) bQ) (.cmp .eq (.bin .mod (ba (bx aS)) nx) bQ)) (RS a b sign .any g h (M' (gap:G)) x7)=f (.b (.bool (jm a.length&&jm b.length))):=
      Ck (tc (ja la X) (by omega)) (tc (ja lb X) (by exact kD ‹_›))
     refine J (cq t) ?_;cases hee:jm a.length&&jm b.length with|true=>rw[hee]at LR;subst LR;rfl|false=>rw[hee]at LR;subst LR;rfl
    have b3:aD [] Fs.tl.tl.hd (RS a b iz .any g h (M' (gap:G)) x7)=f ((RS a b iz .any g h (M' (gap:G)) (il D')),.next):=
     aB (ar X (bE (A:=il a) (ha:=il b) X X) y1) X
    have b4:aD [] Fs.tl.tl.tl.hd (RS a b iz .any g h (M' (gap:G)) (il D'))=f ((RS b (j2 (g*h^gap) D') iz .any g h (M' (gap:G)) (il D')),.next):=by
     have q1:ax (.bin .pow kb lM) (RS a b iz .any g h (M' (gap:G)) (il D'))=f (M' (h^gap)):=aP (x:=h) (y:=(gap:G)) X X (dz (by omega) (by grind));have q3:ax (f9 (aO rQ (.bin .mul jf (.bin .pow kb lM)))) (RS a b iz .any g h (M' (gap:G)) (il D'))=f (il (j2 (g*h^gap) D')):=by exact J (E6 _ _) (ar X (bE (A:=il D') X (aP (x:=g) X q1 (cB (by omega) (by omega)))) (uC (by exact aR ‹_› ‹_›) d2 d1))
     refine J ej (J eZ (J (bE (a:=.var 1) (A:=il b) X q3) ?_));rfl
    have b5:aD [] Fs.tl.tl.tl.tl.hd (RS b (j2 (g*h^gap) D') iz .any g h (M' (gap:G)) (il D'))=f ((RS b (j2 (g*h^gap) D') iz .any (dM b 0) h (M' (gap:G)) (il D')),.next):=
     aB (ar X (eW (A:=il b) X) (Ct lb Bv)) X
    have hl':(j2 (g*h^gap) D').length<=900:=J (E6 _ _) (J (cw _) (aR ‹_› ‹_›))
    have finish:∀ h':G,Cr m b (j2 (g*h^gap) D') iz (dM b 0) h'=f r->aD [] Fs.tl.tl.tl.tl.tl.hd (RS b (j2 (g*h^gap) D') iz .any (dM b 0) h (M' (gap:G)) (il D'))=f ((RS b (j2 (g*h^gap) D') iz .any (dM b 0) h' (M' (gap:G)) (il D')),.next) ->
      ∃ vs1 vs2,(match (match aD [] Fs (RS a b sign .any g h x6 x7) with|f (vs2,.ret v)=>f (vs2,kQ.ret v)|f (vs2,O)=>eY (ax RRT) (aD [] Fs) σ vs2|V=>V) with|r=>r)=f (vs1,.next)/\aD [] PE vs1=f (vs2,.ret (M' r)):=λh' hi b6=>by
     refine eD (ih b (j2 (g*h^gap) D') iz (dM b 0) h' r (M' (gap:G)) (il D') σ hi IV hl' (by lia)) λvs1 vs2 k1 k2=>uU vs1 vs2 ?_ k2
     have body:aD [] Fs (RS a b sign .any g h x6 x7)=f ((RS b (j2 (g*h^gap) D') iz .any (dM b 0) h' (M' (gap:G)) (il D')),.next):=
      (ag (a:=Fs.hd) b1).trans ((ag (a:=Fs.tl.hd) b2).trans ((ag (a:=Fs.tl.tl.hd) b3).trans ((ag (a:=Fs.tl.tl.tl.hd) b4).trans ((ag (a:=Fs.tl.tl.tl.tl.hd) b5).trans ((ag (a:=Fs.tl.tl.tl.tl.tl.hd) (b:=.skip) b6).trans X)))))
     exact J body k1
    split at e;rotate_left
    rename_i k
    rotate_left
    .exact finish h (by first|exact e|(exact dR LR e)) (by
      refine J (cq (g:=N') X) ?_
      rfl)
    .revert e;refine gg nS λU' e=>?_;simp only[jb,rR,l8,fz,uK]at U';obtain⟨u1,u2,u3⟩:=U';refine finish ((dM b 0^(k+1)).fdiv (h^k)) (by first|exact e|(exact dR LR e)) ?_;have p1:ax (.cmp .gt lM bC) (RS b (j2 (g*h^(k+1)) D') iz .any (dM b 0) h (M' ((k+1:a_):G)) (il D'))=f (.b (.bool R)):=by refine J (cb (x:=((k+1:a_):G)) X (y:=0) X) ?_;dsimp only[cmpInt];exact J (bP (by simp)) X
     have p2:ax (.bin .pow jf lM) (RS b (j2 (g*h^(k+1)) D') iz .any (dM b 0) h (M' ((k+1:a_):G)) (il D'))=f (M' (dM b 0^(k+1))):=aP (x:=dM b 0) (y:=((k+1:a_):G)) X X (dz (by omega) (by(simp -iota at *;omega)));have p3:ax (.bin .sub lM bQ) (RS b (j2 (g*h^(k+1)) D') iz .any (dM b 0) h (M' ((k+1:a_):G)) (il D'))=f (M' (k:G)):=by refine J (aP (x:=((k+1:a_):G)) X (y:=1) X (z:=((k+1:a_):G)-1) X) ?_;congr 3;simp
     refine J (cq p1) ?_;show aD [] (.seq (.assign 5 (.bin .fdiv (.bin .pow jf lM) (.bin .pow kb (.bin .sub lM bQ)))) .skip) _=_;refine J (ag (aB (aP p2 (aP (x:=h) X p3 (dz (by omega) (by grind))) (pN u3 u2)) X)) ?_;rfl
theorem aa5(Fm:a.length<=900)(IV:b.length<=900)(h:Cr 10 a b sign 1 1=f r):kn.fn [il a,il b,M' sign]=f (M' r):=by refine eD (XR 10 a b sign 1 1 r .any .any 100000 h Fm IV (by exact rS _ _)) λvs1 vs2 k1 k2=>?_;have s1:aD [] cI.hd ([il a,il b,M' sign]++bz 5)=f ([il a,il b,M' sign,.any,M' 1,M' 1,.any,.any],.next):=X;have s2:aD [] cI.tl.hd [il a,il b,M' sign,.any,M' 1,M' 1,.any,.any]=f (vs1,.next):=k1;exact aI (mu:=[]) (np:=3) (more:=5) (ha:=cI) (as:=[il a,il b,M' sign]) X ((ag s1).trans ((ag s2).trans k2))
theorem E7(a b:a_):((a:G)).fmod (b:G)=((a%b:a_):G):=by refine J (Qk _ (by simp)) ?_;rfl
theorem PF:∀(b a σ:a_),b<σ->∃ b',eY (ax lW.tl.hd.test) (aD [] lW.tl.hd.body) σ [M' (a:G),M' (b:G)]=f ([M' (p? a b:G),b'],.next):=by intro b;induction b using oL with|_ b ih=>intro a σ hN;cases σ with|zero=>lia|succ σ=>
   have hT:ax lW.tl.hd.test [M' (a:G),M' (b:G)]=f (.b (.bool (!(decide ((b:G)=0))))):=cb (o:=.ne) (x:=(b:G)) X (y:=0) X;dsimp only[eY];refine J hT ?_;by_cases h0:b=0
   .clear ih hN hT;subst h0;exact J (Nat.gcd_zero_right _) ⟨_,X⟩
   .refine J (bT (by lia)) ?_;have iQ:a%b<b:=uG _ (by lia);obtain⟨b',X9⟩:=ih (a%b) iQ b σ (by lia);have hm:ax (.bin .mod bw aS) [M' (a:G),M' (b:G)]=f (M' ((a%b:a_):G)):=by refine aP (x:=(a:G)) (y:=(b:G)) X X ?_;dsimp only[cU];exact J (ak (by lia)) (J (E7 _ _) X)
    have body:aD [] lW.tl.hd.body [M' (a:G),M' (b:G)]=f ([M' (b:G),M' ((a%b:a_):G)],.next):=by
     show aD [] (.seq (.bj [0,1] (.bc (aO aS (.bin .mod bw aS)))) .skip) _=_
     have:aD [] (.bj [0,1] (.bc (aO aS (.bin .mod bw aS)))) [M' (a:G),M' (b:G)]=f ([M' (b:G),M' ((a%b:a_):G)],.next):=by refine J ej (J eZ (J (bE (a:=.var 1) (A:=M' (b:G)) X hm) ?_));rfl
     refine J (ag this) ?_;rfl
    refine⟨b',?_⟩;(refine J body ?_;refine J Ux ?_;try dsimp only);refine J X9 ?_;congr 3;exact J (Nat.gcd_comm a b) (J (Nat.gcd_rec b a) (J (Nat.gcd_comm _ _) X))
theorem aa6(hb:b.natAbs<=90000):Am.fn [M' a,M' b]=f (M' (p? a.natAbs b.natAbs:G)):=by
 obtain⟨b',Y⟩:=PF b.natAbs a.natAbs 100000 (by lia);have ab:∀ x:G,(if x<0 then -x else x)=(x.natAbs:G):=λx=>by split<;>grind
 have s1:aD [] lW.hd [M' a,M' b]=f ([M' (a.natAbs:G),M' (b.natAbs:G)],.next):=by show f ([M' (if a<0 then -a else a),M' (if b<0 then -b else b)],kQ.next)=_;exact J (ab _) (J (ab _) X)
 have s2:aD [] lW.tl.hd [M' (a.natAbs:G),M' (b.natAbs:G)]=f ([M' (p? a.natAbs b.natAbs:G),b'],.next):=Y;have s3:aD [] lW.tl.tl [M' (p? a.natAbs b.natAbs:G),b']=f ([M' (p? a.natAbs b.natAbs:G),b'],.ret (M' (p? a.natAbs b.natAbs:G))):=X;exact aI (mu:=[]) (np:=2) (more:=0) (ha:=lW) (as:=[M' a,M' b]) X ((ag s1).trans ((ag s2).trans s3))
theorem Lo:∀(l:aA) (g:a_) (x:PV),(∀ x∈l,x.natAbs<=90000)->∃ x',dQ (cn (aD [] iu.tl.hd.body) [2]) (l.map M') [ρ,M' (g:G),x]=f ([ρ,M' (AA l g:G),x'],.next):=λw'=>by induction w' with|nil=>intro g x O;exact⟨x,X⟩|cons y l IH=>
  intro g x h;obtain⟨x',ih⟩:=IH (p? g y.natAbs) (M' y) λz hz=>h z (bg _ hz);refine⟨x',?_⟩
  have ht:cn (aD [] iu.tl.hd.body) [2] (M' y) [ρ,M' (g:G),x]=f ([ρ,M' (p? g y.natAbs:G),M' y],.next):=by
   have U':ax (xG (aO aS cJ)) [ρ,M' (g:G),M' y]=f (M' (p? g y.natAbs:G)):=
    ar X (bE (A:=M' (g:G)) (ha:=M' y) X X) (aa6 (h y aQ))
   show aD [] (.seq (.assign 1 (xG (aO aS cJ))) .skip) [ρ,M' (g:G),M' y]=_;refine J (ag (aB U' X)) ?_;rfl
  refine J bW ?_;rw[dQ];refine J ht ?_;exact ih
theorem Lp(h:∀ x∈l,x.natAbs<=90000):n5.fn [il l]=f (M' (AA l 0:G)):=by
 obtain⟨x',hl⟩:=Lo (ρ:=il l) l 0 .any h
 have g:uj.fn [il l]=f (M' (AA l 0:G)):=by
  have s2:aD [] iu.tl.hd [il l,M' ((0:a_):G),.any]=f ([il l,M' (AA l 0:G),x'],.next):=
   (jO (i:=0) (ik:=.plain) (C':=[2]) (b:=iu.tl.hd.body) (Z:=l.map M') X X X).trans hl
  exact aI (mu:=[]) (np:=1) (more:=2) (ha:=iu) (as:=[il l]) X ((ag X).trans ((ag s2).trans X))
 exact aI (mu:=[]) (np:=1) (more:=0) (ha:=n4) (as:=[il l]) (M:=[il l]) X (gc (ar X (eW (A:=il l) X) g))
theorem Lq:∀ l:aA,Px l=R->∀ x∈l,x.natAbs<=90000:=λw'=>by induction w' with|nil=>intro O x h;exact g_ h fH|cons y l ih=>
  intro h x hx;revert h;refine qW (λhy h=>?_);rcases aT.mp hx with eE|hx
  .clear hx;subst eE;exact iC hy
  .exact ih h x hx
theorem kO(h:Py p=R):n5.fn [il p]=f (M' 1)/\p≠[]:=by revert h;refine qW (λB h=>?_);have U':=Lp (Lq p B);have Y:=wj h;rw[Y]at U';refine⟨U',?_⟩;rintro rfl;cases Y
theorem aa7(p:aA):(p.map λx=>x.fdiv 1)=p:=by simp
theorem E8(B:Py a=R)(hb:Py b=R)(Fm:a.length<=900)(IV:b.length<=900)(h:Cr 10 a b sign 1 1=f r)(hr:r.natAbs<=1000000000000000000) :
  ∃ M,aD [] cD.tl.tl.tl [il a,il b,M' sign,.any,.any,.any]=f (M,.ret (M' r)):=by
 have la:a.length<=lim:=by dsimp only[lim];lia
 have lb:b.length<=lim:=by dsimp only[lim];lia
 refine cC (kO B) λc1 n1=>?_;obtain⟨c2,n2⟩:=kO hb;have p1:0<a.length:=by cases a with|nil=>exact g_ X n1|cons _ _=>exact iD _
 have p2:0<b.length:=by cases b with|nil=>exact g_ X n2|cons _ _=>exact iD _
 have s1:aD [] cD.tl.tl.tl.hd [il a,il b,M' sign,.any,.any,.any]=f ([il a,il b,M' sign,.any,M' 1,M' 1],.next):=by refine J ej (J eZ (J (bE (ar X (eW (A:=il a) X) c1) (ar X (eW (A:=il b) X) c2)) ?_));rfl
 have s2:aD [] cD.tl.tl.tl.tl.hd [il a,il b,M' sign,.any,M' 1,M' 1]=f ([il a,il b,M' sign,M' 1,M' 1,M' 1],.next):=by
  have g1:ax (.bin .pow jf (ba (bx aS))) [il a,il b,M' sign,.any,M' 1,M' 1]=f (M' 1):=by refine aP (x:=1) (y:=((b.length-1:a_):G)) X ?_ (by exact J (dz (by decide) (by lia)) (J Int.one_pow X));refine J (ja lb X) ?_;congr 3;lia
  have g2:ax (.bin .pow kb (ba (bx bw))) [il a,il b,M' sign,.any,M' 1,M' 1]=f (M' 1):=by refine aP (x:=1) (y:=((a.length-1:a_):G)) X ?_ (by exact J (dz (by decide) (by lia)) (J Int.one_pow X));refine J (ja la X) ?_;congr 3;lia
  exact aB (aP g1 g2 (cB (by decide) (by decide))) X
 refine⟨_,(ag (a:=cD.tl.tl.tl.hd) s1).trans ((ag (a:=cD.tl.tl.tl.tl.hd) s2).trans (gc ?_))⟩
 have d1:ax (f9 (aO bw jf)) [il a,il b,M' sign,M' 1,M' 1,M' 1]=f (il a):=by
  have:=uC (p:=a) (n:=1) la (by decide) (by decide)
  rw[aa7]at this;exact ar X (bE (A:=il a) (ha:=M' 1) X X) this
 have d2:ax (f9 (aO aS kb)) [il a,il b,M' sign,M' 1,M' 1,M' 1]=f (il b):=by
  have:=uC (p:=b) (n:=1) lb (by decide) (by decide)
  rw[aa7]at this;exact ar X (bE (A:=il b) (ha:=M' 1) X X) this
 have g:ax (nh (iB (f9 (aO bw jf)) (f9 (aO aS kb)) cJ)) [il a,il b,M' sign,M' 1,M' 1,M' 1]=f (M' r):=
  ar X (nk d1 d2 (sl:=M' sign) X) (aa5 Fm IV h)
 exact J (aP (x:=1) X g (cB (by decide) (by lia))) (J (Int.one_mul _) X)
theorem wc(h:SI x=f r):x=f r/\r.natAbs<=1000000000000000000:=by dsimp only[SI]at h;revert h;refine QA nS λO br h=>?_;subst br;revert h;refine cx (λhb h=>?_);obtain rfl:=aw h;exact⟨X,iC hb⟩
theorem aa8(Fm:a.length<=900)(IV:b.length<=900)(h:Lk a b=f r):pH.fn [il a,il b]=f (M' r):=by
 have la:a.length<=lim:=by dsimp only[lim];lia
 have lb:b.length<=lim:=by dsimp only[lim];lia
 revert h;refine gg nS λCo h=>?_;rw[jb]at Co;obtain⟨c1,n1⟩:=kO Co.1;refine cC (kO Co.2) λc2 n2=>?_;have p1:0<a.length:=by cases a with|nil=>exact g_ X n1|cons _ _=>exact iD _
 have p2:0<b.length:=by cases b with|nil=>exact g_ X n2|cons _ _=>exact iD _
 have s1:aD [] cD.hd ([il a,il b]++bz 4)=f ([il a,il b,.any,.any,.any,.any],.next):=by
  have e1:ax (.cmp .eq bw (.lst .nil)) ([il a,il b]++bz 4)=f (.b (.bool N')):=by cases a with|nil=>exact g_ X n1|cons O O'=>rfl
  have e2:ax (.cmp .eq aS (.lst .nil)) ([il a,il b]++bz 4)=f (.b (.bool N')):=by cases b with|nil=>exact g_ X n2|cons O O'=>rfl
  have e3:ax (.or (.cmp .eq bw (.lst .nil)) (.cmp .eq aS (.lst .nil))) ([il a,il b]++bz 4)=f (.b (.bool N')):=by exact J sG (J e1 e2)
  refine J (cq e3) ?_;rfl
 have s2:aD [] cD.tl.hd [il a,il b,.any,.any,.any,.any]=f ([il a,il b,M' 1,.any,.any,.any],.next):=X
 have t:ax (.cmp .lt (ba (bx bw)) (ba (bx aS))) [il a,il b,M' 1,.any,.any,.any]=f (.b (.bool (decide ((a.length:G)-1<(b.length:G)-1)))):=
  cb (o:=.lt) (ja la X) (ja lb X)
 revert h;refine Tx (λiQ h=>?_) λiQ h=>?_
 .have iQ:a.length<b.length:=iC iQ;rw[bP (by omega)]at t;obtain⟨Y,L⟩:=wc h;generalize LR:(match jm a.length&&jm b.length with|R=>(-1:G)|N'=>1)=sg at Y;obtain⟨M,k⟩:=E8 (sign:=sg) Co.2 Co.1 IV Fm (by first|exact Y|(exact dR LR Y)) L
  have s3:aD [] cD.tl.tl.hd [il a,il b,M' 1,.any,.any,.any]=f ([il b,il a,M' sg,.any,.any,.any],.next):=by
   refine J (cq t) ?_;refine J (CQ _ _) (J (ag X) ?_)
   have u2:ax (.and (.cmp .eq (.bin .mod (ba (bx bw)) nx) bQ) (.cmp .eq (.bin .mod (ba (bx aS)) nx) bQ)) [il b,il a,M' 1,.any,.any,.any]=f (.b (.bool (jm b.length&&jm a.length))):=
    Ck (tc (ja lb X) p2) (tc (ja la X) p1)
   have u3:ax (.ite (.and (.cmp .eq (.bin .mod (ba (bx bw)) nx) bQ) (.cmp .eq (.bin .mod (ba (bx aS)) nx) bQ)) (.neg bQ) bQ) [il b,il a,M' 1,.any,.any,.any]=f (M' sg):=by rw[Bool.and_comm]at u2;cases hee:jm a.length&&jm b.length with|true=>rw[hee]at u2 LR;refine J (lH u2) (dR LR ?_);rfl|false=>rw[hee]at u2 LR;refine J (sV u2) (dR LR ?_);rfl
   refine J (ag (aB u3 X)) ?_;rfl
  exact aI (mu:=[]) (np:=2) (more:=4) (ha:=cD) (as:=[il a,il b]) X ((ag s1).trans ((ag s2).trans ((ag s3).trans k)))
 .have iQ:¬ a.length<b.length:=λq=>by
   have:s_ a.length b.length=R:=CH.mpr q
   rw[this]at iQ;exact tF iQ
  rw[bT (by lia)]at t;obtain⟨Y,L⟩:=wc h;obtain⟨M,k⟩:=E8 (sign:=1) Co.1 Co.2 Fm IV Y L;have s3:aD [] cD.tl.tl.hd [il a,il b,M' 1,.any,.any,.any]=f ([il a,il b,M' 1,.any,.any,.any],.next):=by refine J (cq t) ?_;rfl
  exact aI (mu:=[]) (np:=2) (more:=4) (ha:=cD) (as:=[il a,il b]) X ((ag s1).trans ((ag s2).trans ((ag s3).trans k)))
noncomputable def oF (n:G):aA->G|[]=>0|c::r=>oF n r*n+c
theorem PG(hn:n.natAbs<=2):∀(l pre:aA) (x:PV) (G':G),(∀ c∈l,c.natAbs<=10)->G'.natAbs*3^l.length+10*3^l.length<=1000000->∃ x',dQ (cn (aD [] vu.tl.hd.body) [3]) (l.map M') [ρ,M' n,M' G',x]=f ([ρ,M' n,M' (l.foldl (λa c=>a*n+c) G'),x'],.next):=λw'=>by induction w' with|nil=>intro pre x G' O O;exact⟨x,X⟩|cons c l IH=>
  intro pre x G' h hb;have U':=h c aQ;have ah9:1<=3^l.length:=Nat.one_le_pow _ _ (by decide);rw[fD,Nat.pow_succ]at hb;have hab:(G'*n+c).natAbs<=G'.natAbs*2+10:=by exact nab (J (Jy _ _) (HC _ hn)) U'
  have aia:G'.natAbs<=1000000:=by
   have:G'.natAbs*1<=G'.natAbs*(3^l.length*3):=HC _ (by lia)
   lia
  obtain⟨x',ih⟩:=IH (pre++[c]) (M' c) (G'*n+c) (λd hd=>h d (bg _ hd)) (by
   have:=zA (3^l.length) hab
   rw[Nat.add_mul]at this;have e:G'.natAbs*(3^l.length*3)=G'.natAbs*2*3^l.length+G'.natAbs*3^l.length:=by exact J (CM (3^l.length) 3) (dR (L1 _ _ _) (J (show G'.natAbs*3=G'.natAbs*2+G'.natAbs by rfl) (J (Nat.add_mul _ _ _) X)))
   lia)
  refine⟨x',?_⟩
  have ht:cn (aD [] vu.tl.hd.body) [3] (M' c) [ρ,M' n,M' G',x]=f ([ρ,M' n,M' (G'*n+c),M' c],.next):=by
   have g:ax (.bin .add (.bin .mul cJ aS) cA) [ρ,M' n,M' G',M' c]=f (M' (G'*n+c)):=
    aP (aP (x:=G') (y:=n) X X (cB (by lia) (by lia))) (y:=c) X X
   show aD [] (.seq (.assign 2 (.bin .add (.bin .mul cJ aS) cA)) .skip) [ρ,M' n,M' G',M' c]=_;refine J (ag (aB g X)) ?_;rfl
  refine J bW ?_;rw[dQ];refine J ht ?_;exact ih
theorem SN(n:G):∀ l:aA,l.reverse.foldl (λa c=>a*n+c) 0=oF n l:=λw'=>by induction w' with|nil=>exact X|cons c l ih=>refine J CW (J List.foldl_append (J ih ?_));rfl
theorem Uv(hn:n.natAbs<=2)(hp:∀ c∈p,c.natAbs<=10)(hl:p.length<=5):OJ.fn [il p,M' n]=f (M' (oF n p)):=by
 have PH:3^p.length<=3^5:=Te (by decide) hl;obtain⟨x',Y⟩:=PG (ρ:=il p) hn p.reverse [] .any 0 (λc U'=>hp c (List.mem_reverse.mp U')) (by refine J uM ?_;simp;lia);rw[SN]at Y
 have s2:aD [] vu.tl.hd [il p,M' n,M' 0,.any]=f ([il p,M' n,M' (oF n p),x'],.next):=
  (jO (i:=0) (ik:=.rev) (C':=[3]) (b:=vu.tl.hd.body) (Z:=p.reverse.map M') X X (by exact J UP X)).trans Y
 exact aI (mu:=[]) (np:=2) (more:=2) (ha:=vu) (as:=[il p,M' n]) X ((ag X).trans ((ag s2).trans X))
noncomputable def oG (x y:G):ZP->G|[]=>0|p::r=>p.2*x^(p.1/16%16)*y^(p.1%16)+oG x y r
theorem SO:∀(l:aA) (a:G),sumInts (l.map .int) a=f (a+l.sum):=λw'=>by induction w' with|nil=>intro a;exact J List.sum_nil (J (Int.add_zero _) X)|cons x l ih=>intro a;dsimp only[v_,sumInts,ih,sum_cons];simp only[bW,ih,sum_cons];dsimp only[v_,sumInts,ih,sum_cons];simp only[bW,ih,sum_cons];congr 1;lia
theorem qR{x:G}{b i n:a_}(hx:x.natAbs<=b)(hb:1<=b)(hi:i<=n):(x^i).natAbs<=b^n:=by exact J (Int.natAbs_pow _ _) (aR (Nat.pow_le_pow_left hx i) (Te hb hi))
theorem Jo{b:a_}{x y:G}(hT:jl b T)(hb:b<=1000)(hx:x.natAbs<=60)(hy:y.natAbs<=60):d7.fn [.dict (au T),M' x,M' y]=f (M' (oG x y T)):=by
 have g1:ax (.bq (.bin .mul (.bin .mul (.idx (.idx bw cA) bC) (.bin .pow aS (.idx cA bQ))) (.bin .pow cJ (.idx cA nx))) [3] .plain bw) [.dict (au T),M' x,M' y,.any]=f (.list ((T.map λp=>p.2*x^(p.1/16%16)*y^(p.1%16)).map M')):=by
  refine bH (iv:=.dict (au T)) (Xs:=T.map λp=>.b (kT p.1)) X (by(dsimp only[D3];exact J (qh _) X)) ?_ (by simp;exact hT.lim);refine J fE (eP (w:=λp:a_ × G=>M' (p.2*x^(p.1/16%16)*y^(p.1%16))) _ λp hp=>fA (dF (hT.el p hp) λe1 e2 e3=>?_));dsimp only[sm]at e1;show ax _ [.dict (au T),M' x,M' y,.b (kT p.1)]=_;have px:(x^(p.1/16%16)).natAbs<=60^5:=qR hx (by decide) (by grind);have py:(y^(p.1%16)).natAbs<=60^5:=qR hy (by decide) (by grind);have i1:ax (.idx bw cA) [.dict (au T),M' x,M' y,.b (kT p.1)]=f (.b (zr p.2)):=oe hT p hp;have i2:ax (.idx (.idx bw cA) bC) [.dict (au T),M' x,M' y,.b (kT p.1)]=f (M' p.2):=J mW (J i1 X);have i3:ax (.bin .pow aS (.idx cA bQ)) [.dict (au T),M' x,M' y,.b (kT p.1)]=f (M' (x^(p.1/16%16))):=aP (x:=x) (y:=((p.1/16%16:a_):G)) X X (dz (by lia) (by grind));have i4:ax (.bin .pow cJ (.idx cA nx)) [.dict (au T),M' x,M' y,.b (kT p.1)]=f (M' (y^(p.1%16))):=aP (x:=y) (y:=((p.1%16:a_):G)) X X (dz (by lia) (by grind));have hm:(p.2*x^(p.1/16%16)).natAbs<=1000*60^5:=by exact J (Jy _ _) (Nat.mul_le_mul (by exact aR ‹_› ‹_›) px)
  exact aP (aP i2 i3 (cB (by lia) (oh px (by decide)))) i4 (cB (oh hm (by decide)) (oh py (by decide)))
 have hs:(T.map λp=>p.2*x^(p.1/16%16)*y^(p.1%16)).sum=oG x y T:=by clear g1 hT;induction T with|nil=>rfl|cons p T ih=>exact J bW (J sum_cons (J ih X))
 refine aI (mu:=[]) (np:=3) (more:=1) (ha:=l6) (as:=[.dict (au T),M' x,M' y]) (M:=[.dict (au T),M' x,M' y,.any]) X (gc (J (show([PV.dict (au T),M' x,M' y]++bz 1)=[.dict (au T),M' x,M' y,.any] from X) (J jX (J (eW g1) ?_))));have hm:(T.map λp=>p.2*x^(p.1/16%16)*y^(p.1%16)).map M'=((T.map λp=>p.2*x^(p.1/16%16)*y^(p.1%16)).map AV.int).map .b:=by simp only[fE];rfl
 refine J hm ?_;dsimp only[tu,nM];simp only[i7,SO,hs,UG]
theorem yr:∀(l:aA) (i:a_) (G':ZP) (a3 a4:PV),(∀ k∈keys G',∀ j,i<=j->k≠j*256)->G'.length+l.length<=1000->∃ a3' a4',dQ (cn (aD [2] dk.tl.hd.body) [3,4]) (fy i (l.map M')) [F,M' at_,.dict (au G'),a3,a4]=f ([F,M' at_,.dict (au (G'++eo 0 i l)),a3',a4'],.next):=λw'=>by induction w' with|nil=>intro i G' a3 a4 O O;exact⟨a3,a4,by simp[eo,fy,dQ]⟩|cons c l IH=>
  intro i G' a3 a4 hk hl;simp only[fD]at hl;have d9:ax (.cmp .ne jf bC) [F,M' at_,.dict (au G'),M' (i:G),M' c]=f (.b (.bool (!(decide (c=0))))):=cb (o:=.ne) (x:=c) (y:=0) X X;have abb:fy i ((c::l).map M')=.b (.tup [.int (i:G),.int c])::fy (i+1) (l.map M'):=X;simp -iota only [abb,dQ];have ht0:cn (aD [2] dk.tl.hd.body) [3,4] (.b (.tup [.int (i:G),.int c])) [F,M' at_,.dict (au G'),a3,a4]=aD [2] (.seq (.iff (.cmp .ne jf bC) (.seq (.dd 2 (.bc (iB cA bC bC)) (.bc (aO (.bin .sub bC jf) bQ))) .skip) .skip) .skip) [F,M' at_,.dict (au G'),M' (i:G),M' c]:=X;by_cases h0:c=0
  .refine gx (IH (i+1) G' (M' (i:G)) (M' c) (λk h j hj=>hk k h j (by exact kD ‹_›)) (by exact kD ‹_›)) λa3' a4' ih=>uT a3' a4' ?_;have hz:eo 0 i (c::l)=eo 0 (i+1) l:=by simp only[eo,fz,bP h0]
   refine J hz (dR ih (J ht0 ?_))
   have:aD [2] (.iff (.cmp .ne jf bC) (.seq (.dd 2 (.bc (iB cA bC bC)) (.bc (aO (.bin .sub bC jf) bQ))) .skip) .skip) [F,M' at_,.dict (au G'),M' (i:G),M' c]=f ([F,M' at_,.dict (au G'),M' (i:G),M' c],.next):=by exact J (cq d9) (J (bP h0) X)
   refine J (ag this) ?_;rfl
  .have jo:i*256∉keys G':=λq=>hk _ q i (fB _) X
   obtain⟨a3',a4',ih⟩:=IH (i+1) (G'++[(i*256,-c)]) (M' (i:G)) (M' c) (λk h j hj=>by
    simp only[keys,CU,fG,bW,mI,az]at h;rcases h with h|h
    .exact hk k h j (by exact kD ‹_›)
    .lia) (by simp;lia)
   refine uT a3' a4' ?_;have hz:eo 0 i (c::l)=(i*256,-c)::eo 0 (i+1) l:=by simp only[eo,fz,bT h0];rfl
   have wR:nq (i*256)=[(i:G),0,0]:=by dsimp only[nq];refine J (show i*256/256=i by simp) (J (show i*256/16%16=0 from J (L1 i 16 16).symm (J (Nat.mul_div_cancel _ (by decide)) (Nat.mul_mod_left _ _))) (J (show i*256%16=0 from J (L1 i 16 16).symm (Nat.mul_mod_left _ _)) ?_));rfl
   have Wc:j8 (.dict (au G')) (.tup [.int (i:G),.int 0,.int 0]) (.tup [.int (0-c),.int 1])=f (.dict (au (G'++[(i*256,-c)]))):=by
    have hko:keyOf [.int (i:G),.int 0,.int 0]=f (nq (i*256)):=by rw[wR];rfl
    dsimp only[j8];rw[hko];dsimp only;rw[ai (by rw[cu];unfold lim;lia)]
    have:=pJ (i*256) (-c) G'
    rw[EG jo]at this;rw[<-this,Int.zero_sub]
   have hs:aD [2] (.dd 2 (.bc (iB cA bC bC)) (.bc (aO (.bin .sub bC jf) bQ))) [F,M' at_,.dict (au G'),M' (i:G),M' c]=f ([F,M' at_,.dict (au (G'++[(i*256,-c)])),M' (i:G),M' c],.next):=by show ly [F,M' at_,.dict (au G'),M' (i:G),M' c] 2 (j8 (.dict (au G')) (.tup [.int (i:G),.int 0,.int 0]) (.tup [.int (0-c),.int 1]))=_;rw[Wc];rfl
   have hi:aD [2] (.iff (.cmp .ne jf bC) (.seq (.dd 2 (.bc (iB cA bC bC)) (.bc (aO (.bin .sub bC jf) bQ))) .skip) .skip) [F,M' at_,.dict (au G'),M' (i:G),M' c]=f ([F,M' at_,.dict (au (G'++[(i*256,-c)])),M' (i:G),M' c],.next):=by rw[cq d9,bT h0,Ux,CQ,ag hs];rfl
   have hx:G'++eo 0 i (c::l)=(G'++[(i*256,-c)])++eo 0 (i+1) l:=by rw[hz];simp
   rw[hx,<-ih,ht0,ag hi];rfl
theorem PI(hl:p.length<=900):eV.fn [il p,M' 0]=f (.dict (au (jM p))):=by
 obtain⟨a3,a4,h⟩:=yr (F:=il p) (at_:=0) p 0 [(16,1)] .any .any (λk hk j hj=>by
  dsimp only[keys]at hk;simp only[bW,mI,az]at hk
  lia) (by simp;lia)
 have s2:aD [2] dk.tl.hd [il p,M' 0,.dict (au [(16,1)]),.any,.any]=f ([il p,M' 0,.dict (au (jM p)),a3,a4],.next):=
  (jO (i:=0) (ik:=.enum) (C':=[3,4]) (b:=dk.tl.hd.body) (Z:=fy 0 (p.map M')) X X X).trans h
 exact aI (mu:=[2]) (np:=2) (more:=3) (ha:=dk) (as:=[il p,M' 0]) X ((ag X).trans ((ag s2).trans X))
theorem PJ(hl:p.length<=900):eV.fn [il p,M' 1]=f (.dict (au (kJ p))):=by
 obtain⟨a3,a4,h⟩:=yr (F:=il p) (at_:=1) p 0 [(1,1)] .any .any (λk hk j hj=>by
  dsimp only[keys]at hk;simp only[bW,mI,az]at hk
  lia) (by simp;lia)
 have s2:aD [2] dk.tl.hd [il p,M' 1,.dict (au [(1,1)]),.any,.any]=f ([il p,M' 1,.dict (au (kJ p)),a3,a4],.next):=
  (jO (i:=0) (ik:=.enum) (C':=[3,4]) (b:=dk.tl.hd.body) (Z:=fy 0 (p.map M')) X X X).trans h
 exact aI (mu:=[2]) (np:=2) (more:=3) (ha:=dk) (as:=[il p,M' 1]) X ((ag X).trans ((ag s2).trans X))
theorem AE:∀(l:aA) (i:a_),(∀ c∈l,c.natAbs<=b)->i+l.length<=6->(keys (eo 0 i l)).Nodup/\∀ p∈eo 0 i l,(∃ j,i<=j/\j<6/\p.1=j*256)/\p.2≠0/\p.2.natAbs<=b:=λw'=>by induction w' with|nil=>intro i O O;exact⟨rV,λp h=>g_ h fH⟩|cons c l ih=>
  intro i hb hl;simp only[fD]at hl;obtain⟨Y,L⟩:=ih (i+1) (λd hd=>hb d (bg _ hd)) (by lia);have up:∀ p∈eo 0 (i+1) l,(∃ j,i<=j/\j<6/\p.1=j*256)/\p.2≠0/\p.2.natAbs<=b:=λp hp=>by obtain⟨⟨j,a1,a2,a3⟩,a4⟩:=L p hp;exact⟨⟨j,by exact kD ‹_›,a2,a3⟩,a4⟩
  dsimp only[eo];refine J (fz _) ?_;by_cases h0:c=0
  .exact J (bP h0) ⟨Y,up⟩
  .refine J (bT h0) ⟨?_,λp hp=>?_⟩
   .show(x? i 256::keys (eo 0 (i+1) l)).Nodup;refine J (propext gw) ⟨λhm=>?_,Y⟩;refine ah (eR.mp hm) λp hp hq=>?_;obtain⟨⟨j,a1,a2,a3⟩,_⟩:=L p hp
    have:x? i 256=i*256:=X
    rw[this,a3]at hq;lia
   .rcases aT.mp hp with eE|hp
    .clear hp;subst eE;have abc:I? c = -c:=X;refine⟨⟨i,fB _,by lia,X⟩,?_,?_⟩
     .show I? c≠0;refine J abc ?_;lia
     .exact J abc (J (Int.natAbs_neg _) (hb c aQ))
    .exact up p hp
theorem SP:∀ j:Fin 6,(j.1*256/256<6/\j.1*256/16%16<6/\j.1*256%16<6)/\j.1*256≠16/\j.1*256≠1:=by decide +kernel
theorem Lr(hb:1<=b)(h:∀ c∈l,c.natAbs<=b)(hl:l.length<=6):jl b (jM l):=by
 obtain⟨Y,L⟩:=AE l 0 h (by lia);refine⟨?_,λp hp=>?_⟩
 .show(16::keys (eo 0 0 l)).Nodup;refine J (propext gw) ⟨λhm=>?_,Y⟩;refine ah (eR.mp hm) λp hp hq=>?_;obtain⟨⟨j,_,a2,a3⟩,_⟩:=L p hp;exact(SP ⟨j,a2⟩).2.1 (a3.symm.trans hq)
 .rcases aT.mp hp with iA|hp
  .clear hp;subst iA;exact⟨⟨by decide,by decide,by decide⟩,by decide,by simpa using hb⟩
  .obtain⟨⟨j,_,a2,a3⟩,a4,a5⟩:=L p hp;exact qH (J a3 (SP ⟨j,a2⟩).1) a4 a5
theorem Lu(hb:1<=b)(h:∀ c∈l,c.natAbs<=b)(hl:l.length<=6):jl b (kJ l):=by
 obtain⟨Y,L⟩:=AE l 0 h (by lia);refine⟨?_,λp hp=>?_⟩
 .show(1::keys (eo 0 0 l)).Nodup;refine J (propext gw) ⟨λhm=>?_,Y⟩;refine ah (eR.mp hm) λp hp hq=>?_;obtain⟨⟨j,_,a2,a3⟩,_⟩:=L p hp;exact(SP ⟨j,a2⟩).2.2 (a3.symm.trans hq)
 .rcases aT.mp hp with j5|hp
  .clear hp;subst j5;exact⟨⟨by decide,by decide,by decide⟩,by decide,by simpa using hb⟩
  .obtain⟨⟨j,_,a2,a3⟩,a4,a5⟩:=L p hp;exact qH (J a3 (SP ⟨j,a2⟩).1) a4 a5
noncomputable def SQ:aC->aA->e_|[],[]=>R|.b (.int i)::Z,j::l=>decide (i=j)&&SQ Z l|O,O'=>N'
def SR(x:fm)(l:aA):e_:=match x with|f (.list Z)=>SQ Z l|_=>N'
theorem Jp:∀{Z:aC} {l:aA},SQ Z l=R->Z=l.map M'|[],[],O=>X|x::Z,j::l,h=>(by cases x with|b v=>(cases v with|int i=>dsimp only[SQ]at h;rw[jb,jQ]at h;(refine J h.1 (J (Jp h.2) ?_));rfl|_=>exact fT h)|_=>exact fT h)|[],j::l,h=>by exact fT h|x::Z,[],h=>by cases x with|b v=>(cases v<;>exact fT h)|_=>exact fT h
theorem Jq(h:SR x l=R):x=f (il l):=by dsimp only[SR]at h;revert h;refine Vg (λO br h=>?_);subst br;exact J (Jp h) X
noncomputable def r3:aA:=[-1,0,1]
theorem XU:(r3.all λa=>r3.all λc=>SR (jF.fn [il [a,1],il [0,c,1]]) [a,c,1])=R:=by decide +kernel
theorem XV:(r3.all λd=>r3.all λb=>r3.all λc=>SR (jF.fn [il [d,b,1],il [0,c,1]]) [d,b*c,c*c+b,2*c,1])=R:=by decide +kernel
abbrev LW(b2 b3 b4 b5:PV)(lo hi mn c:G)(p q:aA)(du x y:PV):aC:=[.any,.any,b2,b3,b4,b5,M' lo,M' hi,M' mn,M' c,il p,il q,du,x,y,.any,.any,.any]
structure Good(p q:aA)(hi mn:a_)(e:ZE)(TF:G->G->G):Prop where
 el:Al (jM p) (kJ q)=f [e]
 ld:e.l=16*hi
 h6:hi<6
 mn2:mn=1\/mn=2
 bd:e.b<=1000
 tt:∀ k∈e.p,k.1<256
 tv:∀ x y,oG x y e.p=TF x y
 pl:p.length<=5/\2<=p.length
 ql:q.length<=5/\2<=q.length
 pb:∀ c∈p,c.natAbs<=2
 qb:∀ c∈q,c.natAbs<=2
 zt:∀ n:G,n.natAbs<=2->TF (oF n p) (oF n q)=0
 zb:∀ n:G,n.natAbs<=2->(oF n p).natAbs<=60/\(oF n q).natAbs<=60
 rs:∀ x y:G,x.natAbs<=3->y.natAbs<=3->Lk (cQ (gd p ((if x≠0 then [x] else []).map λz=>-z))) (cQ (gd q ((if y≠0 then [y] else []).map λz=>-z)))=f ((1-((((q.length:G)-1)*(((p.length:G)-1)+1))%2)*2)*TF x y^mn)
section
variable{b2 b3 b4 b5 du x0 y0:PV}{lo ny mE c:G}{p q:aA}{hi mn:a_}{e:ZE}{TF:G->G->G}
theorem Good.ee(Y':Good p q hi mn e TF):l4.fn [.list [.dict (au (jM p)),.dict (au (kJ q))],.b (.int 1),.b (.int 200)]=f (.list [dP e])/\rN e:=by refine cC (XF (Lr (b:=2) (by decide) Y'.pb (by have:=Y'.pl.1;lia)) (Lu (b:=2) (by decide) Y'.qb (by have:=Y'.ql.1;omega)) Y'.el) λY L=>?_;exact⟨Y,L e (az.mpr X)⟩
theorem l_6(Y':Good p q hi mn e TF):aD [] xT (LW b2 b3 b4 b5 lo ny mE c p q du x0 y0)=f (LW (.list [dP e]) b3 b4 b5 lo ny mE c p q du x0 y0,.next):=by
 have Y:=Y'.ee.1;have g1:ax (.call "_law_given" fZ eV (aO iX bC)) (LW b2 b3 b4 b5 lo ny mE c p q du x0 y0)=f (.dict (au (jM p))):=ar X (bE (A:=il p) (ha:=M' 0) X X) (PI (by have:=Y'.pl.1;lia));have g3:ax (.lst (aO (.call "_law_given" fZ eV (aO iX bC)) (.call "_law_given" fZ eV (aO mr bQ)))) (LW b2 b3 b4 b5 lo ny mE c p q du x0 y0)=f (.list [.dict (au (jM p)),.dict (au (kJ q))]):=by exact J Af (J (bE g1 (ar X (bE (A:=il q) (ha:=M' 1) X X) (PJ (by have:=Y'.ql.1;omega)))) X)
 exact aB (ar X (nk g3 (ha:=M' 1) (sl:=M' 200) X X) Y) X
theorem t16:∀ j:Fin 6,16*j.1/256=0/\16*j.1/16%16=j.1/\16*j.1%16=0:=by decide +kernel
theorem l_7(Y':Good p q hi mn e TF):aD [] xU (LW (.list [dP e]) b3 b4 b5 lo (hi:G) mE c p q du x0 y0)=f (LW (.list [dP e]) b3 b4 b5 lo (hi:G) mE c p q du x0 y0,.next):=by
 have hE:=Y'.ee.2;have g1:ax (.cmp .ne (.bi .len (bx cJ)) bQ) (LW (.list [dP e]) b3 b4 b5 lo (hi:G) mE c p q du x0 y0)=f (.b (.bool N')):=X;have hk:kT e.l=.tup [.int 0,.int (hi:G),.int 0]:=by have h:=t16 ⟨hi,Y'.h6⟩;refine J Y'.ld ?_;dsimp only[kT];simp only[h.1,h.2.1,h.2.2];rfl
 have g3:ax (.bc (aO (.bc (iB bC rQ bC)) (.bc (aO bQ bQ)))) (LW (.list [dP e]) b3 b4 b5 lo (hi:G) mE c p q du x0 y0)=f (.b (.tup [.tup [.int 0,.int (hi:G),.int 0],.tup [.int 1,.int 1]])):=X;have g4:ax (.cmp .ne (bN (aO (.idx cJ bC) (.k (.str 0)))) (.bc (aO (.bc (iB bC rQ bC)) (.bc (aO bQ bQ))))) (LW (.list [dP e]) b3 b4 b5 lo (hi:G) mE c p q du x0 y0)=f (.b (.bool N')):=by refine J ju (J (ar X (bE (A:=dP e) (ha:=.b (.str 0)) X X) (pM hE)) ?_);simp -iota only [g3,hk];dsimp only[nL,fw,fk,Fh];simp;have Y:=Y'.ld;have L:=Y'.h6;lia
 have g5:ax (.or (.cmp .ne (.bi .len (bx cJ)) bQ) (.cmp .ne (bN (aO (.idx cJ bC) (.k (.str 0)))) (.bc (aO (.bc (iB bC rQ bC)) (.bc (aO bQ bQ)))))) (LW (.list [dP e]) b3 b4 b5 lo (hi:G) mE c p q du x0 y0)=f (.b (.bool N')):=by exact J sG (J g1 g4)
 refine J (cq g5) ?_;rfl
theorem l_8:aD [] xV (LW (.list [dP e]) b3 b4 b5 lo ny mE c p q du x0 y0)=f (LW (.list [dP e]) (dP e) b4 b5 lo ny mE c p q du x0 y0,.next):=aB (iv:=dP e) X X
theorem AF{g:PV->af (aC)}{α:Type}{K':α->PV}:∀(l:d_ α),(∀ x∈l,g (K' x)=f [])->lu g (l.map K')=f []:=λw'=>by induction w' with|nil=>intro O;exact X|cons x l ih=>intro h;simp only[bW,lu,h x aQ,ih λy hy=>h y (bg _ hy),HH]
theorem l_9(Y':Good p q hi mn e TF):aD [] xW (LW b2 (dP e) b4 b5 lo ny mE c p q du x0 y0)=f (LW b2 (dP e) b4 b5 lo ny mE c p q du x0 y0,.next):=by
 have hE:=Y'.ee.2
 have g1:ax (.bR bQ [16] .plain cA (.or (.cmp .ne (.idx (.idx cA ph) bQ) bQ) (.cmp .ne (.idx ph bC) bC))) (LW b2 (dP e) b4 b5 lo ny mE c p q du x0 y0)=f (.list []):=by
  refine bH (iv:=dP e) (Xs:=e.p.map λk=>.b (kT k.1)) X (by(dsimp only[D3];exact J (qh _) X)) ?_ (by decide);refine AF e.p λk hk=>?_;have h0:=Y'.tt k hk;have i1:ax (.idx cA ph) (bM (LW b2 (dP e) b4 b5 lo ny mE c p q du x0 y0) 16 (.b (kT k.1)))=f (.b (zr k.2)):=oe hE.ok k hk;have i2:ax (.idx (.idx cA ph) bQ) (bM (LW b2 (dP e) b4 b5 lo ny mE c p q du x0 y0) 16 (.b (kT k.1)))=f (M' 1):=J mW (J i1 X);have i3:ax (.cmp .ne (.idx (.idx cA ph) bQ) bQ) (bM (LW b2 (dP e) b4 b5 lo ny mE c p q du x0 y0) 16 (.b (kT k.1)))=f (.b (.bool N')):=cb (o:=.ne) i2 (y:=1) X;have i4:ax (.cmp .ne (.idx ph bC) bC) (bM (LW b2 (dP e) b4 b5 lo ny mE c p q du x0 y0) 16 (.b (kT k.1)))=f (.b (.bool N')):=by refine J (cb (x:=((k.1/256:a_):G)) X (y:=0) X) ?_;dsimp only[cmpInt];refine J (bP (by lia)) ?_;rfl
  have i5:ax (.or (.cmp .ne (.idx (.idx cA ph) bQ) bQ) (.cmp .ne (.idx ph bC) bC)) (bM (LW b2 (dP e) b4 b5 lo ny mE c p q du x0 y0) 16 (.b (kT k.1)))=f (.b (.bool N')):=by exact J sG (J i3 i4)
  dsimp only[rm,cS];exact J i5 X
 have g2:ax (.cmp .gt (.bi .len (bx (.bR bQ [16] .plain cA (.or (.cmp .ne (.idx (.idx cA ph) bQ) bQ) (.cmp .ne (.idx ph bC) bC))))) bC) (LW b2 (dP e) b4 b5 lo ny mE c p q du x0 y0)=f (.b (.bool N')):=
  cb (o:=.gt) (i9 (l:=[]) (by decide) g1) (y:=0) X
 refine J (cq g2) ?_;rfl
theorem aez(Y':Good p q hi mn e TF):aD [] sR (LW b2 (dP e) b4 b5 lo ny mE c p q du x0 y0)=f (LW b2 (dP e) b4 b5 lo ny mE c p q du x0 y0,.next):=by
 have hE:=Y'.ee.2
 have g1:ax (.bR m7 [17] .plain (.bc (.cons (.neg nx) (Sa (.neg bQ) bC bQ nx))) (.cmp .ne (.call "_law_value" d6 d7 (iB cA (kr (aO iX m7)) (kr (aO mr m7)))) bC)) (LW b2 (dP e) b4 b5 lo ny mE c p q du x0 y0)=f (.list []):=by
  refine bH (iv:=.b (.tup [.int (-2),.int (-1),.int 0,.int 1,.int 2])) (Xs:=[-2,-1,0,1,2].map M') X X ?_ (by decide);refine AF [-2,-1,0,1,2] λn hn=>?_;have hn2:n.natAbs<=2:=by simp only[aT,fH,or_false]at hn;rcases hn with rfl|rfl|rfl|rfl|rfl<;>decide
  have i1:ax (kr (aO iX m7)) (bM (LW b2 (dP e) b4 b5 lo ny mE c p q du x0 y0) 17 (M' n))=f (M' (oF n p)):=ar X (bE (A:=il p) (ha:=M' n) X X) (Uv hn2 (λc U'=>by have:=Y'.pb c U';lia) Y'.pl.1);have i2:ax (kr (aO mr m7)) (bM (LW b2 (dP e) b4 b5 lo ny mE c p q du x0 y0) 17 (M' n))=f (M' (oF n q)):=ar X (bE (A:=il q) (ha:=M' n) X X) (Uv hn2 (λc U'=>by have:=Y'.qb c U';omega) Y'.ql.1)
  have i3:ax (.call "_law_value" d6 d7 (iB cA (kr (aO iX m7)) (kr (aO mr m7)))) (bM (LW b2 (dP e) b4 b5 lo ny mE c p q du x0 y0) 17 (M' n))=f (M' 0):=by
   have:=Jo hE.ok Y'.bd (Y'.zb n hn2).1 (Y'.zb n hn2).2
   rw[Y'.tv,Y'.zt n hn2]at this;exact ar X (nk (a:=.var 3) (A:=dP e) X i1 i2) this
  have i4:ax (.cmp .ne (.call "_law_value" d6 d7 (iB cA (kr (aO iX m7)) (kr (aO mr m7)))) bC) (bM (LW b2 (dP e) b4 b5 lo ny mE c p q du x0 y0) 17 (M' n))=f (.b (.bool N')):=cb (o:=.ne) i3 (y:=0) X;dsimp only[rm,cS];exact J i4 X
 have g2:ax (.cmp .ne (.bR m7 [17] .plain (.bc (.cons (.neg nx) (Sa (.neg bQ) bC bQ nx))) (.cmp .ne (.call "_law_value" d6 d7 (iB cA (kr (aO iX m7)) (kr (aO mr m7)))) bC)) (.lst .nil)) (LW b2 (dP e) b4 b5 lo ny mE c p q du x0 y0)=f (.b (.bool N')):=by exact J ju (J g1 X)
 refine J (cq g2) ?_;rfl
noncomputable abbrev sgn (p q:aA):G:=1-((((q.length:G)-1)*(((p.length:G)-1)+1))%2)*2
theorem Lv(p q:aA):(sgn p q).natAbs<=1:=by dsimp only[sgn];generalize (((q.length:G)-1)*(((p.length:G)-1)+1))=z;lia
theorem SS(p q:aA):(sgn p q).natAbs=1:=by dsimp only[sgn];generalize (((q.length:G)-1)*(((p.length:G)-1)+1))=z;lia
theorem Hu(h:Lk a b=f r):r.natAbs<=1000000000000000000:=by
 dsimp only[Lk]at h;revert h;refine gg nS λO h=>?_;revert h;refine Tx (λO h=>?_) λO h=>?_
 .exact(wc h).2
 .exact(wc h).2
theorem aeA(Y':Good p q hi mn e TF):aD [] sS (LW b2 b3 b4 b5 lo ny mE c p q du x0 y0)=f (LW b2 b3 (M' (sgn p q)) b5 lo ny mE c p q du x0 y0,.next):=by
 have hp:=Y'.pl.1;have hq:=Y'.ql.1;have d1:ax (ba (bx mr)) (LW b2 b3 b4 b5 lo ny mE c p q du x0 y0)=f (M' ((q.length:G)-1)):=ja (by dsimp only[lim];lia) X;have d2:ax (.bin .add (ba (bx iX)) bQ) (LW b2 b3 b4 b5 lo ny mE c p q du x0 y0)=f (M' ((p.length:G)-1+1)):=aP (ja (by dsimp only[lim];lia) X) (y:=1) X X;have d3:=aP (o:=.mul) d1 d2 (cB (by omega) (by omega))
 have d4:=aP (o:=.mod) d3 (b:=.k (.int 2)) (y:=2) X (z:=(((q.length:G)-1)*(((p.length:G)-1)+1))%2) (by
  dsimp only[cU]
  exact J (ak (by decide)) (J (Qk _ (by decide)) X))
 exact aB (aP (o:=.sub) (a:=.k (.int 1)) (x:=1) X (aP (o:=.mul) d4 (b:=.k (.int 2)) (y:=2) X (cB (by grind) (by decide))) X) X
theorem k_2(Y':Good p q hi mn e TF)(hx:x.natAbs<=3)(hy:y.natAbs<=3):aD [] xX (LW b2 (dP e) (M' (sgn p q)) b5 lo ny (mn:G) c p q du (M' x) (M' y))=f (LW b2 (dP e) (M' (sgn p q)) b5 lo ny (mn:G) c p q (M' (sgn p q*TF x y^mn)) (M' x) (M' y),.next):=by
 have hE:=Y'.ee.2;have v:=Jo hE.ok Y'.bd (x:=x) (y:=y) (by lia) (by lia);rw[Y'.tv]at v;have g1:ax (.call "_law_value" d6 d7 (iB cA tZ xE)) (LW b2 (dP e) (M' (sgn p q)) b5 lo ny (mn:G) c p q du (M' x) (M' y))=f (M' (TF x y)):=ar X (nk (A:=dP e) (ha:=M' x) (sl:=M' y) X X X) v;have hm:=Y'.mn2;have hs:=Lv p q;have JW:(sgn p q).natAbs=1:=SS p q
 have PH:(TF x y^mn).natAbs<=1000000000000000000:=by
  have:=Hu (Y'.rs x y hx hy)
  rw[Jy]at this;have e:(1-((((q.length:G)-1)*(((p.length:G)-1)+1))%2)*2).natAbs=1:=JW;rw[e,Nat.one_mul]at this;exact this
 have hb:(TF x y).natAbs<=1000000000000000000:=by
  rcases hm with eE|rfl
  .clear Y' g1;subst eE;rwa [Qo]at PH
  .rw[Int.natAbs_pow,Nat.pow_two]at PH;by_cases h0:(TF x y).natAbs=0
   .lia
   .exact aR (Nat.le_mul_of_pos_left _ (by lia)) PH
 exact aB (aP (o:=.mul) (a:=.var 4) (x:=sgn p q) X (aP (o:=.pow) g1 (b:=.var 8) (y:=(mn:G)) X (dz (by lia) (by lia))) (cB (by omega) (oh PH (by decide)))) X
theorem PK(hl:l.length<=900)(Y:ax (.var i) M=f (il l))(L:ax (.var j) M=f (M' x)):ax (kN (aO (.var i) (.ite (.cmp .ne (.var j) bC) (.lst (bx (.var j))) (.lst .nil)))) M=f (il (cQ (gd l ((if x≠0 then [x] else []).map λz=>-z)))):=by
 have t:ax (.cmp .ne (.var j) bC) M=f (.b (.bool (!(decide (x=0))))):=cb (o:=.ne) L (y:=0) X
 have g:ax (.ite (.cmp .ne (.var j) bC) (.lst (bx (.var j))) (.lst .nil)) M=f (il (if x≠0 then [x] else [])):=by
  by_cases h0:x=0
  .rw[bP h0]at t;refine J (sV t) (J (ak (by simpa using h0)) ?_);rfl
  .rw[bT h0]at t;refine J (lH t) (J (ai h0) (J Af (J (eW L) ?_)));rfl
 exact ar X (bE Y g) (Hq (by lia) (by split<;>simp))
theorem k_3(Y':Good p q hi mn e TF)(hx:x.natAbs<=3)(hy:y.natAbs<=3):aD [] xY (LW b2 b3 b4 b5 lo ny mE c p q (M' (sgn p q*TF x y^mn)) (M' x) (M' y))=f (LW b2 b3 b4 b5 lo ny mE c p q (M' (sgn p q*TF x y^mn)) (M' x) (M' y),.next):=by
 have hp:=Y'.pl.1;have hq:=Y'.ql.1;have Uw:∀(l:aA) (z:G),l.length<=5->(cQ (gd l ((if z≠0 then [z] else []).map λw=>-w))).length<=900:=λl z h=>by refine aR (uA _) (J (ta _ _) ?_);split<;>simp<;>lia
 have r:=aa8 (Uw p x hp) (Uw q y hq) (Y'.rs x y hx hy)
 have g1:ax (n6 (aO (kN (aO iX (.ite (.cmp .ne tZ bC) (.lst (bx tZ)) (.lst .nil)))) (kN (aO mr (.ite (.cmp .ne xE bC) (.lst (bx xE)) (.lst .nil)))))) (LW b2 b3 b4 b5 lo ny mE c p q (M' (sgn p q*TF x y^mn)) (M' x) (M' y))=f (M' (sgn p q*TF x y^mn)):=
  ar X (bE (PK (l:=p) (x:=x) (by lia) X X) (PK (l:=q) (x:=y) (by lia) X X)) r
 have g2:ax (.cmp .ne (n6 (aO (kN (aO iX (.ite (.cmp .ne tZ bC) (.lst (bx tZ)) (.lst .nil)))) (kN (aO mr (.ite (.cmp .ne xE bC) (.lst (bx xE)) (.lst .nil)))))) Gp) (LW b2 b3 b4 b5 lo ny mE c p q (M' (sgn p q*TF x y^mn)) (M' x) (M' y))=f (.b (.bool N')):=by refine J (cb (o:=.ne) g1 (y:=sgn p q*TF x y^mn) X) ?_;dsimp only[cmpInt];simp
 refine J (cq g2) ?_;rfl
end
end Mine.Internal
end
section
namespace Mine.Internal
noncomputable def Ym (k:a_):ZP->af G|[]=>V|p::r=>match f_ p.1 k with|R=>f p.2|N'=>Ym k r
def AG:ZP->ZP->e_|[],[]=>R|O::O',[]=>N'|A,p::S=>match zg p.2 with|R=>AG A S|N'=>match Ym p.1 A with|V=>N'|f c=>match zg (Yi c p.2) with|R=>AG (oB p.1 A) S|N'=>N'
noncomputable def XW:ZP->e_|[]=>R|p::r=>match s_ p.1 256 with|R=>XW r|N'=>N'
def jH(p q:aA)(hi:a_)(S:ZP):e_:=match Al (jM p) (kJ q) with|f [e]=>(match f_ e.l (x? 16 hi) with|R=>(match m_ e.b 1000 with|R=>(match XW e.p with|R=>AG e.p S|N'=>N')|N'=>N')|N'=>N')|_=>N'
def nv(p q:aA)(r:G):e_:=match Lk p q with|f v=>zg (Yi v r)|V=>N'
noncomputable def Lw (a d b:G):ZP:=[(32,1),(16,b-2*a),(0,a*a-a*b+d),(1,-1)]
noncomputable def SA3 (a e d c:G):ZP:=[(48,1),(32,c-3*a),(16,3*a*a-2*c*a+d),(0,-(a*a*a)+c*a*a-d*a+e),(1,-1)]
noncomputable def SB (ha a E d c:G):ZP:=[(48,1),(32,-(ha-2*(a*a-ha-c*a+d)-a*(c-a)+(c-a)*(c-a))),
 (16,-(2*(a*a-ha-c*a+d)*ha-(a*a-ha-c*a+d)*(a*a-ha-c*a+d)-a*((a*a-ha-c*a+d)*(c-a)+(a*ha-c*ha+E))+2*(a*ha-c*ha+E)*(c-a))),
 (0,-((a*a-ha-c*a+d)*(a*a-ha-c*a+d)*ha-a*(a*a-ha-c*a+d)*(a*ha-c*ha+E)+(a*ha-c*ha+E)*(a*ha-c*ha+E))),
 (1,-(a*(a*a-ha-c*a+d)-2*(a*ha-c*ha+E))),(2,-1),(17,-(a-2*(c-a)))]
noncomputable def Hv (a d b:G):G:=a*a-b*a+d
noncomputable def XX (a e d c:G):G:=-(a*a*a)+c*a*a-d*a+e
noncomputable def rB (b a e d c:G):G:=(a*a-b-c*a+d)*(a*a-b-c*a+d)*b-(a*a-b-c*a+d)*(a*b-c*b+e)*a+(a*b-c*b+e)*(a*b-c*b+e)
noncomputable def q3:aA:=[-1,0,1]
noncomputable def q9:aA:=[-4,-3,-2,-1,0,1,2,3,4]
theorem EA2:(q3.all λa=>q3.all λd=>q3.all λb=>jH [a,1] [d,b,1] 2 (Lw a d b))=R:=by decide +kernel
theorem abf:(q3.all λe=>q3.all λd=>q3.all λc=>jH [(-1),1] [e,d,c,1] 3 (SA3 (-1) e d c))=R:=by decide +kernel
theorem abg:(q3.all λe=>q3.all λd=>q3.all λc=>jH [0,1] [e,d,c,1] 3 (SA3 0 e d c))=R:=by decide +kernel
theorem abh:(q3.all λe=>q3.all λd=>q3.all λc=>jH [1,1] [e,d,c,1] 3 (SA3 1 e d c))=R:=by decide +kernel
theorem abi:(q3.all λe=>q3.all λd=>q3.all λc=>jH [(-1),(-1),1] [e,d,c,1] 3 (SB (-1) (-1) e d c))=R:=by decide +kernel
theorem abj:(q3.all λe=>q3.all λd=>q3.all λc=>jH [(-1),0,1] [e,d,c,1] 3 (SB (-1) 0 e d c))=R:=by decide +kernel
theorem abk:(q3.all λe=>q3.all λd=>q3.all λc=>jH [(-1),1,1] [e,d,c,1] 3 (SB (-1) 1 e d c))=R:=by decide +kernel
theorem abl:(q3.all λe=>q3.all λd=>q3.all λc=>jH [0,(-1),1] [e,d,c,1] 3 (SB 0 (-1) e d c))=R:=by decide +kernel
theorem abm:(q3.all λe=>q3.all λd=>q3.all λc=>jH [0,0,1] [e,d,c,1] 3 (SB 0 0 e d c))=R:=by decide +kernel
theorem abn:(q3.all λe=>q3.all λd=>q3.all λc=>jH [0,1,1] [e,d,c,1] 3 (SB 0 1 e d c))=R:=by decide +kernel
theorem abo:(q3.all λe=>q3.all λd=>q3.all λc=>jH [1,(-1),1] [e,d,c,1] 3 (SB 1 (-1) e d c))=R:=by decide +kernel
theorem abp:(q3.all λe=>q3.all λd=>q3.all λc=>jH [1,0,1] [e,d,c,1] 3 (SB 1 0 e d c))=R:=by decide +kernel
theorem abq:(q3.all λe=>q3.all λd=>q3.all λc=>jH [1,1,1] [e,d,c,1] 3 (SB 1 1 e d c))=R:=by decide +kernel
theorem abr:(q3.all λd=>q3.all λb=>jH [(-1),(-1),1] [d,b*(-1),(-1)*(-1)+b,2*(-1),1] 2 (Lw (-1) d b))=R:=by decide +kernel
theorem abt:(q3.all λd=>q3.all λb=>jH [(-1),0,1] [d,b*0,0*0+b,2*0,1] 2 (Lw (-1) d b))=R:=by decide +kernel
theorem abu:(q3.all λd=>q3.all λb=>jH [(-1),1,1] [d,b*1,1*1+b,2*1,1] 2 (Lw (-1) d b))=R:=by decide +kernel
theorem abv:(q3.all λd=>q3.all λb=>jH [0,(-1),1] [d,b*(-1),(-1)*(-1)+b,2*(-1),1] 2 (Lw 0 d b))=R:=by decide +kernel
theorem abw:(q3.all λd=>q3.all λb=>jH [0,0,1] [d,b*0,0*0+b,2*0,1] 2 (Lw 0 d b))=R:=by decide +kernel
theorem abx:(q3.all λd=>q3.all λb=>jH [0,1,1] [d,b*1,1*1+b,2*1,1] 2 (Lw 0 d b))=R:=by decide +kernel
theorem aby:(q3.all λd=>q3.all λb=>jH [1,(-1),1] [d,b*(-1),(-1)*(-1)+b,2*(-1),1] 2 (Lw 1 d b))=R:=by decide +kernel
theorem abz:(q3.all λd=>q3.all λb=>jH [1,0,1] [d,b*0,0*0+b,2*0,1] 2 (Lw 1 d b))=R:=by decide +kernel
theorem abA:(q3.all λd=>q3.all λb=>jH [1,1,1] [d,b*1,1*1+b,2*1,1] 2 (Lw 1 d b))=R:=by decide +kernel
theorem RA2:(q3.all λb=>q9.all λa=>q9.all λd=>nv [a,1] [d,b,1] (Hv a d b))=R:=by decide +kernel
theorem abB:(q3.all λd=>q9.all λa=>q9.all λe=>nv [a,1] [e,d,(-1),1] (XX a e d (-1)))=R:=by decide +kernel
theorem abC:(q3.all λd=>q9.all λa=>q9.all λe=>nv [a,1] [e,d,0,1] (XX a e d 0))=R:=by decide +kernel
theorem abD:(q3.all λd=>q9.all λa=>q9.all λe=>nv [a,1] [e,d,1,1] (XX a e d 1))=R:=by decide +kernel
theorem abE:(q3.all λd=>q9.all λb=>q9.all λe=>nv [b,(-1),1] [e,d,(-1),1] (rB b (-1) e d (-1)))=R:=by decide +kernel
theorem abF:(q3.all λd=>q9.all λb=>q9.all λe=>nv [b,(-1),1] [e,d,0,1] (rB b (-1) e d 0))=R:=by decide +kernel
theorem abG:(q3.all λd=>q9.all λb=>q9.all λe=>nv [b,(-1),1] [e,d,1,1] (rB b (-1) e d 1))=R:=by decide +kernel
theorem abH:(q3.all λd=>q9.all λb=>q9.all λe=>nv [b,0,1] [e,d,(-1),1] (rB b 0 e d (-1)))=R:=by decide +kernel
theorem abI:(q3.all λd=>q9.all λb=>q9.all λe=>nv [b,0,1] [e,d,0,1] (rB b 0 e d 0))=R:=by decide +kernel
theorem abJ:(q3.all λd=>q9.all λb=>q9.all λe=>nv [b,0,1] [e,d,1,1] (rB b 0 e d 1))=R:=by decide +kernel
theorem abK:(q3.all λd=>q9.all λb=>q9.all λe=>nv [b,1,1] [e,d,(-1),1] (rB b 1 e d (-1)))=R:=by decide +kernel
theorem abL:(q3.all λd=>q9.all λb=>q9.all λe=>nv [b,1,1] [e,d,0,1] (rB b 1 e d 0))=R:=by decide +kernel
theorem abM:(q3.all λd=>q9.all λb=>q9.all λe=>nv [b,1,1] [e,d,1,1] (rB b 1 e d 1))=R:=by decide +kernel
theorem aeB:(q3.all λb=>q9.all λa=>q9.all λd=>nv [a,(-1),1] [d,b*(-1),(-1)*(-1)+b,2*(-1),1] (Hv a d b*Hv a d b))=R:=by decide +kernel
theorem aeC:(q3.all λb=>q9.all λa=>q9.all λd=>nv [a,0,1] [d,b*0,0*0+b,2*0,1] (Hv a d b*Hv a d b))=R:=by decide +kernel
theorem aeD:(q3.all λb=>q9.all λa=>q9.all λd=>nv [a,1,1] [d,b*1,1*1+b,2*1,1] (Hv a d b*Hv a d b))=R:=by decide +kernel
end Mine.Internal
end
section
open PySem
namespace Mine.Internal
theorem XY(k:a_):∀ A:ZP,Ym k A=rL k A:=λw'=>by induction w' with|nil=>exact X|cons p A ih=>
  dsimp only[Ym,rL];refine J ih ?_;by_cases h:p.1=k
  .exact J (ai h) (J h (J (JA _) X))
  .exact J (ak h) (J (KX h) X)
theorem PL:∀{A:ZP},rL k A=f c->oG x y A=c*x^(k/16%16)*y^(k%16)+oG x y (oB k A):=by intro w';induction w' with|nil=>intro h;exact nS h|cons p A ih=>
  intro h;dsimp only[rL]at h;by_cases e:p.1=k
  .rw[ai e]at h;obtain rfl:=aw h;clear ih;subst e;dsimp only[oG,oB];exact J (JA _) X
  .rw[ak e]at h;dsimp only[oG,oB,KX e,ih h];refine J (KX e) (J (ih h) ?_);dsimp only[oG,oB,KX e,ih h];lia
theorem PM:∀(S A:ZP),AG A S=R->oG x y A=oG x y S:=λw'=>by induction w' with|nil=>(intro z1;cases z1 with|nil=>intro O;exact X|cons O O=>intro h;exact fT h)|cons p S ih=>
  intro A h;have h':(match zg p.2 with|R=>AG A S|N'=>match Ym p.1 A with|V=>N'|f c=>match zg (Yi c p.2) with|R=>AG (oB p.1 A) S|N'=>N')=R:=by cases A<;>exact h
  revert h';cases h0:zg p.2 with|true=>intro h';rw[fz,jQ]at h0;refine J (ih A h') ?_;dsimp only[oG];simp only[h0,Int.zero_mul,UG]|false=>cases U':Ym p.1 A with|none=>exact λh'=>fT h'|some c=>dsimp only;cases he:zg (Yi c p.2) with|true=>intro h';rw[fz,Hr,jQ]at he;rw[XY]at U';refine J (PL U') (J (ih _ h') (J (by lia:c=p.2) ?_));rfl|false=>exact λh'=>fT h'
theorem SU:∀{A:ZP},XW A=R->∀ k∈A,k.1<256:=by intro w';induction w' with|nil=>intro O k h;exact g_ h fH|cons p A ih=>
  intro h k hk;revert h;refine qW (λhp h=>?_);rcases aT.mp hk with eE|hk
  .clear hk;subst eE;exact iC hp
  .exact ih h k hk
theorem wd(h:jH p q hi S=R):∃ e,Al (jM p) (kJ q)=f [e]/\e.l=16*hi/\e.b<=1000/\(∀ k∈e.p,k.1<256)/\∀ x y,oG x y e.p=oG x y S:=by
 dsimp only[jH]at h;revert h;rcases he:Al (jM p) (kJ q) with _|_|⟨e,_|⟨_,_⟩⟩<;>intro h<;>first|exact fT h|skip
 revert h;refine qW (λY=>qW (λL=>qW (λh3 h=>?_)));exact YM e X (wj Y) (iC L) (SU h3) (λx y=>PM S e.p h)
theorem we(h:nv p q r=R):Lk p q=f r:=by revert h;refine Qt (λv hv h=>?_);rw[fz,Hr,jQ]at h;refine J hv ?_;congr 1;lia
theorem ay{l:aA}{K':G->e_}(h:l.all K'=R){x:G}(hx:x∈l):K' x=R:=mG.mp h x hx
theorem vO:x∈q3↔x = -1\/x=0\/x=1:=by(dsimp only[q3];simp)
theorem bd3(h:x∈q3) : -1<=x/\x<=1:=by rcases vO.mp h with rfl|rfl|rfl<;>decide
theorem aeE(Y : -4<=x)(L:x<=4):x∈q9:=by dsimp only[q9];simp only[aT,fH,or_false];lia
theorem eA3{a e d c:G}(B:a∈q3)(he:e∈q3)(hd:d∈q3)(U':c∈q3):jH [a,1] [e,d,c,1] 3 (SA3 a e d c)=R:=by
 rcases vO.mp B with rfl|rfl|rfl
 .exact ay (ay (ay abf he) hd) U'
 .exact ay (ay (ay abg he) hd) U'
 .exact ay (ay (ay abh he) hd) U'
theorem eB{ha a e d c:G}(hB:ha∈q3)(B:a∈q3)(he:e∈q3)(hd:d∈q3)(U':c∈q3):jH [ha,a,1] [e,d,c,1] 3 (SB ha a e d c)=R:=by
 rcases vO.mp hB with rfl|rfl|rfl<;>rcases vO.mp B with rfl|rfl|rfl
 .exact ay (ay (ay abi he) hd) U'
 .exact ay (ay (ay abj he) hd) U'
 .exact ay (ay (ay abk he) hd) U'
 .exact ay (ay (ay abl he) hd) U'
 .exact ay (ay (ay abm he) hd) U'
 .exact ay (ay (ay abn he) hd) U'
 .exact ay (ay (ay abo he) hd) U'
 .exact ay (ay (ay abp he) hd) U'
 .exact ay (ay (ay abq he) hd) U'
theorem eC{a c d b:G}(B:a∈q3)(U':c∈q3)(hd:d∈q3)(hb:b∈q3):jH [a,c,1] [d,b*c,c*c+b,2*c,1] 2 (Lw a d b)=R:=by
 rcases vO.mp B with rfl|rfl|rfl<;>rcases vO.mp U' with rfl|rfl|rfl
 .exact ay (ay abr hd) hb
 .exact ay (ay abt hd) hb
 .exact ay (ay abu hd) hb
 .exact ay (ay abv hd) hb
 .exact ay (ay abw hd) hb
 .exact ay (ay abx hd) hb
 .exact ay (ay aby hd) hb
 .exact ay (ay abz hd) hb
 .exact ay (ay abA hd) hb
theorem aeF{a e d c:G}(B:a∈q9)(he:e∈q9)(hd:d∈q3)(U':c∈q3):nv [a,1] [e,d,c,1] (XX a e d c)=R:=by
 rcases vO.mp U' with rfl|rfl|rfl
 .exact ay (ay (ay abB hd) B) he
 .exact ay (ay (ay abC hd) B) he
 .exact ay (ay (ay abD hd) B) he
theorem rB'{b a e d c:G}(hb:b∈q9)(B:a∈q3)(he:e∈q9)(hd:d∈q3)(U':c∈q3):nv [b,a,1] [e,d,c,1] (rB b a e d c)=R:=by
 rcases vO.mp B with rfl|rfl|rfl<;>rcases vO.mp U' with rfl|rfl|rfl
 .exact ay (ay (ay abE hd) hb) he
 .exact ay (ay (ay abF hd) hb) he
 .exact ay (ay (ay abG hd) hb) he
 .exact ay (ay (ay abH hd) hb) he
 .exact ay (ay (ay abI hd) hb) he
 .exact ay (ay (ay abJ hd) hb) he
 .exact ay (ay (ay abK hd) hb) he
 .exact ay (ay (ay abL hd) hb) he
 .exact ay (ay (ay abM hd) hb) he
theorem rC'{a d b c:G}(B:a∈q9)(hd:d∈q9)(hb:b∈q3)(U':c∈q3):nv [a,c,1] [d,b*c,c*c+b,2*c,1] (Hv a d b*Hv a d b)=R:=by
 rcases vO.mp U' with rfl|rfl|rfl
 .exact ay (ay (ay aeB hb) B) hd
 .exact ay (ay (ay aeC hb) B) hd
 .exact ay (ay (ay aeD hb) B) hd
theorem Lx(l:aA):cQ (l++[1])=l++[1]:=J (ym _ _) (J (ak (by decide)) X)
theorem l9(a x:G)(l:aA):cQ (gd (a::(l++[1])) ((if x≠0 then [x] else []).map λz=>-z))=(a-x)::(l++[1]):=by
 have:gd (a::(l++[1])) ((if x≠0 then [x] else []).map λz=>-z)=(a-x)::(l++[1]):=by
  by_cases h:x=0
  .subst h;exact J (ak (by decide)) (J mI (J (yn _) (J (Int.sub_zero _) X)))
  .refine J (ai h) ?_;show(a+-x)::gd (l++[1]) []=_;exact J (yn _) X
 exact J this (Lx ((a-x)::l))
theorem n2(h:n.natAbs<=2):n = -2\/n = -1\/n=0\/n=1\/n=2:=by lia
theorem aeG(h:n.natAbs<=2):n∈[(-2:G),-1,0,1,2]:=by rcases n2 h with rfl|rfl|rfl|rfl|rfl<;>decide
def PN(p q:aA)(T:G->G->G):e_:=p.all (λc=>decide (c.natAbs<=2))&&(q.all (λc=>decide (c.natAbs<=2))&&[(-2:G),-1,0,1,2].all λn=>decide (T (oF n p) (oF n q)=0)&&(decide ((oF n p).natAbs<=60)&&decide ((oF n q).natAbs<=60)))
theorem wg{T:G->G->G}(h:PN p q T=R):(∀ c∈p,c.natAbs<=2)/\(∀ c∈q,c.natAbs<=2)/\(∀ n:G,n.natAbs<=2->T (oF n p) (oF n q)=0)/\∀ n:G,n.natAbs<=2->(oF n p).natAbs<=60/\(oF n q).natAbs<=60:=by have a:=(jb _ _).mp h;have b:=(jb _ _).mp a.2;have k:=λ(n:G) (hn:n.natAbs<=2)=>(jb _ _).mp (mG.mp b.2 n (aeG hn));exact⟨λc U'=>dW (mG.mp a.1 c U'),λc U'=>dW (mG.mp b.1 c U'),λn hn=>dW (k n hn).1,λn hn=>((jb _ _).mp (k n hn).2).imp dW dW⟩
theorem gA2:(q3.all λa=>q3.all λd=>q3.all λb=>PN [a,1] [d,b,1] λx y=>Hv (a-x) (d-y) b)=R:=by decide +kernel
theorem gA3:(q3.all λa=>q3.all λe=>q3.all λd=>q3.all λc=>PN [a,1] [e,d,c,1] λx y=>XX (a-x) (e-y) d c)=R:=by decide +kernel
theorem gB:(q3.all λb=>q3.all λa=>q3.all λe=>q3.all λd=>q3.all λc=>PN [b,a,1] [e,d,c,1] λx y=>-(rB (b-x) a (e-y) d c))=R:=by decide +kernel
theorem gC:(q3.all λa=>q3.all λd=>q3.all λb=>q3.all λc=>PN [a,c,1] [d,b*c,c*c+b,2*c,1] λx y=>Hv (a-x) (d-y) b)=R:=by decide +kernel
theorem m9(B:a∈q3)(hx:x.natAbs<=3):a-x∈q9:=by
 have:=bd3 B
 exact aeE (by lia) (by lia)
theorem SV{a d b:G}(B:a∈q3)(hd:d∈q3)(hb:b∈q3):∃ e,Good [a,1] [d,b,1] 2 1 e (λx y=>Hv (a-x) (d-y) b):=by
 refine zI (wd (ay (ay (ay EA2 B) hd) hb)) λw Y L h3 h4 h5=>jh (wg (ay (ay (ay gA2 B) hd) hb)) λk1 k2 k3 k4=>⟨w,Y,L,by decide,.inl X,h3,h4,λx y=>?_,by simp,by simp,k1,k2,k3,k4,λx y hx hy=>?_⟩
 .refine J (h5 _ _) ?_;dsimp only[oG,Lw,Hv];simp;grind
 .refine J (l9 a x []) (J (l9 d y [b]) (J (we (ay (ay (ay RA2 hb) (m9 B hx)) (m9 hd hy))) ?_));simp[Qo]
theorem SW{a e d c:G}(B:a∈q3)(he:e∈q3)(hd:d∈q3)(U':c∈q3):∃ w,Good [a,1] [e,d,c,1] 3 1 w (λx y=>XX (a-x) (e-y) d c):=by
 refine zI (wd (eA3 B he hd U')) λw Y L h3 h4 h5=>jh (wg (ay (ay (ay (ay gA3 B) he) hd) U')) λk1 k2 k3 k4=>⟨w,Y,L,by decide,.inl X,h3,h4,λx y=>?_,by simp,by simp,k1,k2,k3,k4,λx y hx hy=>?_⟩
 .refine J (h5 _ _) ?_;dsimp only[oG,SA3,XX];simp;grind
 .refine J (l9 a x []) (J (l9 e y [d,c]) (J (we (aeF (m9 B hx) (m9 he hy) hd U')) ?_));simp[Qo]
theorem XZ{ha a e d c:G}(hB:ha∈q3)(B:a∈q3)(he:e∈q3)(hd:d∈q3)(U':c∈q3):∃ w,Good [ha,a,1] [e,d,c,1] 3 1 w (λx y=>-(rB (ha-x) a (e-y) d c)):=by
 refine zI (wd (eB hB B he hd U')) λw Y L h3 h4 h5=>jh (wg (ay (ay (ay (ay (ay gB hB) B) he) hd) U')) λk1 k2 k3 k4=>⟨w,Y,L,by decide,.inl X,h3,h4,λx y=>?_,by simp,by simp,k1,k2,k3,k4,λx y hx hy=>?_⟩
 .refine J (h5 _ _) ?_;dsimp only[oG,SB,rB];simp;grind
 .refine J (l9 ha x [a]) (J (l9 e y [d,c]) (J (we (rB' (m9 hB hx) B (m9 he hy) hd U')) ?_));simp[Qo]
theorem X0{a d b c:G}(B:a∈q3)(hd:d∈q3)(hb:b∈q3)(U':c∈q3):∃ w,Good [a,c,1] [d,b*c,c*c+b,2*c,1] 2 2 w (λx y=>Hv (a-x) (d-y) b):=by
 refine zI (wd (eC B U' hd hb)) λw Y L h3 h4 h5=>jh (wg (ay (ay (ay (ay gC B) hd) hb) U')) λk1 k2 k3 k4=>⟨w,Y,L,by decide,.inr X,h3,h4,λx y=>?_,by simp,by simp,k1,k2,k3,k4,λx y hx hy=>?_⟩
 .refine J (h5 _ _) ?_;dsimp only[oG,Lw,Hv];simp;grind
 .refine J (l9 a x [c]) (J (l9 d y [b*c,c*c+b,2*c]) (J (we (rC' (m9 B hx) (m9 hd hy) hb U')) ?_));simp;grind
structure eQ(N:St)(pl q:a_)(l:aA)(k:a_):Prop where
 wf:WF N
 gp:N.getM pl=f (.list [.ref q,.int (k:G)])
 gq:N.get q=f (.list (l.map .int))
 ne:pl≠q
 ll:l.length<=13
section
variable{N T':St}{pl q k:a_}{l:aA}
theorem eQ.lt(P:eQ N pl q l k):pl<N.n/\q<N.n:=⟨P.wf.lt (fj P.gp),lz P.wf P.gq⟩
theorem eQ.ext(P:eQ N pl q l k)(x:Ext N T'):eQ T' pl q l k:=⟨x.wf,by refine J (cN (x.ent _ P.lt.1)) ?_;exact P.gp,x.get P.wf P.gq,P.ne,P.ll⟩
theorem abN(r:a_)(h:r<12):∃ v:G,([AV.int 1,.int 0,.int 1,.int 1,.int 1,.int 1,.int 0,.int 1,.int 5,.int 4,.int 3,.int 2]:al)[r]?=f (.int v)/\0<=v:=by refine⟨([1,0,1,1,1,1,0,1,5,4,3,2]:aA)[r]'h,?_,(by decide:∀ x∈([1,0,1,1,1,1,0,1,5,4,3,2]:aA),0<=x) _ (UL h)⟩;show(([1,0,1,1,1,1,0,1,5,4,3,2]:aA).map AV.int)[r]?=_;exact J mH (J (lJ h) X)
theorem qp(P:eQ N pl q l k)(hm:0<m):∃ T' v,c6 N [.ref pl,.int m]=f (T',.int v)/\0<=v/\v<m/\eQ T' pl q l (k+1)/\T'.n=N.n/\∀ i,i≠pl->T'.ent i=N.ent i:=by
 refine ky (sH P.wf P.lt.1 ⟨N',.list [.ref q,.int ((k+1:a_):G)]⟩) λT' Y L h3 h4=>?_;have hgp:T'.getM pl=f (.list [.ref q,.int ((k+1:a_):G)]):=iV (by exact J (h4 _) (J (ai X) X));have hgq:T'.get q=f (.list (l.map .int)):=J (dx (N:=N) (by rw[h4,ak (kx P.ne)])) P.gq;have Qg:(l.map AV.int).length<=lim:=by have:=P.ll;refine J (cw _) ?_;dsimp only[lim];lia
 have e2:(2:a_)<=lim:=by decide
 have JY:l.length<=lim:=by have:=P.ll;dsimp only[lim];omega
 have s1:ex dy.hd N [.ref pl,.int m,.ub]=f (N,[.ref pl,.int m,.int (k:G)],.next):=by
  have:ev (.idx bw bQ) N [.ref pl,.int m,.ub]=f (N,.int (k:G)):=by dsimp only[ev,ao,ib];simp -iota only [cX P.gp,fD,uL,e2,gv];rfl
  show ex (.assign 2 (.idx bw bQ)) N [.ref pl,.int m,.ub]=_;dsimp only[ex];refine J this ?_;rfl
 have s2:ex dy.tl.hd N [.ref pl,.int m,.int (k:G)]=f (T',[.ref pl,.int m,.int (k:G)],.next):=by
  have hs:uS N pl (.int 1) (.int ((k:G)+1))=f T':=by show(match N.getM pl with|f (.list Z)=>if 1<Z.length/\Z.length<=lim then N.set pl (.list (Z.set 1 (.int ((k:G)+1)))) else .none|f (.dict O)=>V|V=>V)=_;refine J P.gp ?_;simp only[fD,uL];exact J (ai ⟨by decide,e2⟩) Y
  show ex (.dd 0 bQ (.bin .add cJ bQ)) N [.ref pl,.int m,.int (k:G)]=_;dsimp only[ex,ev,ao,ot,cU,iR];exact J hs X
 have i0:ev (.idx bw bC) T' [.ref pl,.int m,.int (k:G)]=f (T',.ref q):=by dsimp only[ev,ao,ib];simp -iota only [cX hgp,fD,uL,e2,gv];rfl
 have i1:ev (.cmp .lt cJ (.bi .len (bx (.idx bw bC)))) T' [.ref pl,.int m,.int (k:G)]=f (T',.bool (decide ((k:G)<(l.length:G)))):=by
  have:ev (.bi .len (bx (.idx bw bC))) T' [.ref pl,.int m,.int (k:G)]=f (T',.int (l.length:G)):=by refine J Iv (J pX (J i0 ?_));dsimp only[ev,jd];simp only[hgq,JY,gv,cw]
  refine J Nn ?_;dsimp only[ev,ao]at this ⊢;refine J this ?_;rfl
 have P':eQ T' pl q l (k+1):=⟨L,hgp,hgq,P.ne,P.ll⟩;have fin:∀ v:G,0<=v.fmod m/\v.fmod m<m:=λv=>by exact J (Qk _ (by lia)) ⟨Int.emod_nonneg _ (by lia),Int.emod_lt_of_pos _ hm⟩
 have run:∀ v:G,ex dy.tl.tl T' [.ref pl,.int m,.int (k:G)]=f (T',[.ref pl,.int m,.int (k:G)],.ret (.int (v.fmod m)))->c6 N [.ref pl,.int m]=f (T',.int (v.fmod m)):=λv h=>by
  have:ex dy N [.ref pl,.int m,.ub]=f (T',[.ref pl,.int m,.int (k:G)],.ret (.int (v.fmod m))):=by show ex (.seq dy.hd (.seq dy.tl.hd dy.tl.tl)) N [.ref pl,.int m,.ub]=_;refine J sr (J s1 ?_);simp only;dsimp only[ex];refine J s2 ?_;exact h
  show(match ex dy N [.ref pl,.int m,.ub]with
   |f (s1,O,.ret v)=>f (s1,v)
   |f (s1,O,.next)=>f (s1,.none)
   |_=>V)=_
  exact J this X
 have PO:∀(e:CE) (v:G),ev e T' [.ref pl,.int m,.int (k:G)]=f (T',.int v)->ev (.bin .mod e aS) T' [.ref pl,.int m,.int (k:G)]=f (T',.int (v.fmod m)):=λe v h=>by dsimp only[ev];refine J h ?_;dsimp only[ev,ao,ot,cU];exact J (ak (by omega)) X
 have abP:∀{t:CE} {a b hc:CS} {g:e_},ev t T' [.ref pl,.int m,.int (k:G)]=f (T',.bool g)->ex (.seq (.iff t a b) hc) T' [.ref pl,.int m,.int (k:G)]=(match (bif g then ex a T' [.ref pl,.int m,.int (k:G)] else ex b T' [.ref pl,.int m,.int (k:G)]) with|f (s1,k9,.next)=>ex hc s1 k9|r=>r):=fun {t a b hc g} h=>by cases g<;>(dsimp only[ex];simp -iota only [h,CQ,HK])<;>rfl
 by_cases hk:k<l.length
 .have hx:l[k]?=f l[k]:=lJ hk
  have i2:ev (.bi .abs (bx (.idx (.idx bw bC) cJ))) T' [.ref pl,.int m,.int (k:G)]=f (T',.int (if l[k]<0 then -l[k] else l[k])):=by
   have:ev (.idx (.idx bw bC) cJ) T' [.ref pl,.int m,.int (k:G)]=f (T',.int l[k]):=by refine J xa (J i0 ?_);dsimp only[ev,ao,ib];(simp -iota only [hgq,Qg,gv];dsimp only[hgq,Qg,if_true];simp -iota only [hgq,Qg,gv]);show(match (match (l.map AV.int)[k]? with|r=>r) with|f z=>f (T',z)|V=>V)=_;refine J mH ?_;refine J hx ?_;rfl
   refine J Iv (J pX (J this ?_));rfl
  refine Ia T' _ (run (if l[k]<0 then -l[k] else l[k]) ?_) ((fin _).1) ((fin _).2) P' h3 (λi hi=>by exact J (h4 _) (J (ak hi) X));show ex (.seq (.iff (.cmp .lt cJ (.bi .len (bx (.idx bw bC)))) (.seq (.ret (.bin .mod (.bi .abs (bx (.idx (.idx bw bC) cJ))) aS)) .skip) .skip) dy.tl.tl.tl) T' _=_;exact J (abP i1) (J (bP (by omega)) (J (CQ _ _) (J sr (J Dx (J (PO _ _ i2) X)))))
 .have hr:k%12<12:=uG _ (by decide);refine ah (abN (k%12) hr) λv hv O=>?_
  have i2:ev (.idx (.bc (.cons bQ (.cons bC (.cons bQ (.cons bQ (.cons bQ (.cons bQ (.cons bC (.cons bQ (Sa zI5 zI4 BP nx)))))))))) (.bin .mod cJ R9)) T' [.ref pl,.int m,.int (k:G)]=f (T',.int v):=by
   have i3:ev (.bin .mod cJ R9) T' [.ref pl,.int m,.int (k:G)]=f (T',.int ((k%12:a_):G)):=by dsimp only[ev,ao,ot,cU];exact J (ak (by decide)) (J (show(k:G).fmod 12=((k%12:a_):G) from E7 k 12) X)
   have i4:ev (.bc (.cons bQ (.cons bC (.cons bQ (.cons bQ (.cons bQ (.cons bQ (.cons bC (.cons bQ (Sa zI5 zI4 BP nx)))))))))) T' [.ref pl,.int m,.int (k:G)]=f (T',.tup [.int 1,.int 0,.int 1,.int 1,.int 1,.int 1,.int 0,.int 1,.int 5,.int 4,.int 3,.int 2]):=X;refine J xa (J i4 ?_);(dsimp only;refine J i3 ?_;try dsimp only);show(match (if 12<=lim then([AV.int 1,.int 0,.int 1,.int 1,.int 1,.int 1,.int 0,.int 1,.int 5,.int 4,.int 3,.int 2]:al)[k%12]? else .none) with|f z=>f (T',z)|V=>V)=_;exact J (ai (by exact rS _ _)) (J hv X)
  refine Ia T' _ (run v ?_) ((fin _).1) ((fin _).2) P' h3 (λi hi=>by exact J (h4 _) (J (ak hi) X));show ex (.seq (.iff (.cmp .lt cJ (.bi .len (bx (.idx bw bC)))) (.seq (.ret (.bin .mod (.bi .abs (bx (.idx (.idx bw bC) cJ))) aS)) .skip) .skip) dy.tl.tl.tl) T' _=_;refine J (abP i1) (J (bT (by omega)) (J (HK _ _) (J J4 ?_)));simp only;show ex (.seq (.ret (.bin .mod (.idx (.bc (.cons bQ (.cons bC (.cons bQ (.cons bQ (.cons bQ (.cons bQ (.cons bC (.cons bQ (Sa zI5 zI4 BP nx)))))))))) (.bin .mod cJ R9)) aS)) .skip) T' _=_;dsimp only[ex,ex];exact J (PO _ _ i2) X
end
section
variable{N T':St}{pl q k:a_}{l:aA}
abbrev DE:CE:=.bin .sub (.call "_law_draw" c6 fc (aO bw BP)) bQ
theorem Ly:∀(Z:al) (N:St) (k:a_),eQ N pl q l k->∃(T':St) (ds:aA),q7 (one (ev DE) [2] [.ref pl,d,.ub]) Z N=f (T',ds.map AV.int)/\eQ T' pl q l (k+Z.length)/\ds.length=Z.length/\(∀ x∈ds,x∈q3)/\T'.n=N.n/\∀ i,i≠pl->T'.ent i=N.ent i:=λw'=>by induction w' with|nil=>intro N k P;exact⟨N,[],X,P,X,λO h=>g_ h fH,X,λO O=>X⟩|cons x Z ih=>
  intro N k P;refine oq (qp P (m:=3) (by decide)) λae v Y L h3 h4 h5 h6=>oq (ih ae (k+1) h4) λT' ds g1 g2 g3 g4 g5 g6=>?_
  have ho:one (ev DE) [2] [.ref pl,d,.ub] N x=f (ae,[.int (v-1)]):=by
   have:ev DE N [.ref pl,d,x]=f (ae,.int (v-1)):=by have U':ev (.call "_law_draw" c6 fc (aO bw BP)) N [.ref pl,d,x]=f (ae,.int v):=Y;refine J mP (J U' ?_);rfl
   show(match ev DE N [.ref pl,d,x]with
    |f (s4,y)=>f (s4,[y])
    |V=>V)=_
   exact J this X
  refine Ia T' ((v-1)::ds) ?_ (by exact J fD (J (show k+(Z.length+1)=k+1+Z.length by lia) g2)) (by simp[g3]) (λy hy=>?_) (g5.trans h5) (λi hi=>(g6 i hi).trans (h6 i hi))
  ·(dsimp only[q7];(refine J ho ?_;try dsimp only;refine J g1 ?_;try dsimp only));rfl
  .rcases aT.mp hy with eE|hy
   .clear hy;subst eE;refine J (propext vO) ?_;lia
   .exact g4 y hy
theorem Jr(P:eQ N pl q l k){d:a_}(hd:d<=100):∃(T':St) (n:a_) (ds:aA),jE N [.ref pl,.int (d:G)]=f (T',.ref n)/\eQ T' pl q l (k+d)/\ds.length=d/\(∀ x∈ds,x∈q3)/\T'.get n=f (.list ((ds++[1]).map .int))/\N.n<=n/\N.n<=T'.n/\∀ i,i<N.n->i≠pl->T'.ent i=N.ent i:=by
 have hr:(gY (d:G)).length=d:=by unfold gY;exact J (cw _) (J List.length_range X)
 refine oq (Ly (d:=.int (d:G)) (gY (d:G)) N k P) λae ds g1 g2 g3 g4 g5 g6=>?_;rw[hr]at g2 g3;refine ky (iW g2.wf (.list (ds.map .int))) λaq a1 a2 a3 a4=>?_;refine ky (iW a2 (.list [.int 1])) λbo b1 b2 b3 b4=>?_;refine ky (iW b2 (.list ((ds++[1]).map .int))) λiy c1 c2 c3 c4=>?_;have E2:Ext ae aq:=⟨a2,by lia,λi hi=>by exact J (a4 _) (J (ak (by lia)) X)⟩;have E3:Ext aq bo:=⟨b2,by lia,λi hi=>by exact J (b4 _) (J (ak (by lia)) X)⟩;have E4:Ext bo iy:=⟨c2,by lia,λi hi=>by exact J (c4 _) (J (ak (by lia)) X)⟩
 have t1:ev (.bq DE [2] .range aS) N [.ref pl,.int (d:G),.ub]=f (aq,.ref ae.n):=by
  show lU (f (N,.int (d:G))) .range (one (ev DE) [2] [.ref pl,.int (d:G),.ub])=_;have hi:jc N .range (.int (d:G))=f (gY (d:G),.none):=by show(if 0<=(d:G)/\(d:G)<=1000000 then f (gY (d:G),Option.none) else .none)=_;exact J (ai ⟨by simp,by lia⟩) X
  dsimp only[lU];refine J hi ?_;dsimp only[j6,lR];refine J g1 ?_;dsimp only[iK];refine J (ai (by rw[cw,g3];unfold lim;lia)) ?_;dsimp only[Nl,jj];exact J a1 X
 have t2:ev (.lst (bx bQ)) aq [.ref pl,.int (d:G),.ub]=f (bo,.ref aq.n):=by show jj aq (.list [.int 1])=_;dsimp only[jj];exact J b1 X
 have t3:ev (.bin .add (.bq DE [2] .range aS) (.lst (bx bQ))) N [.ref pl,.int (d:G),.ub]=f (iy,.ref bo.n):=by refine J mP (J t1 ?_);dsimp only;refine J t2 ?_;dsimp only;have e2:bo.get aq.n=f (.list [.int 1]):=gU (e:=⟨N',.list [.int 1]⟩) (by exact J (b4 _) (J (ai X) X));dsimp only[ot];refine J (E3.get a2 (gU (e:=⟨N',.list (ds.map .int)⟩) (by exact J (a4 _) (J (ai X) X)))) (J e2 ?_);dsimp only;refine J (ai ⟨by rw[cw,g3];unfold lim;omega,by decide⟩) ?_;refine J (show Gq AV.int ds++[AV.int 1]=(ds++[1]).map .int by simp) ?_;exact J c1 X
 refine⟨iy,bo.n,ds,?_,((g2.ext E2).ext E3).ext E4,g3,g4,gU (e:=⟨N',.list ((ds++[1]).map .int)⟩) (by exact J (c4 _) (J (ai X) X)),by lia,by lia,λi hi d9=>?_⟩
 .have:ex nY N [.ref pl,.int (d:G),.ub]=f (iy,[.ref pl,.int (d:G),.ub],.ret (.ref bo.n)):=by show ex (.seq (.ret (.bin .add (.bq DE [2] .range aS) (.lst (bx bQ)))) .skip) N _=_;exact J sr (J Dx (J t3 X))
  show(match ex nY N [.ref pl,.int (d:G),.ub]with
   |f (s1,O,.ret v)=>f (s1,v)
   |f (s1,O,.next)=>f (s1,.none)
   |_=>V)=_
  exact J this X
 .exact J (E4.ent i (by lia)) (J (E3.ent i (by lia)) (J (E2.ent i (by lia)) (J (g6 i d9) X)))
noncomputable def Js:St:=⟨0,.nil⟩
theorem wf0:WF Js:=⟨λi O=>X,λi h=>g_ h (L4 _)⟩
noncomputable abbrev pad2 (a b:AV):al:=[a,b,.ub,.ub,.ub,.ub,.ub,.ub,.ub,.ub,.ub,.ub,.ub,.ub,.ub,.ub,.ub,.ub]
theorem l_1(hx:Z.length<=lim):∃ N pl q,ex OK Js (pad2 (.fv Z) .ub)=f (N,pad2 (.fv Z) (.ref pl),.next)/\eQ N pl q (Z.take 13) 0:=by
 refine YK λGq kq=>ky (iW wf0 (.list ((Z.take 13).map .int))) λae a1 a2 a3 a4=>?_;have E1:Ext Js ae:=⟨a2,by exact rS _ _,λi hi=>g_ hi (L4 _)⟩;have hg:ae.get 0=f (.list ((Z.take 13).map .int)):=gU (e:=⟨N',.list ((Z.take 13).map .int)⟩) (by exact J (a4 _) X);have aeH:(Z.take 13).length<=13:=by refine J UN ?_;lia
 have t1:ev (.gJ bw KJ) Js (pad2 (.fv Z) .ub)=f (ae,.ref 0):=by show(if Z.length<=lim then match Js.push (.list ((Z.take 13).map .int)) with|f s'=>f (s',AV.ref 0)|V=>V else .none)=_;exact J (ai hx) (J a1 X)
 have V1:VR (view (λO=>N') ae) (il (Z.take 13)) (.ref 0):=VR.list (dw X hg) (by
  have:=bZ.bs (W:=view (λO=>N') ae) ((Z.take 13).map .int)
  rw[fE]at this
  exact this)
 have Yl:tw (λO=>N') Js:=λn h=>by exact fT h
 have pe:rn (f (il (Z.take 13))) .plain (D4 (ax (.bi .int (bx Ej))) [15] ([.any,.any,.any,.any,.any,.any,.any,.any,.any,.any,.any,.any,.any,.any,.any,.any,.any,.any]:aC))=f (il (Z.take 13)):=by refine bH (iv:=il (Z.take 13)) (Xs:=(Z.take 13).map M') X X ?_ (by refine J (i8 _) ?_;dsimp only[lim];lia);exact eP (K':=M') (w:=M') (Z.take 13) λx hx=>fA X
 obtain⟨aq,z,Y,L,h3,h4⟩:=sJ (hc:=.none) (iv:=.none) (r:=.none) (K':=one (ev (.bi .int (bx Ej))) [15] (pad2 (.fv Z) .ub)) E1 Yl V1
  (λc7 w1 w2 w3 aq aj x Ys x2 rx ex=>Gm (jw (.bi .int (bx Ej)) ⟨Z',Z'⟩) x2.wf (λn h=>by exact fT h) (by
   refine⟨fB 18,λi O=>?_⟩
   have:bf ([.any,.any,.any,.any,.any,.any,.any,.any,.any,.any,.any,.any,.any,.any,.any,.any,.any,.any]:aC) i=.any:=xC 18 i
   exact J this VR.any) rx ex) pe
 obtain⟨q,ys,iA,hq1,Ye,hq3⟩:=h4 X;clear h3 h4;subst iA
 have hys:ys=(Z.take 13).map .int:=hq3.allB (by
  have:(Z.take 13).map M'=((Z.take 13).map AV.int).map .b:=J fE X
  exact J this (J (i7 _) X))
 clear hq3;subst hys;refine ky (iW L.wf (.list [.ref q,.int 0])) λbo c1 c2 c3 c4=>?_;have E3:Ext aq bo:=⟨c2,by lia,λi hi=>by exact J (c4 _) (J (ak (by lia)) X)⟩;have aiv:=L.wf.lt (fj Ye);refine kq bo aq.n q ?_ ⟨c2,iV (by exact J (c4 _) (J (ai X) X)),E3.get L.wf (cX Ye),by exact rU ‹_›,aeH⟩;have t2:ev (.bq (.bi .int (bx Ej)) [15] .plain (.gJ bw KJ)) Js (pad2 (.fv Z) .ub)=f (aq,.ref q):=by exact J FP (J t1 Y)
 have t3:ev (.lst (aO (.bq (.bi .int (bx Ej)) [15] .plain (.gJ bw KJ)) bC)) Js (pad2 (.fv Z) .ub)=f (bo,.ref aq.n):=by
  have t4:ev (aO (.bq (.bi .int (bx Ej)) [15] .plain (.gJ bw KJ)) bC) Js (pad2 (.fv Z) .ub)=f (aq,.tup [.ref q,.int 0]):=by exact J pX (J t2 X)
  refine J Np (J t4 ?_);dsimp only[jj];exact J c1 X
 show ex (.assign 1 (.lst (aO (.bq (.bi .int (bx Ej)) [15] .plain (.gJ bw KJ)) bC))) Js _=_;dsimp only[ex];refine J t3 ?_;rfl
end
section
variable{N T':St}{pl q k:a_}{l:aA}{C:al}{M eT:aC}
abbrev Dr(m:G):CE:=.call "_law_draw" c6 fc (aO aS (.k (.int m)))
theorem td(h:ao C 1=.ref pl)(m:G):ev (Dr m) N C=c6 N [.ref pl,.int m]:=by dsimp only[ev];exact J h X
theorem Cu(B:ev a N C=f (ae,u))(hb:ev b ae C=f (aq,v)):ex (.bj [i,j] (.bc (aO a b))) N C=f (aq,aE (aE C i u) j v,.next):=by
 have U':ev (bx b) ae C=f (aq,.tup [v]):=by(dsimp only[ev];refine J hb ?_);rfl
 have hd:ev (aO a b) N C=f (aq,.tup [u,v]):=by refine J pX (J B ?_);simp only[U']
 have ht:ev (.bc (aO a b)) N C=f (aq,.tup [u,v]):=J J3 (J hd X);dsimp only[ex];refine J ht ?_;rfl
noncomputable abbrev Xp (pl q:a_):a_->e_:=λn=>n==pl||n==q
structure Lz(N:St)(C:al)(pl q:a_)(l:aA)(k:a_)(M:aC):Prop where
 P:eQ N pl q l k
 F:FR [] N (Xp pl q) (Xp pl q) C M
 s1:ao C 1=.ref pl
theorem FR.mk0{aj:jS}(hl:M.length<=C.length)(hk:tw aj N)(h:∀ i,VR (view aj N) (bf M i) (ao C i)):FR [] N aj aj C M where
 len:=hl
 xh:=λO h=>h
 hk:=hk
 pl:=λi O=>h i
 ow:=λi h=>by exact fT h
 ap:=λi j n h=>by exact fT h
theorem Lz.step(S:Lz N C pl q l k M)(K:fg KC c)(B:asg 1 c=N')(e:aD [] c M=f (eT,.next)):∃ T' bh,ex c N C=f (T',bh,.next)/\Lz T' bh pl q l k eT:=by
 refine ff (pd [] c K N _ _ C M eT .next 0 S.P.wf S.F (λn h=>.inl h) (jP _) e) λT' bh g H' Y x r=>?_;have hg:g=.next:=by(clear Y;cases g)<;>first|rfl|exact r.elim
 clear r;subst hg;have hx:(Xp pl q) pl=R:=by(dsimp only[Xp];simp)
 have hy:(Xp pl q) q=R:=by(dsimp only[Xp];simp)
 refine⟨T',bh,Y,⟨x.wf,by refine J (cN (x.kp _ S.P.lt.1 (.inr hx))) ?_;exact S.P.gp,by refine J (dx (x.kp _ S.P.lt.2 (.inr hy))) ?_;exact S.P.gq,S.P.ne,S.P.ll⟩,?_,(pf c B _ _ _ _ _ Y).trans S.s1⟩;refine FR.mk0 x.fr.len (λn h=>x.fr.hk n (x.fr.xh n h)) λi=>(x.fr.pl i X).mono λn o e=>?_;obtain⟨q1,q2⟩:=aF e;refine dw ?_ q2;cases hh:Xp pl q n with|false=>rfl|true=>rw[x.fr.xh n hh]at q1;exact tF q1
theorem Lz.k1(S:Lz N C pl q l k M)(hl:M.length=18):∃ T' bh x y,ex GQ N C=f (T',bh,.next)/\Lz T' bh pl q l (k+2) (bM (bM M 13 (M' x)) 14 (M' y))/\x.natAbs<=3/\y.natAbs<=3:=by
 refine oq (qp S.P (m:=7) (by decide)) λae v a1 a2 a3 a4 a5 a6=>oq (qp a4 (m:=7) (by decide)) λaq w b1 b2 b3 b4 b5 b6=>?_;have hx:(Xp pl q) pl=R:=by(dsimp only[Xp];simp)
 have e1:ev (.bin .sub (Dr 7) BP) N C=f (ae,.int (v-3)):=J mP (J (td S.s1 _) (J a1 X));have e2:ev (.bin .sub (Dr 7) BP) ae C=f (aq,.int (w-3)):=J mP (J (td S.s1 _) (J b1 X));have F1:=S.F.outside S.P.wf hx b4.wf (by lia) (λi O d9=>(b6 i d9).trans (a6 i d9));have F2:=(F1.ig (i:=13) X (VR.b (.int (v-3)))).ig (i:=14) X (VR.b (.int (w-3)));exact Tt aq _ (v-3) (w-3) (Cu e1 e2) ⟨b4,F2,by exact J (bk _ _ _ _) (J (ak (by decide)) (J (bk _ _ _ _) (J (ak (by decide)) S.s1)))⟩ (by lia) (by lia)
end
section
variable{N T':St}{pl qq k:a_}{l:aA}{C:al}{b2 b3 b4 b5 du x0 y0:PV}{lo ny mE c:G}{p q:aA}{hi mn:a_}{e:ZE}{TF:G->G->G}
theorem aeI:fg KC uq:=by(dsimp only[uq,fg,bO];simp only[Ez,lO])
theorem aeJ:fg KC xT:=by(dsimp only[xT,fg,bO];simp only[Cf,Cg,lO])
theorem aeK:fg KC xU:=by(dsimp only[xU,fg,bO];simp only[ix,lO])
theorem aeL:fg KC xV:=by(dsimp only[xV,fg,bO];simp only[lO])
theorem aeM:fg KC xW:=by(dsimp only[xW,fg,bO];simp only[lO])
theorem abQ:fg KC sR:=by(dsimp only[sR,fg,bO];simp only[sU,Xb,lO])
theorem abR:fg KC sS:=by(dsimp only[sS,fg,bO];simp only[n9,lO])
theorem aeN:fg KC xX:=by(dsimp only[xX,fg,bO];simp only[sU,lO])
theorem aeO:fg KC xY:=by(dsimp only[xY,fg,bO];simp only[Ci,Je,lO])
theorem hY(h:ex a N C=f (ae,vi,.next)):ex (.seq a b) N C=ex b ae vi:=by dsimp only[ex];exact J h X
theorem Jt(Y':Good p q hi mn e TF)(S:Lz N C pl qq l k (LW b2 (dP e) (M' (sgn p q)) b5 lo ny (mn:G) c p q du x0 y0))(i:G):∃ T' bh du' x' y',ox (ex ON) [5] (.int i) N C=f (T',bh,.next)/\Lz T' bh pl qq l (k+2) (LW b2 (dP e) (M' (sgn p q)) (M' i) lo ny (mn:G) c p q du' x' y'):=by refine Mr λGq kq=>?_;refine ia λGq zq=>wC ((⟨S.P,S.F.ig (i:=5) X (VR.b (.int i)),by exact J (bk _ _ _ _) (J (ak (by decide)) S.s1)⟩:Lz N (aE C 5 (.int i)) pl qq l k (LW b2 (dP e) (M' (sgn p q)) (M' i) lo ny (mn:G) c p q du x0 y0)).k1 X) λae vi x y Y S2 hx hy=>?_;replace S2:Lz ae vi pl qq l (k+2) (LW b2 (dP e) (M' (sgn p q)) (M' i) lo ny (mn:G) c p q du (M' x) (M' y)):=S2;refine eD (S2.step aeN X (k_2 Y' hx hy)) λaq xB L S3=>eD (S3.step aeO X (k_3 Y' hx hy)) λbo abS h3 S4=>?_;refine zq ?_;clear zq;refine kq bo abS _ _ _ ?_ S4;show ex (.seq GQ (.seq xX (.seq xY .skip))) N (aE C 5 (.int i))=_;refine J (hY Y) (J (hY L) (J (hY h3) ?_));rfl
theorem aeP(Y':Good p q hi mn e TF)(S:Lz N C pl qq l k (LW b2 (dP e) (M' (sgn p q)) b5 lo ny (mn:G) c p q du x0 y0)):∃ T' bh,ex Cc N C=f (T',bh,.next):=by refine C2 λGq kq=>?_;refine wD (Jt Y' S 0) λae vi O O O Y S1=>?_;refine wD (Jt Y' S1 1) λaq xB O O O L S2=>?_;refine kq aq xB ?_;have hi:jc N .range (.int 2)=f ([.int 0,.int 1],.none):=X;show J1 (f (N,.int 2)) .range (ox (ex ON) [5]) C=_;dsimp only[J1];refine J hi ?_;dsimp only[j6,lR,lT];refine J Y ?_;dsimp only;refine J L ?_;rfl
theorem SX(Y':Good p q hi mn e TF)(S:Lz N C pl qq l k (LW b2 b3 b4 b5 lo (hi:G) (mn:G) c p q du x0 y0)):∃ T' bh,ex (.seq xT (.seq xU (.seq xV (.seq xW (.seq sR (.seq sS (.seq Cc (.seq I8 .skip)))))))) N C=f (T',bh,.ret (.bool R)):=by refine C2 λGq kq=>ia λGq zq=>?_;refine eD (S.step aeJ X (l_6 Y')) λO O h6 S6=>?_;refine eD (S6.step aeK X (l_7 Y')) λO O h7 S7=>?_;refine eD (S7.step aeL X l_8) λO O h8 S8=>?_;refine eD (S8.step aeM X (l_9 Y')) λO O h9 S9=>?_;refine eD (S9.step abQ X (aez Y')) λO O h10 S10=>?_;refine eD (S10.step abR X (aeA Y')) λO O h11 S11=>?_;refine gx (aeP Y' S11) λT' bh h12=>?_;refine zq ?_;clear zq;refine kq T' bh ?_;simp only[hY h6,hY h7,hY h8,hY h9,hY h10,hY h11,hY h12];rfl
end
end Mine.Internal
end
section
open PySem PySem.Calls PySem.W PyProof.Rows
namespace Mine.Internal
def E9(p:Arguments)(ps:d_ o_):e_:=p.posonlyargs.isEmpty&&decide (p.args.map (·.arg)=ps)&&p.vararg.isNone&&p.kwonlyargs.isEmpty&&p.kwarg.isNone&&p.defaults.isEmpty
def PQ(x:o_ × CS × d_ o_ × SC)(d:DefRec):e_:=decide (d.name=x.1)&&(E9 d.params x.2.2.1&&(DZ d.scope.names x.2.2.1 x.2.2.2&&(sD x.2.1 d.scope.names x.2.2.2 (.inr d.body)&&(decide (d.scope.kind=.function)&&(!d.scope.isCoroutine&&!d.scope.isGenerator)))))
theorem abT{α:Type _}{l:d_ α}{n:a_}(h:l.length=n+1):∃ a r,l=a::r/\r.length=n:=by cases l with|nil=>(cases h)|cons a r=>exact⟨a,r,X,L5 h⟩
theorem SY{α:Type _}{l:d_ α}(h:l.length=1):∃ a,l=[a]:=List.length_eq_one_iff.mp h
theorem SZ{α:Type _}{l:d_ α}(h:l.length=2):∃ a b,l=[a,b]:=eD (abT h) λa r e k=>cz (SY k) λb q=>⟨a,b,e.trans (c8 _ q)⟩
theorem X3{α:Type _}{l:d_ α}(h:l.length=3):∃ a b c,l=[a,b,c]:=eD (abT h) λa r e k=>gx (SZ k) λb c q=>⟨a,b,c,e.trans (c8 _ q)⟩
def Cv(P:d_ o_):Prop:=∀ as:d_ Arg,as.map (·.arg)=P->∀(name:o_) (LU:d_ (af av)) (body:d_ G_) (scope:I_) (pm cd doc:aY) (M:dG),M.length=P.length->bindArgs (X_ name ⟨[],as,V,[],LU,V,[]⟩ body scope pm cd doc) ⟨M,[]⟩=pure (P.zip M)
theorem Yn{as:d_ Arg}{x:o_}{r:d_ o_}(q:as.map (·.arg)=x::r):∃ n p t,as=⟨x,n,p⟩::t/\t.map (·.arg)=r:=by cases as with|nil=>(cases q)|cons a t=>obtain⟨s,n,p⟩:=a;exact⟨n,p,t,c8 (λy=>(⟨y,n,p⟩:Arg)::t) (List.cons.inj q).1,(List.cons.inj q).2⟩
theorem LA(h:∀(name:o_) (LU:d_ (af av)) (body:d_ G_) (scope:I_) (pm cd doc:aY) (n1:af av) (p1:Pos) (a:aY),bindArgs (X_ name ⟨[],[⟨x,n1,p1⟩],V,[],LU,V,[]⟩ body scope pm cd doc) ⟨[a],[]⟩=pure [(x,a)]):Cv [x]:=by intro as q name LU body scope pm cd doc M hv;refine uR (Yn q) λn1 p1 t e1 q1=>cz (SY hv) λa e2=>J e1 (J (UO.mp q1) (J e2 ?_));exact h ..
theorem oI(h:∀(name:o_) (LU:d_ (af av)) (body:d_ G_) (scope:I_) (pm cd doc:aY) (n1 n2:af av) (p1 p2:Pos) (a b:aY),bindArgs (X_ name ⟨[],[⟨x,n1,p1⟩,⟨y,n2,p2⟩],V,[],LU,V,[]⟩ body scope pm cd doc) ⟨[a,b],[]⟩=pure [(x,a),(y,b)]):Cv [x,y]:=by intro as q name LU body scope pm cd doc M hv;refine uR (Yn q) λn1 p1 t e1 q1=>uR (Yn q1) λn2 p2 u e2 q2=>gx (SZ hv) λa b e3=>J e1 (J e2 (J (UO.mp q2) (J e3 ?_)));exact h ..
theorem LB(h:∀(name:o_) (LU:d_ (af av)) (body:d_ G_) (scope:I_) (pm cd doc:aY) (n1 n2 n3:af av) (p1 p2 p3:Pos) (a b c:aY),bindArgs (X_ name ⟨[],[⟨x,n1,p1⟩,⟨y,n2,p2⟩,⟨z,n3,p3⟩],V,[],LU,V,[]⟩ body scope pm cd doc) ⟨[a,b,c],[]⟩=pure [(x,a),(y,b),(z,c)]):Cv [x,y,z]:=by intro as q name LU body scope pm cd doc M hv;refine uR (Yn q) λn1 p1 t e1 q1=>uR (Yn q1) λn2 p2 u e2 q2=>uR (Yn q2) λn3 p3 v e4 q3=>H6 (X3 hv) λa b c e3=>J e1 (J e2 (J e4 (J (UO.mp q3) (J e3 ?_))));exact h ..
noncomputable def en (n:o_) (ha:CS) (k:a_) (l:d_ o_):o_ × CS × d_ o_ × SC:=(n,ha,l.take k,l.zipIdx)
def table:d_ (o_ × CS × d_ o_ × SC):=[en "order_key" pj 2 ["order","powers"],en "mvlead" cF 2 ["a","order","powers","best","highest","place"],en "powers_divide" cG 2 ["a","b","at","one"],en "first_divisor" bI 2 ["powers","leads","at","one"],en "is_divided" kK 2 ["powers","leads"],en "minimal_basis" cv 2 ["basis","order","found","leads","kept","at","powers","others"],en "gcd" lW 2 ["a","b"],en "rat" pn 2 ["top","bottom","g"],en "rmul" BR 2 ["a","b"],en "mvscale" ij 2 ["a","rational"],en "rinv" xH 1 ["a"],en "mvmonic" p7 2 ["a","order","first"],en "radd" xI 2 ["a","b"],en "add_term" nQ 3 ["found","powers","rational","total"],en "mvadd" gW 2 ["a","b","found","powers"],en "rneg" Gw 1 ["a"],en "mvneg" p8 1 ["a"],en "mvsub" v7 2 ["a","b"],en "bits_of" An 1 ["n","found","many","step"],en "is_vast" qc 1 ["a","greatest"],en "powers_quotient" iY 2 ["a","b"],en "rdiv" xJ 2 ["a","b"],en "powers_product" jA 2 ["a","b"],en "mvshift" ip 3 ["a","powers","rational"],en "mvdivide" nR 3 ["f","some","order","leads","quotients","most","rest","left","work","at","powers","rational","shift","factor"],en "rest_of" nc 3 ["f","some","order"],en "reduced_form" ct 2 ["basis","order","kept","keyed","found","place","at"],en "powers_join" mv 2 ["a","b"],en "pair_key" nU 3 ["pair","leads","order","joined"],en "least_pair" bS 3 ["waiting","leads","order","pair","best","place","told"],en "powers_meet" my 2 ["a","b"],en "are_apart" lZ 2 ["a","b"],en "is_needless" cg 3 ["pair","waiting","leads","joined","one","other","at","powers"],en "s_poly" sM 3 ["f","g","order","joined","first","one","other"],en "groebner" c0 3 ["some","order","most","basis","leads","waiting","done","pair","rest"],en "reduced_basis" gX 3 ["some","order","most"],en "is_free_of" kM 2 ["f","many"],en "eliminate" l3 3 ["some","many","most"],en "_law_draw" dy 2 ["pool","many","spot"],en "_law_line" nY 2 ["pool","degree"],en "ztrim" i6 1 ["row","size"],en "zadd" uf 2 ["a","b","size"],en "zmul" GI 2 ["a","b","found","one","left","other","right"],en "zcompose" rF 2 ["a","b","found","number"],en "_law_given" dk 2 ["f","at","found","power","number"],en "zdegree" qf 1 ["p"],en "gcd_all" iu 1 ["numbers","found","number"],en "zcontent" n4 1 ["p"],en "check_bottom" dm 1 ["p"],en "zlead" v9 1 ["p"],en "zneg" B8 1 ["p"],en "zsub" B9 2 ["a","b"],en "zscale" sP 2 ["p","k"],en "zraise" sQ 2 ["p","many"],en "pseudo" fh 2 ["a","b","many","more","rest","found","left","first","number","power"],en "full_rest" f7 2 ["a","b","lacking","quotient","rest","power"],en "divided" qg 2 ["p","number"],en "row_resultant" cI 3 ["a","b","sign","many","g","h","gap","rest"],en "resultant" cD 2 ["a","b","sign","shared","one","other"],en "_law_value" l6 3 ["told","x","y"],en "zat" vu 2 ["p","n","found","number"],en "law" Eo 1 ["script","pool","base","told","sign","turn","low","high","many","c","p","q","due","x","y"]]
noncomputable abbrev Nd:=(o_ × Fn) ⊕ (o_ × AV)
def Fa:CE->d_ Nd->d_ Nd|.glob x v,l=>.inr (x,v)::l|.call K' F O a,l=>.inl (K',F)::Fa a l|.bin _ a c,l|.cmp _ a c,l|.isin _ a c,l|.and a c,l|.or a c,l|.idx a c,l|.gJ a c,l|.fq a c,l|.kX a c,l|.cons a c,l|.bq a _ _ c,l=>Fa a (Fa c l)|.neg a,l|.not a,l|.isNone _ a,l|.bi _ a,l|.bc a,l|.lst a,l=>Fa a l|.ite t a c,l|.bR t _ _ a c,l|.dH t _ _ a _ _ c,l|.jT t a _ _ c,l=>Fa t (Fa a (Fa c l))|.k _,l|.var _,l|.gz,l|.bad,l|.nil,l=>l
def X4:CS->d_ Nd->d_ Nd|.assign _ e,l|.bj _ e,l|.aug _ _ e,l|.ret e,l|.expr e,l|.append _ e,l|.extend _ e,l|.qt _ e,l|.qu _ e,l=>Fa e l|.dd _ i e,l|.iJ _ _ i e,l=>Fa i (Fa e l)|.iff t a c,l=>Fa t (X4 a (X4 c l))|.kF t a,l|.gE _ _ t a,l=>Fa t (X4 a l)|.seq a c,l=>X4 a (X4 c l)|.sort _,l|.cont,l|.raise,l|.skip,l=>l
def vP(P:Nd->Prop):d_ Nd->Prop|[]=>f?|p::r=>P p/\vP P r
section
variable(w:dc)(b:aJ)(mg mb:pS)
structure GF:Prop where
 g:Gx b mg mb
 fn:∀ x∈table,∃ d:DefRec,PQ x d=R/\∃ a o pm code doc,mg d.name=f (.ref a)/\b.heap.get? a=f o/\o.data=.func (X_ d.name d.params d.body d.scope pm code doc)/\b.heap.CodeRec code d.name
 bi:∀ k,DC mg mb (Bq k) (k0 k)
 it:∀ k,sv mg mb k
 r0:u7 b mg "R0" (.tup [.int 0,.int 1])
 r1:u7 b mg "R1" (.tup [.int 1,.int 1])
 LC:u7 b mg "MOST_BITS" (.int 200000)
 PR:u7 b mg "MOST_FAR" (.int 20000)
 LD:u7 b mg "MOST_WORK" (.int 3000000)
end
section
variable{w:dc}{b:aJ}{mg mb:pS}
theorem gh.mono(h:gh H w b mg n K' F)(hm:n<=m:=by decide):gh H w b mg m K' F:=by obtain⟨a,o,fd,Y,L,h3,h4⟩:=h;exact C5 a o fd Y L h3 (λA E s D N T' as M z Q hA=>h4 A E s D N T' as M z Q (hA.mono hm))
def Gd(w:dc)(b:aJ)(mg:pS)(n:a_):Nd->Prop|.inl p=>gh H w b mg n p.1 p.2|.inr p=>u7 b mg p.1 p.2
theorem sB(aj:GF b mg mb){n:a_}:∀(c:CE) (l:d_ Nd),vP (Gd w b mg n) (Fa c l)->Ok H w b mg mb n c/\vP (Gd w b mg n) l:=by have L:∀{a c:CE} {l:d_ Nd},(∀ l,vP (Gd w b mg n) (Fa a l)->Ok H w b mg mb n a/\vP (Gd w b mg n) l)->(∀ l,vP (Gd w b mg n) (Fa c l)->Ok H w b mg mb n c/\vP (Gd w b mg n) l)->vP (Gd w b mg n) (Fa a (Fa c l))->(Ok H w b mg mb n a/\Ok H w b mg mb n c)/\vP (Gd w b mg n) l:=λB U' h=>⟨⟨(B _ h).1,(U' _ (B _ h).2).1⟩,(U' _ (B _ h).2).2⟩;intro c;induction c with|glob x v=>exact λl h=>h|call K' F P a B=>exact λl h=>⟨⟨h.1,(B l h.2).1⟩,(B l h.2).2⟩|bi k a B=>exact λl h=>⟨⟨aj.bi k,(B l h).1⟩,(B l h).2⟩|ite t a c ht B U'|bR t _ k a c ht B U'|dH t _ k a _ k2 c ht B U'|jT t a _ k c ht B U'=>(exact λl h=>have q:=L ht B h;have r:=U' l q.2;by first|exact⟨⟨q.1.1,q.1.2,r.1⟩,r.2⟩|exact⟨⟨q.1.1,aj.it k,q.1.2,r.1⟩,r.2⟩|exact⟨⟨q.1.1,aj.it k,q.1.2,aj.it k2,r.1⟩,r.2⟩|exact⟨⟨q.1.1,q.1.2,aj.it k,r.1⟩,r.2⟩)|bq a O k c B U'=>exact λl h=>have q:=L B U' h;⟨⟨q.1.1,aj.it k,q.1.2⟩,q.2⟩|bin _ a c B U'|cmp _ a c B U'|isin _ a c B U'|and a c B U'|or a c B U'|idx a c B U'|gJ a c B U'|fq a c B U'|kX a c B U'|cons a c B U'=>exact λl h=>L B U' h|neg a B|not a B|isNone _ a B|bc a B|lst a B=>exact B|_=>exact λl h=>⟨Z',h⟩
theorem aeQ(aj:GF b mg mb){n:a_}:∀(c:CS) (l:d_ Nd),vP (Gd w b mg n) (X4 c l)->Qd H w b mg mb n c/\vP (Gd w b mg n) l:=by intro c;induction c with|assign _ e|bj _ e|aug _ _ e|ret e|expr e=>exact sB aj e|append _ e|extend _ e|qt _ e|qu _ e=>exact λl h=>have q:=sB aj e l h;⟨⟨Z',q.1⟩,q.2⟩|dd _ i e|iJ _ _ i e=>exact λl h=>have q:=sB aj i _ h;have r:=sB aj e _ q.2;⟨⟨Z',q.1,r.1⟩,r.2⟩|iff t a c B U'=>exact λl h=>have q:=sB aj t _ h;have r:=B _ q.2;have s:=U' _ r.2;⟨⟨q.1,r.1,s.1⟩,s.2⟩|kF t a B=>exact λl h=>have q:=sB aj t _ h;have r:=B _ q.2;⟨⟨q.1,r.1⟩,r.2⟩|gE O k t a B=>exact λl h=>have q:=sB aj t _ h;have r:=B _ q.2;⟨⟨aj.it k,q.1,r.1⟩,r.2⟩|seq a c B U'=>exact λl h=>have r:=B _ h;have s:=U' _ r.2;⟨⟨r.1,s.1⟩,s.2⟩|_=>exact λl h=>⟨Z',h⟩
theorem GF.gS(aj:GF b mg mb){i n more:a_}{K':o_}{P:d_ o_}(ht:table[i]?=f (K',ha,P,sl))(hP:Cv P)(hg:vP (Gd w b mg n) (X4 ha [])):gh H w b mg (n+1) K' (bt P.length more ha):=by refine ia λGq zq=>?_;obtain⟨d,hk,a,o,pm,code,doc,m1,m2,m3,m4⟩:=aj.fn _ (dU ht);dsimp only[PQ,E9]at hk;simp only[jb,jQ,UM,Tf,rR]at hk;obtain⟨k1,⟨⟨⟨⟨⟨q1,q2⟩,q3⟩,q4⟩,q5⟩,q6⟩,k3,k4,k5,k6,k7⟩:=hk;obtain⟨name,params,body,scope,pos⟩:=d;obtain⟨po,as,va,ko,kd,kw,df⟩:=params;simp only at k1 q1 q2 q3 q4 q5 q6 k3 k4 k5 k6 k7 m1 m2 m3 m4;subst k1 q1 q2 q3 q4 q5 q6;refine zq ?_;clear zq;exact WD aj.g m1 m2 m3 m4 (hP _ X _ _ _ _ _ _ _) k3 k4 (aeQ aj ha [] hg).1 k5 k6 k7
end
end Mine.Internal
end
section
open PySem
namespace Mine.Internal
section
variable{N T':St}{pl qq k:a_}{l:aA}{C:al}{b2 b3 b4 b5 du x0 y0:PV}{c:G}{p q:aA}
theorem nw(h:ax (.and (.cmp .eq tx nx) (.cmp .eq (.bc (aO lM rQ)) (.bc (aO bQ nx)))) (LW b2 b3 b4 b5 lo hi mn c p q du x0 y0)=f (.b (.bool N'))):aD [] uq (LW b2 b3 b4 b5 lo hi mn c p q du x0 y0)=f (LW b2 b3 b4 b5 lo hi 1 c p q du x0 y0,.next):=by refine J (cq h) ?_;rfl
theorem LF(Y:jF.fn [il p,il [0,c,1]]=f (il p'))(L:jF.fn [il q,il [0,c,1]]=f (il q')):aD [] uq (LW b2 b3 b4 b5 1 2 2 c p q du x0 y0)=f (LW b2 b3 b4 b5 1 2 2 c p' q' du x0 y0,.next):=by
 have g1:ax (ir (aO iX (.lst (iB bC yA bQ)))) (LW b2 b3 b4 b5 1 2 2 c p q du x0 y0)=f (il p'):=ar X (bE (A:=il p) (ha:=il [0,c,1]) X X) Y;have g2:ax (ir (aO mr (.lst (iB bC yA bQ)))) (LW b2 b3 b4 b5 1 2 2 c p q du x0 y0)=f (il q'):=ar X (bE (A:=il q) (ha:=il [0,c,1]) X X) L;have g4:ax (.bc (aO (ir (aO iX (.lst (iB bC yA bQ)))) (ir (aO mr (.lst (iB bC yA bQ)))))) (LW b2 b3 b4 b5 1 2 2 c p q du x0 y0)=f (.tup [il p',il q']):=by exact J eZ (J (bE g1 g2) X)
 refine J (cq X) (J (CQ _ _) (J p0 (J ej (J g4 ?_))));rfl
theorem l_5{lo hi mn:a_}{ds es:aA}(h:(lo=1/\hi=2)\/(lo=2/\hi=3)\/(lo=1/\hi=3))(hm:mn=1\/mn=2)(U':c∈q3)(hd:ds.length=lo)(he:es.length=hi)(md:∀ x∈ds,x∈q3)(me:∀ x∈es,x∈q3) :
  ∃(mE:a_) (p' q':aA) (w:ZE) (TF:G->G->G),aD [] uq (LW b2 b3 b4 b5 lo hi mn c (ds++[1]) (es++[1]) du x0 y0)=f (LW b2 b3 b4 b5 lo hi mE c p' q' du x0 y0,.next)/\Good p' q' hi mE w TF:=by
 refine Mr λGq kq=>?_;rcases h with ⟨rfl,rfl⟩|⟨rfl,rfl⟩|⟨rfl,rfl⟩
 .obtain⟨a,eE⟩:=SY hd;clear hd;subst eE;refine gx (SZ he) λd b fJ=>?_;clear he;subst fJ;have B:=md a (by exact aQ);have uW:=me d (by exact aQ);have hb:=me b (by exact bg _ aQ);rcases hm with iA|rfl
  .subst iA;refine cz (SV B uW hb) λw Y'=>?_;exact kq 1 _ _ w _ (nw X) Y'
  .refine cz (X0 B uW hb U') λw Y'=>?_;have Y:=XU;have L:=XV;simp only[mG]at Y L;exact kq 2 _ _ w _ (LF (Jq (Y a B c U')) (Jq (L d uW b hb c U'))) Y'
 .refine gx (SZ hd) λha a fJ=>?_;clear hd;subst fJ;refine H6 (X3 he) λe d c' Gn=>?_;clear he;subst Gn;refine cz (XZ (md ha (by exact aQ)) (md a (by exact bg _ aQ)) (me e (by exact aQ)) (me d (by exact bg _ aQ)) (me c' (by simp))) λw Y'=>?_;rcases hm with j5|rfl
  .subst j5;exact kq 1 _ _ w _ (nw X) Y'
  .exact kq 1 _ _ w _ (nw X) Y'
 .obtain⟨a,mj⟩:=SY hd;clear hd;subst mj;refine H6 (X3 he) λe d c' Gn=>?_;clear he;subst Gn;obtain⟨w,Y'⟩:=SW (md a (by exact aQ)) (me e (by exact aQ)) (me d (by exact bg _ aQ)) (me c' (by simp));rcases hm with oN|rfl
  .subst oN;exact kq 1 _ _ w _ (nw X) Y'
  .exact kq 1 _ _ w _ (nw X) Y'
theorem l_2(P:eQ N pl qq l k)(h:ao C 1=.ref pl):∃(T':St) (lo hi:a_),ex Cb N C=f (T',aE (aE C 6 (.int (lo:G))) 7 (.int (hi:G)),.next)/\eQ T' pl qq l (k+1)/\((lo=1/\hi=2)\/(lo=2/\hi=3)\/(lo=1/\hi=3)):=by
 refine Mq λGq kq=>?_;refine oq (qp P (m:=3) (by decide)) λT' v Y L h3 h4 O O=>?_;have ht:ev (.bc (iB (.bc (aO bQ nx)) (.bc (aO nx BP)) (.bc (aO bQ BP)))) N C=f (N,.tup [.tup [.int 1,.int 2],.tup [.int 2,.int 3],.tup [.int 1,.int 3]]):=X;have hd:ev (Dr 3) N C=f (T',.int v):=J (td h _) (J Y X)
 have run:∀ lo hi:G,ib T' (.tup [.tup [.int 1,.int 2],.tup [.int 2,.int 3],.tup [.int 1,.int 3]]) (.int v)=f (.tup [.int lo,.int hi])->ex Cb N C=f (T',aE (aE C 6 (.int lo)) 7 (.int hi),.next):=λlo hi hx=>by
  have:ev (.idx (.bc (iB (.bc (aO bQ nx)) (.bc (aO nx BP)) (.bc (aO bQ BP)))) (Dr 3)) N C=f (T',.tup [.int lo,.int hi]):=by refine J xa (J ht ?_);dsimp only;refine J hd ?_;dsimp only;exact J hx X
  dsimp only[Cb,ex];refine J this ?_;rfl
 have hv:v=0\/v=1\/v=2:=by lia
 rcases hv with rfl|rfl|rfl
 .exact kq T' 1 2 (run 1 2 X) h4 (.inl ⟨X,X⟩)
 .exact kq T' 2 3 (run 2 3 X) h4 (.inr (.inl ⟨X,X⟩))
 .exact kq T' 1 3 (run 1 3 X) h4 (.inr (.inr ⟨X,X⟩))
theorem l_3(P:eQ N pl qq l k)(h:ao C 1=.ref pl):∃(T':St) (mn:a_) (c:G),ex OL N C=f (T',aE (aE C 8 (.int (mn:G))) 9 (.int c),.next)/\eQ T' pl qq l (k+2)/\(mn=1\/mn=2)/\c∈q3:=by
 refine oq (qp P (m:=2) (by decide)) λae v Y L h3 h4 O O=>?_;refine oq (qp h4 (m:=3) (by decide)) λaq w g1 g2 g3 g4 O O=>?_
 have e1:ev (.bin .add bQ (Dr 2)) N C=f (ae,.int (1+v)):=by
  have:ev (Dr 2) N C=f (ae,.int v):=J (td h _) (J Y X)
  refine J mP ?_;(refine J (show ev bQ N C=f (N,.int 1) from X) ?_;try dsimp only);refine J this ?_;rfl
 have e2:ev (.bin .sub (Dr 3) bQ) ae C=f (aq,.int (w-1)):=J mP (J (td h _) (J g1 X));refine C5 aq ((1+v).toNat) (w-1) ?_ g4 (by lia) (by refine J (propext vO) ?_;lia);refine J (show(((1+v).toNat:a_):G)=1+v by grind) ?_;exact Cu e1 e2
theorem l_4(P:eQ N pl qq l k)(h:ao C 1=.ref pl){lo hi:a_}(h6:ao C 6=.int (lo:G))(h7:ao C 7=.int (hi:G))(hl:lo<=100)(hh:hi<=100):∃(T':St) (n m:a_) (ds es:aA),ex OM N C=f (T',aE (aE C 10 (.ref n)) 11 (.ref m),.next)/\eQ T' pl qq l (k+lo+hi)/\ds.length=lo/\es.length=hi/\(∀ x∈ds,x∈q3)/\(∀ x∈es,x∈q3)/\T'.get n=f (.list ((ds++[1]).map .int))/\T'.get m=f (.list ((es++[1]).map .int))/\Xp pl qq n=N'/\Xp pl qq m=N':=by
 refine Tl (Jr P hl) λae n ds a1 a2 a3 a4 a5 a6 a7 a8=>Tl (Jr a2 hh) λaq m es b1 b2 b3 b4 b5 b6 b7 b8=>?_;have e1:ev (.call "_law_line" jE nZ (aO aS lM)) N C=f (ae,.ref n):=by(dsimp only[ev];(refine J h ?_;refine J h6 ?_;try dsimp only;exact J a1 X))
 have e2:ev (.call "_law_line" jE nZ (aO aS rQ)) ae C=f (aq,.ref m):=by(dsimp only[ev];(refine J h ?_;refine J h7 ?_;try dsimp only;exact J b1 X))
 have zV:=P.lt;have hX:∀ j,N.n<=j->Xp pl qq j=N':=λj hj=>by dsimp only[Xp];simp only[Jv,HI];exact⟨by lia,by lia⟩
 refine⟨aq,n,m,ds,es,Cu e1 e2,b2,a3,b3,a4,b4,?_,b5,hX n a6,hX m (by exact aR ‹_› ‹_›)⟩;exact J (dx (N:=ae) (b8 n (lz a2.wf a5) (by lia))) a5
theorem PU{Z:aA}(hx:Z.length<=lim):∃ T',Uh Js [.fv Z]=f (T',.bool R):=by
 refine To λGq kq=>ia λGq zq=>uR (l_1 hx) λae pl qq Y P1=>zJ (l_2 (C:=pad2 (.fv Z) (.ref pl)) P1 X) λaq lo hi L P2 hlh=>H7 (l_3 (C:=aE (aE (pad2 (.fv Z) (.ref pl)) 6 (.int (lo:G))) 7 (.int (hi:G))) P2 X) λbo mn c h3 P3 hmn U'=>?_;obtain⟨iy,n,m,ds,es,h4,P4,k1,k2,k3,k4,g1,g2,X1,X2⟩:=l_4 (lo:=lo) (hi:=hi) (C:=aE (aE (aE (aE (pad2 (.fv Z) (.ref pl)) 6 (.int (lo:G))) 7 (.int (hi:G))) 8 (.int (mn:G))) 9 (.int c)) P3 X X X (by lia) (by lia);refine zq ?_;clear zq
 have vp:VR (view (Xp pl qq) iy) (il (ds++[1])) (.ref n):=VR.list (dw X1 g1) (by
  have:=bZ.bs (W:=view (Xp pl qq) iy) ((ds++[1]).map .int)
  rw[fE]at this
  exact this)
 have vq:VR (view (Xp pl qq) iy) (il (es++[1])) (.ref m):=VR.list (dw X2 g2) (by
  have:=bZ.bs (W:=view (Xp pl qq) iy) ((es++[1]).map .int)
  rw[fE]at this
  exact this)
 have hv:bZ (view (Xp pl qq) iy) (LW .any .any .any .any lo hi mn c (ds++[1]) (es++[1]) .any .any .any) [.fv Z,.ref pl,.ub,.ub,.ub,.ub,.int (lo:G),.int (hi:G),.int (mn:G),.int c,.ref n,.ref m,.ub,.ub,.ub,.ub,.ub,.ub]:=
  bZ.cons VR.any (bZ.cons VR.any (bZ.cons VR.any (bZ.cons VR.any (bZ.cons VR.any (bZ.cons VR.any (bZ.cons (VR.b _) (bZ.cons (VR.b _) (bZ.cons (VR.b _) (bZ.cons (VR.b _) (bZ.cons vp (bZ.cons vq (bZ.cons VR.any (bZ.cons VR.any (bZ.cons VR.any (bZ.cons VR.any (bZ.cons VR.any (bZ.cons VR.any bZ.nil)))))))))))))))))
 have S4:Lz iy [.fv Z,.ref pl,.ub,.ub,.ub,.ub,.int (lo:G),.int (hi:G),.int (mn:G),.int c,.ref n,.ref m,.ub,.ub,.ub,.ub,.ub,.ub] pl qq (Z.take 13) (0+1+2+lo+hi) (LW .any .any .any .any lo hi mn c (ds++[1]) (es++[1]) .any .any .any):=by
  refine⟨P4,FR.mk0 (by exact J hv.length (fB _)) (λj hj=>?_) (λi=>hv.slot 0 i),X⟩;dsimp only[Xp]at hj;simp only[qr,wu]at hj;rcases hj with qv|rfl
  .clear Y P1 L P2 h3 P3 h4 X1 X2 vp vq hv;subst qv;exact P4.lt.1
  .exact P4.lt.2
 refine wD (l_5 (b2:=.any) (b3:=.any) (b4:=.any) (b5:=.any) (du:=.any) (x0:=.any) (y0:=.any) hlh hmn U' k1 k2 k3 k4) λmE p' q' w TF e5 Y'=>eD (S4.step aeI X e5) λJc af0 h5 S5=>gx (SX Y' S5) λT' bh h6=>kq T' ?_
 have:ex Eo Js (pad2 (.fv Z) .ub)=f (T',bh,.ret (.bool R)):=by dsimp only[Eo];(refine J (hY Y) (J (hY L) (J (hY h3) (J (hY h4) ?_))));exact(hY h5).trans h6
 show(match ex Eo Js (pad2 (.fv Z) .ub) with|f (s1,O,.ret v)=>f (s1,v)|f (s1,O,.next)=>f (s1,.none)|_=>V)=_;exact J this X
end
end Mine.Internal
end
section
open PySem PySem.Calls PySem.W PyProof.Rows
namespace Mine.Internal
section
variable{w:dc}{b:aJ}{mg mb:pS}
theorem mC(aj:GF b mg mb):gh H w b mg 1 "order_key" pk:=aj.gS (i:=0) X (oI (by intros;rfl)) Z'
theorem ew(aj:GF b mg mb):gh H w b mg 2 "mvlead" xF:=aj.gS (i:=1) X (oI (by intros;rfl)) ⟨(mC aj).mono,Z'⟩
theorem ma(aj:GF b mg mb):gh H w b mg 1 "powers_divide" gV:=aj.gS (i:=2) X (oI (by intros;rfl)) Z'
theorem mh(aj:GF b mg mb):gh H w b mg 2 "first_divisor" kc:=aj.gS (i:=3) X (oI (by intros;rfl)) ⟨(ma aj).mono,Z'⟩
theorem yt(aj:GF b mg mb):gh H w b mg 3 "is_divided" nP:=aj.gS (i:=4) X (oI (by intros;rfl)) ⟨(mh aj).mono,aj.r1,Z'⟩
theorem tf(aj:GF b mg mb):gh H w b mg 4 "minimal_basis" kg:=aj.gS (i:=5) X (oI (by intros;rfl)) ⟨(ew aj).mono,(yt aj).mono,Z'⟩
theorem Cw(aj:GF b mg mb):gh H w b mg 1 "gcd" OD:=aj.gS (i:=6) X (oI (by intros;rfl)) Z'
theorem wh(aj:GF b mg mb):gh H w b mg 2 "rat" OE:=aj.gS (i:=7) X (oI (by intros;rfl)) ⟨(Cw aj).mono,(Cw aj).mono,Z'⟩
theorem Fb(aj:GF b mg mb):gh H w b mg 3 "rmul" Gr:=aj.gS (i:=8) X (oI (by intros;rfl)) ⟨(wh aj).mono,Z'⟩
theorem Fc(aj:GF b mg mb):gh H w b mg 4 "mvscale" t8:=aj.gS (i:=9) X (oI (by intros;rfl)) ⟨aj.r0,(Fb aj).mono,Z'⟩
theorem yu(aj:GF b mg mb):gh H w b mg 3 "rinv" Gu:=aj.gS (i:=10) X (LA (by intros;rfl)) ⟨(wh aj).mono,Z'⟩
theorem pP(aj:GF b mg mb):gh H w b mg 5 "mvmonic" ua:=aj.gS (i:=11) X (oI (by intros;rfl)) ⟨(ew aj).mono,(Fc aj).mono,(yu aj).mono,Z'⟩
theorem PW(aj:GF b mg mb):gh H w b mg 3 "radd" Gv:=aj.gS (i:=12) X (oI (by intros;rfl)) ⟨(wh aj).mono,Z'⟩
theorem tg(aj:GF b mg mb):gh H w b mg 4 "add_term" jz:=aj.gS (i:=13) X (LB (by intros;rfl)) ⟨(PW aj).mono,aj.r0,Z'⟩
theorem LG(aj:GF b mg mb):gh H w b mg 5 "mvadd" BU:=aj.gS (i:=14) X (oI (by intros;rfl)) ⟨(tg aj).mono,Z'⟩
theorem PX(aj:GF b mg mb):gh H w b mg 1 "rneg" Gy:=aj.gS (i:=15) X (LA (by intros;rfl)) Z'
theorem LH(aj:GF b mg mb):gh H w b mg 2 "mvneg" BX:=aj.gS (i:=16) X (LA (by intros;rfl)) ⟨(PX aj).mono,Z'⟩
theorem AH(aj:GF b mg mb):gh H w b mg 6 "mvsub" BZ:=aj.gS (i:=17) X (oI (by intros;rfl)) ⟨(LG aj).mono,(LH aj).mono,Z'⟩
theorem Fd(aj:GF b mg mb):gh H w b mg 1 "bits_of" uc:=aj.gS (i:=18) X (LA (by intros;rfl)) Z'
theorem Fe(aj:GF b mg mb):gh H w b mg 2 "is_vast" ud:=aj.gS (i:=19) X (LA (by intros;rfl)) ⟨(Fd aj).mono,aj.LC,Z'⟩
theorem gG(aj:GF b mg mb):gh H w b mg 1 "powers_quotient" iZ:=aj.gS (i:=20) X (oI (by intros;rfl)) Z'
theorem PY(aj:GF b mg mb):gh H w b mg 3 "rdiv" GC:=aj.gS (i:=21) X (oI (by intros;rfl)) ⟨(wh aj).mono,Z'⟩
theorem rO(aj:GF b mg mb):gh H w b mg 1 "powers_product" jB:=aj.gS (i:=22) X (oI (by intros;rfl)) Z'
theorem pQ(aj:GF b mg mb):gh H w b mg 4 "mvshift" ue:=aj.gS (i:=23) X (LB (by intros;rfl)) ⟨aj.r0,(rO aj).mono,(Fb aj).mono,Z'⟩
theorem Cx(aj:GF b mg mb):gh H w b mg 7 "mvdivide" nT:=aj.gS (i:=24) X (LB (by intros;rfl)) ⟨(ew aj).mono,aj.PR,(ew aj).mono,aj.LD,(Fe aj).mono,(mh aj).mono,(gG aj).mono,(PY aj).mono,(tg aj).mono,(AH aj).mono,(pQ aj).mono,Z'⟩
theorem vy(aj:GF b mg mb):gh H w b mg 8 "rest_of" qe:=aj.gS (i:=25) X (LB (by intros;rfl)) ⟨(Cx aj).mono,Z'⟩
theorem uD(aj:GF b mg mb):gh H w b mg 9 "reduced_form" lB:=aj.gS (i:=26) X (oI (by intros;rfl)) ⟨(tf aj).mono,(mC aj).mono,(ew aj).mono,(pP aj).mono,(vy aj).mono,Z'⟩
theorem ku(aj:GF b mg mb):gh H w b mg 1 "powers_join" mx:=aj.gS (i:=27) X (oI (by intros;rfl)) Z'
theorem Cy(aj:GF b mg mb):gh H w b mg 2 "pair_key" rC:=aj.gS (i:=28) X (LB (by intros;rfl)) ⟨(ku aj).mono,(mC aj).mono,Z'⟩
theorem yv(aj:GF b mg mb):gh H w b mg 3 "least_pair" nV:=aj.gS (i:=29) X (LB (by intros;rfl)) ⟨(Cy aj).mono,Z'⟩
theorem vQ(aj:GF b mg mb):gh H w b mg 1 "powers_meet" mz:=aj.gS (i:=30) X (oI (by intros;rfl)) Z'
theorem zw(aj:GF b mg mb):gh H w b mg 2 "are_apart" pC:=aj.gS (i:=31) X (oI (by intros;rfl)) ⟨(vQ aj).mono,Z'⟩
theorem vR(aj:GF b mg mb):gh H w b mg 3 "is_needless" mB:=aj.gS (i:=32) X (LB (by intros;rfl)) ⟨(zw aj).mono,(ku aj).mono,(ma aj).mono,Z'⟩
theorem Hw(aj:GF b mg mb):gh H w b mg 7 "s_poly" xM:=aj.gS (i:=33) X (LB (by intros;rfl)) ⟨(ew aj).mono,(ew aj).mono,(ku aj).mono,(pQ aj).mono,(gG aj).mono,(yu aj).mono,(AH aj).mono,(pQ aj).mono,(gG aj).mono,(yu aj).mono,Z'⟩
theorem Cz(aj:GF b mg mb):gh H w b mg 9 "groebner" rD:=aj.gS (i:=34) X (LB (by intros;rfl)) ⟨(pP aj).mono,(ew aj).mono,(yv aj).mono,(vR aj).mono,(vy aj).mono,(Hw aj).mono,(pP aj).mono,(ew aj).mono,Z'⟩
theorem th(aj:GF b mg mb):gh H w b mg 10 "reduced_basis" kj:=aj.gS (i:=35) X (LB (by intros;rfl)) ⟨(uD aj).mono,(Cz aj).mono,Z'⟩
theorem yw(aj:GF b mg mb):gh H w b mg 1 "is_free_of" nW:=aj.gS (i:=36) X (oI (by intros;rfl)) Z'
theorem zx(aj:GF b mg mb):gh H w b mg 11 "eliminate" pE:=aj.gS (i:=37) X (LB (by intros;rfl)) ⟨(th aj).mono,(yw aj).mono,Z'⟩
theorem gu(aj:GF b mg mb):gh H w b mg 1 "_law_draw" c6:=aj.gS (i:=38) X (oI (by intros;rfl)) Z'
theorem ti(aj:GF b mg mb):gh H w b mg 2 "_law_line" jE:=aj.gS (i:=39) X (oI (by intros;rfl)) ⟨(gu aj).mono,Z'⟩
theorem AI(aj:GF b mg mb):gh H w b mg 1 "ztrim" B4:=aj.gS (i:=40) X (LA (by intros;rfl)) Z'
theorem Ff(aj:GF b mg mb):gh H w b mg 2 "zadd" GG:=aj.gS (i:=41) X (oI (by intros;rfl)) ⟨(AI aj).mono,Z'⟩
theorem PZ(aj:GF b mg mb):gh H w b mg 1 "zmul" GJ:=aj.gS (i:=42) X (oI (by intros;rfl)) Z'
theorem tj(aj:GF b mg mb):gh H w b mg 3 "zcompose" rG:=aj.gS (i:=43) X (oI (by intros;rfl)) ⟨(Ff aj).mono,(PZ aj).mono,(AI aj).mono,Z'⟩
theorem qS(aj:GF b mg mb):gh H w b mg 1 "_law_given" fZ:=aj.gS (i:=44) X (oI (by intros;rfl)) Z'
theorem cj(aj:GF b mg mb):gh H w b mg 1 "zdegree" ug:=aj.gS (i:=45) X (LA (by intros;rfl)) Z'
theorem Fg(aj:GF b mg mb):gh H w b mg 2 "gcd_all" ui:=aj.gS (i:=46) X (LA (by intros;rfl)) ⟨(Cw aj).mono,Z'⟩
theorem tm(aj:GF b mg mb):gh H w b mg 3 "zcontent" rH:=aj.gS (i:=47) X (LA (by intros;rfl)) ⟨(Fg aj).mono,Z'⟩
theorem uE(aj:GF b mg mb):gh H w b mg 1 "check_bottom" lE:=aj.gS (i:=48) X (LA (by intros;rfl)) Z'
theorem uF(aj:GF b mg mb):gh H w b mg 1 "zlead" B6:=aj.gS (i:=49) X (LA (by intros;rfl)) Z'
theorem P0(aj:GF b mg mb):gh H w b mg 1 "zneg" GL:=aj.gS (i:=50) X (LA (by intros;rfl)) Z'
theorem tq(aj:GF b mg mb):gh H w b mg 3 "zsub" GO:=aj.gS (i:=51) X (oI (by intros;rfl)) ⟨(Ff aj).mono,(P0 aj).mono,Z'⟩
theorem lI(aj:GF b mg mb):gh H w b mg 1 "zscale" xN:=aj.gS (i:=52) X (oI (by intros;rfl)) Z'
theorem yx(aj:GF b mg mb):gh H w b mg 1 "zraise" xP:=aj.gS (i:=53) X (oI (by intros;rfl)) Z'
theorem Hx(aj:GF b mg mb):gh H w b mg 4 "pseudo" xR:=aj.gS (i:=54) X (oI (by intros;rfl)) ⟨(uE aj).mono,(uF aj).mono,(tq aj).mono,(lI aj).mono,(yx aj).mono,(tq aj).mono,(lI aj).mono,(yx aj).mono,(lI aj).mono,(lI aj).mono,(lI aj).mono,Z'⟩
theorem zy(aj:GF b mg mb):gh H w b mg 5 "full_rest" pF:=aj.gS (i:=55) X (oI (by intros;rfl)) ⟨(Hx aj).mono,(cj aj).mono,(cj aj).mono,(uF aj).mono,Z'⟩
theorem pR(aj:GF b mg mb):gh H w b mg 1 "divided" um:=aj.gS (i:=56) X (oI (by intros;rfl)) Z'
theorem tr(aj:GF b mg mb):gh H w b mg 6 "row_resultant" km:=aj.gS (i:=57) X (LB (by intros;rfl)) ⟨(cj aj).mono,(cj aj).mono,(cj aj).mono,(cj aj).mono,(cj aj).mono,(zy aj).mono,(pR aj).mono,(uF aj).mono,(cj aj).mono,Z'⟩
theorem zz(aj:GF b mg mb):gh H w b mg 7 "resultant" pG:=aj.gS (i:=58) X (oI (by intros;rfl)) ⟨(cj aj).mono,(cj aj).mono,(cj aj).mono,(cj aj).mono,(tm aj).mono,(tm aj).mono,(cj aj).mono,(cj aj).mono,(tr aj).mono,(pR aj).mono,(pR aj).mono,Z'⟩
theorem qT(aj:GF b mg mb):gh H w b mg 1 "_law_value" d6:=aj.gS (i:=59) X (LB (by intros;rfl)) Z'
theorem Ju(aj:GF b mg mb):gh H w b mg 1 "zat" OI:=aj.gS (i:=60) X (oI (by intros;rfl)) Z'
theorem Ta(aj:GF b mg mb):gh H w b mg 12 "law" Uh:=aj.gS (i:=61) X (LA (by intros;rfl)) ⟨(gu aj).mono,(gu aj).mono,(gu aj).mono,(ti aj).mono,(ti aj).mono,(tj aj).mono,(tj aj).mono,(zx aj).mono,(qS aj).mono,(qS aj).mono,(ew aj).mono,(qT aj).mono,(Ju aj).mono,(Ju aj).mono,(cj aj).mono,(cj aj).mono,(gu aj).mono,(gu aj).mono,(qT aj).mono,(zz aj).mono,(tq aj).mono,(tq aj).mono,Z'⟩
end
def Hy:d_ (o_ × aY):=[(("abs":o_),k0 .abs),(("len":o_),k0 .len),(("list":o_),k0 .list),(("tuple":o_),k0 .tuple),(("dict":o_),k0 .dict),(("sum":o_),k0 .sum),(("max":o_),k0 .yC),(("min":o_),k0 .min2),(("any":o_),k0 .any),(("all":o_),k0 .all),(("int":o_),k0 .int),(("range":o_),.type "range"),(("enumerate":o_),.type "enumerate"),(("reversed":o_),.type "reversed")]
theorem abU:(Hy.all λp=>decide (p.1≠"__name__")&&decide (bootBuiltins p.1=f p.2))=R:=by decide +kernel
noncomputable def freeOk (q:z_) (x:o_):e_:=!startupNames.contains x&&(!(looseW q []).contains x&&(!((recsOf q).map (·.name)).contains x&&(!((litsOf q).map (·.1)).contains x&&!((clssOf q (looseW q [])).map (·.name)).contains x)))
structure Hz(q:z_):Prop where
 aeR:(table.all λx=>(recsOf q).any (PQ x))=R
 fre:(Hy.all λp=>freeOk q p.1)=R
 r01:wlitsOf q=[(("R0":o_),WData.tuple [.int 0,.int 1]),(("R1":o_),WData.tuple [.int 1,.int 1])]
 mb:valOf q "MOST_BITS"=f (.int 200000)
 mf:valOf q "MOST_FAR"=f (.int 20000)
 mw:valOf q "MOST_WORK"=f (.int 3000000)
theorem abV(r:ReadsLit h v (.tuple [.int i,.int j]) []):∀ D,bB h h D (.tup [.int i,.int j]) v:=by refine rX (reads_tuple_inv (reads_of_readsW (.tuple [.int i,.int j]) r)) λa o l n aL Y L h3 hr=>?_;clear r;subst aL;exact λD=>⟨a,l.toList,X,⟨o,Y,L,n,h3⟩,zP (Z:=[i,j]) (readsAll_intsAre0 (xs:=[i,j]) hr).1⟩
theorem abW{XP:(pS)->cE->Prop}{mg mb:pS}(iv:Hz q)(Y':Ground q [] hc XP w Kf mg mb cV.heap):GF cV mg mb:=by
 have T:=Y'.T;have hb:∀ x v,(x,v)∈Hy->DC mg mb x v:=λx v hm=>by have Y:=abU;have L:=iv.fre;rw[mG]at Y L;have Y:=Y _ hm;have L:=L _ hm;simp only[jb,jQ]at Y;dsimp only[freeOk]at L;simp only[jb,rR,List.contains_eq_mem,uK]at L;exact⟨T.free x L.1 L.2.1 L.2.2.1 L.2.2.2.1 L.2.2.2.2,(T.builtins x Y.1).trans Y.2⟩
 have U':∀ x i,valOf q x=f (.int i)->u7 cV mg x (.int i):=λx i hv=>by
  refine ah (T.const x _ hv) λv Y L=>?_;refine aK v Y (λD=>?_)
  have:=L cV.heap
  clear Y L;cases this;exact⟨_,X⟩
 refine⟨⟨T.g,T.b,T.nolimit⟩,λx hx=>?_,λk=>?_,λk=>?_,?_,?_,U' _ _ iv.mb,U' _ _ iv.mf,U' _ _ iv.mw⟩
 .have hr:=iv.aeR;rw[mG]at hr;have hx:=hr _ hx;rw[LX]at hx;obtain⟨d,hd,hk⟩:=hx;exact aK d hk (T.fn d hd)
 .cases k
  .exact hb _ _ (dU (i:=0) X)
  .exact hb _ _ (dU (i:=1) X)
  .exact hb _ _ (dU (i:=2) X)
  .exact hb _ _ (dU (i:=3) X)
  .exact hb _ _ (dU (i:=4) X)
  .exact hb _ _ (dU (i:=5) X)
  .exact hb _ _ (dU (i:=6) X)
  .exact hb _ _ (dU (i:=6) X)
  .exact hb _ _ (dU (i:=7) X)
  .exact hb _ _ (dU (i:=8) X)
  .exact hb _ _ (dU (i:=9) X)
  .exact hb _ _ (dU (i:=10) X)
 .cases k
  .trivial
  .exact hb _ _ (dU (i:=11) X)
  .exact hb _ _ (dU (i:=12) X)
  .exact hb _ _ (dU (i:=13) X)
 .refine ah (Y'.W.lits (("R0":o_),WData.tuple [.int 0,.int 1]) (by exact J iv.r01 aQ)) λv Y L=>?_;exact aK v Y (abV L)
 .refine ah (Y'.W.lits (("R1":o_),WData.tuple [.int 1,.int 1]) (by exact J iv.r01 (bg _ aQ))) λv Y L=>?_;exact aK v Y (abV L)
theorem gZ{h:cE}{m:pS}(σ:h.Ns P? m):i_<h.objs.size/\∃ o,h.get? P?=f o:=by obtain⟨o,es,ep,Y,_⟩:=σ;refine⟨?_,o,Y⟩;have L:P?<h.objs.size:=mF Y;exact rT (by decide) L
set_option tactic.hygienic true in
set_option maxRecDepth 100000 in
theorem P5{q:z_}{YP:dc->cE->Prop}{d:DefRec}{LU:d_ (o_ × av)}(iv:Hz q)(hdn:d.name = "law"):WalkO q [] (XL q []) YP PySem.Challenge.rw_xm0106_01.row.toRowW d LU (λK' M=>PySem.call K' M):=by
 intro w Kf cV mg mb Y' h1 fa o pm cd doc dV kV ho hd X6 hD hmg hg args vals as qX aeS hrd hwl P7
 wrow_args qX aeS hrd hwl P7
 rename_i Z _ _ _ _ _ _ _ la M _ hL _ _ _ hI _ U' _
 have aj:GF cV mg mb:=abW iv Y';obtain⟨T',aeT⟩:=PU (Z:=Z) (by dsimp only[lim];omega);refine H7 (Ta (w:=w) aj) λfa' o' fd' m1 m2 m3 m4=>?_;rw[hdn]at hmg;obtain rfl:fa'=fa:=by rw[hmg]at m1;clear m2 m4;cases m1;rfl
 refine ah (Y'.T.nodigits) λmc hst O=>?_;refine m4 callerA _ cV [] Js T' [.fv Z] [.ref la] (.bool R) _ ⟨X,by decide +kernel,by decide +kernel⟩ ⟨⟨cV.heap,cV.toks,X⟩,λO O h=>h,(gZ hst).1,(gZ hst).2,X,rV,λO h=>g_ h fH,λO h=>g_ h fH,λi e h=>by cases h⟩ (aG.cons (by exact fI la M X hL hI) aG.nil) aeT ?_;intro v s' b9 I' S' rv;dsimp only[bB]at rv;subst rv;refine gx (I'.same) λh' t' hs=>?_;refine qI (.inl ⟨.bool R,.bool R,[],X,λcls=>?_,.bool R,?_,λO=>⟨rV,λa B=>g_ B fH⟩⟩) (OldK.of_keep I'.keep) (by exact J hs X) (AllBare.of_eq (by exact J hs hg))
 .rfl
 .wrow_post
end Mine.Internal
end
section
open PySem PySem.W PyProof.Rows
namespace Mine.Internal
theorem Tb:Hz C0:=⟨by decide +kernel,by decide +kernel,by rfl,by rfl,by rfl,by rfl⟩
set_option maxRecDepth 100000 in
set_option maxHeartbeats 4000000 in
theorem Tc:PySem.Challenge.rw_xm0106_01.Holds:=by
 w_on
 refine holds_law Qs λaiL=>PySem.W.holds_open (q:=C0) (loose:=[]) (XP:=XL C0 []) (YP:=Hook.says X?) Qr (Hook.of X?) (Hook.keeps X?) (λs e=>xl_of s (tT4.mp e).1) XL.keeps (by rfl) (by rfl) (by rfl) (λs e=>recFacts_of (tT4.mp e).2) (by rfl) (by decide +kernel) (by decide +kernel) ⟨X,X,X,X,X,by decide +kernel⟩ ?hw ?hc
 case hw=>w_witness2
 exact P5 Tb X
end Mine.Internal
theorem PySem.Challenge.cw_xm0106_01_holds : PySem.Challenge.rw_xm0106_01.Holds := by
 exact Mine.Internal.Tc
end
end
