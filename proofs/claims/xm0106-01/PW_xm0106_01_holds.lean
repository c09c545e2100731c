import PyProof.Rows.All
import PyProof.Rules
import PyProof.TableCode
import PyProof.WalkLemmas
import PyProof.Raises
import PyProof.Rules2
import PyProof.Methods
import PyProof.FactsAll.list
import PyProof.AutoIntOps
import PyProof.Rules3
import PyProof.ListIndex
import PyProof.CallRoads
import PyProof.Cells
import PyProof.CompMap
import PyProof.CompUse
import PyProof.ConsumeWalk
import PyProof.MinMaxWalk
import PyProof.StrLoop
import PyProof.CompFree
import PyProof.PureInt
import PyProof.Conv_int
import PyProof.Dict
import PyProof.MeetsSeq
import PyProof.ListOps
import PyProof.MeetsDict
import PyProof.MeetsDictList
import PyProof.DictTruth
import PyProof.DictCompW
import PyProof.DictWalks
import PyProof.Draws
import PyProof.EnumMake
import PyProof.EqAt
import PyProof.NeKinds
import PyProof.RangeIter
import PyProof.WalksMore
import PyProof.WalksU
import PyProof.ListNew
import PyProof.ListCopy
import PyProof.ListIndexNeg
import PyProof.WalkInts
import PyProof.ReprLoop
import PyProof.Rows.Globals
import PyProof.Rows.Tup
import PyProof.Rows.TupAssign
import PyProof.Rows.TupSub
import PyProof.Rows.CellsFrame
import PyProof.Rows.Own
import PyProof.Rows.Exc
import PyProof.Rows.CellsNews
import PyProof.Rows.Nodes
import PyProof.WalksEnum
import PyProof.Rows.Method
import PyProof.Rows.StrTemp
import PyProof.Rows.NameDeclared
import PyProof.Rows.RuleN_abs
import PyProof.Rows.TupMore
import PyProof.SliceMore
import PyProof.RulesAssignMore
import PyProof.Rows.TupTab
import PyProof.Rows.TupDisplay
import PyProof.SumWalkG
import PyProof.TupleOfSeq
import PyProof.Rows.SortRuns
import PyProof.Rows.SortShell
import Open.Line
import Open.Boot
import Open.FastT9
import KE.KDictOf
import Wide.All
import Lean
import PySem.Challenge.RW_xm0106_01
set_option Elab.async false
set_option linter.all false
open Array renaming getElem?_eq_getElem->tT0,getElem?_eq_some_iff->tT1,length_toList->tT2
open Bool renaming and_eq_true->jc,and_eq_true_iff->tT4,and_self->YS,false_and->tT6,false_eq_true->LR,false_ne_true->Tt,false_or->tT9,not_eq_true'->rW,not_false->US,or_eq_false_iff->JF,or_eq_true->qx,or_false->JG
open PySem renaming wpAny->b_,model->c_,sysModules->i_,compEnvC->j_,Str->o_,mainGlobals->p_,Heap.SameBut->s_,letOwnedTupleGo->u_,Shared->v_,Builtin.Tuple.tupleCompareSizes->w_,Obj.mapSeq->z_,Program->B_,Value.none->F_,NameKind.free->G_,Value.ref->H_,Stmt->I_,eval->J_,builtinsNs->K_,Scope->L_,rawInt->M_,pyNext->N_,isTrue->O_,Builtin.Dict.takeOut->P_,Str.ofString->Q_,Builtin.SmallTypes.nextOf->R_,Builtin.Tuple.tupleExact->S_,codeAny->U_,DictEntry->V_,pyIter->W_,firstArgMember->X_,Calls.docDef->Z_,Builtin.List.listItems->u0,Challenge.pw_xm0106_01->mc,standAt->zk,starEach->Gq,cLine->oL,importedModules->d?,atKey->f?,sizeLine->g?,compTurn->i?,Builtin.Slice.slicePlaces->m?,Builtin.Slice.sliceAdjust->n?,intKind->o?,foldedSetIterable->p?,Env->t?,NameKind->u?,holding->v?,entryOfKey->w?,assignEach->x?,Value.type->y?,Builtin.Dict.showsAll->A?,valueOrNone->B?,Operator->C?,treeTable->E?,compareOp->G?,argBest->H?,W.boot_heap->M?,bindL->N?,bindC->O?,IsTupleKey->R?,notedBy->S?,cStatics->T?,swapsWith->V?,preSum->W?,backTo->X?,Str->Y?,Heap.ExtBut->Z?,F.args_dict_keyiterator_next_1->YU,F.args_tuple_iterator_next_1->YV,F.entry_dict_keyiterator_next->YW,F.entry_tuple_iterator_next->YX,F.plainAttrs_list->UT,F.slot_dict_iter->UU,F.slot_dict_keyiterator_next->L6,F.slot_dict_pop->Qu,F.slot_list_append->UW,F.slot_list_reversed->UX,F.slot_tuple_eq->UY,F.slot_tuple_iterator_next->Qv,Heap.SameBut.update->qZ,Heap.get?_push_ne->JH,Heap.get?_push_of_some->kE,Heap.get?_push_size->j5,Heap.get?_update_self->AU,Heap.lt_size->mJ,Heap.size_push->yF,Heap.size_update->Qw,Obj.cls_mapFields->Mf,Obj.data_mapDictKeys->HO,Obj.data_mapFields->zJ,Obj.isFreed_of_fields->Mg,mem_of_lookup->HP,Value.type.inj->HQ,builtinLookup_eq_fast->Mj,call_meets->C2,isSubtype_tuple_tuple->HX,isSubtype_type->HY,richCompare_meets_room->H6,sizeLine_eq->wB,size_of_entries->zN,slot_list_getitem->H7,typeLookup_type->Ml,wpAny_Constant_none->Mm,wpAny_assign_Name->Mn,wpAny_attempt->C9,wpAny_callSpecial?_slot->uT,wpAny_call_entry->iH,wpAny_dictEntries->qF,wpAny_dictEpoch->H9,wpAny_execs_nil->Mo,wpAny_field->qG,wpAny_getItem_list_slice->Mp,wpAny_holding->ox,wpAny_isInstance->wF,wpAny_listItems->Ia,wpAny_loadPart'->TB,wpAny_mono->oy,wpAny_newObj_type->kX,wpAny_notOrdered_dict->Ib,wpAny_of_eq->r7,wpAny_richCompare_same_room->Ic,wpAny_rule->qH,wpAny_seqItems->Mq,wpAny_setField->Dc,wpAny_specialOf->Mr,wpAny_standAt->zP,wpAny_tests_nil->Mt,wpAny_truthy_bool->qI,wpAny_tupleItemsOf->uU,wpAny_typeNameOfWhole_keyiter->Ie,wpAny_typeNameOf_keyiter->Ig,wpAny_typeOf->Ih,wpAny_bind->aT,wpAny_pure->cB,Challenge.pw_xm0106_01->Mu,Shared->aJ,Value->aY,Expr->av,Heap->cH,Around->dd,World->de,Addr->bU
open Int renaming fmod_eq_emod_of_nonneg->Qx,mul_one->Qy,natAbs_mul->JI,natCast_nonneg->Qz,negSucc_eq->AW,negSucc_lt_zero->YY,ofNat_eq_natCast->YZ,ofNat_le->QA,ofNat_lt->QB,ofNat_sub->UZ,pow_one->QC,subNatNat_eq_coe->Y0,toNat_natCast->CT,zero_add->U0
open List renaming all_eq_true->mK,any_eq_true->L7,append_assoc->U1,drop_eq_getElem_cons->Y1,filter_cons->U2,forall_mem_cons->Y2,getElem?_append_left->L8,getElem?_cons_succ->U3,getElem?_cons_zero->QE,getElem?_eq_getElem->lL,getElem?_eq_none->L9,getElem?_eq_some_iff->mq,getElem?_map->mL,getElem?_of_mem->Ma,getElem?_range->Y3,getElem?_reverse->JJ,getElem?_toArray->Y4,getElem?_zip_eq_some->Y5,getElem_inj->U4,getElem_mem->U5,isEmpty_iff->U6,length_replicate->Y6,length_take->U7,map_congr_left->Y7,map_eq_nil_iff->U8,map_reverse->U9,map_take->Va,mem_filter->Vb,mem_filterMap->Vc,mem_flatMap->Vd,mem_of_getElem?->dX,mem_range->Ve,nodup_append->Vf,of_mem_zip->Vg,prefix_append->Vh,any_cons->uN,any_nil->zM,append_nil->HR,cons_append->Mk,flatMap_cons->C4,forIn_cons->C5,forIn_nil->HW,length_append->ou,length_cons->fE,length_filter_le->HZ,length_map->cz,length_nil->uQ,length_reverse->uR,lookup_cons->qE,map_append->C6,map_cons->bW,map_map->fG,map_nil->mN,mem_append->fH,mem_append_left->uS,mem_append_right->H0,mem_cons->aV,mem_cons_of_mem->bg,mem_cons_self->aQ,mem_map->eT,mem_singleton->az,nil_append->C7,nodup_cons->gw,nodup_nil->r6,not_mem_nil->gx,prefix_rfl->eU,replicate_succ->H3,reverse_cons->C8,size_toArray->dZ,zip_cons_cons->uV
open Nat renaming add_add_add_comm->QF,add_lt_add_of_lt_of_le->Vi,add_mul_div_left->Y8,add_mul_mod_self_left->Y9,beq_refl->JK,ble_eq->CU,ble_eq_true_of_le->Za,div_add_mod->wq,div_div_eq_div_mul->CV,eq_of_beq_eq_true->wt,le_add_left->rX,le_of_ble_eq_true->iB,le_of_lt->kF,le_of_lt_succ->Vj,le_refl->c9,le_sub_one_of_lt->Tu,le_succ->CW,le_succ_of_le->CX,le_trans->aR,lt_irrefl->CY,lt_of_le_of_lt->mM,lt_of_lt_of_le->eE,lt_succ_of_le->zG,lt_succ_of_lt->uK,lt_succ_self->ky,lt_trans->rY,mod_lt->uL,mul_add->HM,mul_assoc->Mb,mul_comm->CZ,mul_le_mul_left->HN,mul_le_mul_right->zH,ne_of_beq_eq_false->Mc,ne_of_gt->rZ,ne_of_lt->jh,not_lt->wu,not_lt_zero->Md,pow_le_pow_right->Tv,sub_le->C0,sub_lt_sub_left->Tw,succ_le_succ->zI,succ_pos->iG,zero_add->wx,zero_le->ji
open Option renaming isNone_iff_eq_none->Tx,isSome_iff_exists->wy,isSome_some->Mh,map_eq_some_iff->zK,map_some->zL
open Option.some renaming inj->aw,injEq->dQ
open PyProof.Rows renaming callWith_builtin1->uM,callWith_type1->C1,gt_int->Tz,lt_int->TA,callWith_method1->HT,slot_tuple_getitem->H8,spliced_more->wC,spliced_none->zO,tail_any->wD,wpS_bind->iI,wpS_forRange->Dd,wpS_pure->qJ
open _root_ renaming Option.some->f,Option.none->R,Bool.false->N',rfl->X,Bool.true->V,Int->G,trivial->Z',Nat->a_,List->d_,Bool->e_,Nat.beq->f_,absurd->g_,And.intro->h_,Nat.ble->k_,List.replicate->l_,Subtype.val->m_,ForInStep.yield->n_,Nat.add->r_,Nat.blt->t_,List.map_cons->x_,Int.ofNat->y_,List.range->A_,Option->C_,List.map->D_,PyProof.Rows.arrOf->E_,Array->T_,Nat.sub->Y_,Nat.succ->b?,Nat.strongRecOn->e?,True->j?,PyProof.Rows.seqObj->k?,Unit->l?,Nat.mod->q?,Nat.gcd->r?,List.any_cons->s?,Nat.mul->z?,Int.negSucc->D?,List.map_nil->F?,List.any_nil->I?,Nat.div->J?,List.getD->K?,Int.neg->L?,Option.isSome->P?,Int.subNatNat->Q?,Int.add->U?,and_true->lQ,beq_eq_false_iff_ne->HS,beq_false_of_ne->uO,beq_iff_eq->wz,beq_self_eq_true->Mi,cond_false->HU,cond_true->C3,congrArg->cb,decide_eq_decide->HV,decide_eq_false->bT,decide_eq_false_iff_not->uP,decide_eq_true->bP,decide_eq_true_eq->jR,if_false->kW,if_neg->ak,if_pos->ai,if_true->gv,not_or->wA,of_decide_eq_true->dY,Option->af,Exists.elim->Qt,Int.ofNat.inj->vE,Nat.succ.inj->Me,Ne.symm->kz,Prod.mk.injEq->rU
open List(any_cons any_nil cons_append eraseP_cons map_cons map_nil nil_append replicate_succ sum_cons zip_cons_cons)
noncomputable section
set_option tactic.hygienic false
set_option genSizeOf false
set_option genInjectivity false
section
open PySem PySem.W PyProof.Rows
namespace Mine.Internal
noncomputable def Zb:d_ a_:=[1,3,4,5,7,8,9,10,11,12,13,14,15,16,17,18,20,21,23,24,25,26,28,29,30,31,32,33,34,36,37,38,39,40,41,42,43,44,45,47,48,49,50,51,52,53,54,56,57,58,59,60,61,62,64,65,66,67,68,69,70,72,73,75,76,77,78,79]
def bY:B_:={mc with main:={PySem.Challenge.pw_xm0106_01.main with body:=Zb.filterMap λi=>PySem.Challenge.pw_xm0106_01.main.body[i]?}}
noncomputable abbrev hdR:RowW:=OpenRow.toRowW PySem.Challenge.rw_xm0106_01.row
theorem adm:∀ w:World,(fencedOpening E? Mu w 4564).map (λs=>(s.heap,s.gens,s.drawn,s.toks))=f (M? w.params,Array.mk [],boot_drawn,boot_toks):=
 boot_open (by rfl) (by rfl) (λs=>by rfl)
noncomputable abbrev adn (w:World) (os:OsState):v_:=⟨M? w.params,Array.mk [],boot_drawn,boot_toks,os⟩
noncomputable abbrev TG (w:World) (os:OsState):=Fast.tw14082659384304107361 Fast.tw14364793385576792824 Mu w (M? w.params).objs.size ((M? w.params).nsMap p_ "__annotations__") 4564 (adn w os) (topStub Mu)
noncomputable abbrev wG:=d? Mu.main.body
noncomputable abbrev Zc (s:v_):=xlAt bY [] s&&recOk (RowW.records hdR) s
set_option maxRecDepth 100000
set_option maxHeartbeats 4000000
noncomputable abbrev De:d_ DefRec:=defsOf bY
noncomputable abbrev Mv:d_ o_:=["R0","R1"]
noncomputable abbrev Vk:d_ o_:=["MOST_BITS","MOST_FAR","MOST_WORK"]
noncomputable abbrev Vl:d_ o_:=["CasFail"]
noncomputable abbrev Zd (w:World) (s:v_):=(Fast.tw5160383126252970620 (De.map (·.name)) [] [] {s with gens:=#[]},s.heap.bltView,staticsOk wG (M? w.params) s.heap&&namesBound Mu s.heap&&gensDone s&&laidKept (M? w.params) s.heap)
noncomputable abbrev Ze (s:v_):=Fast.tw10880121769531294198 s.heap Mv (De.map (·.name)) Vk Vl&&Fast.tw14722251495701143533 s.heap wG&&s.heap.isNs p_&&s.heap.isNs K_&&Fast.tw10994771534591457954 bY s.heap&&Zc s&&s.gens.size==0
noncomputable abbrev Zf (s:v_):=((De.all λd=>Fast.tw5930804224584009831 s.heap d.name)&&Fast.tw5244371056499926238 s.heap&&Fast.tw2578726214315757710 bY s.heap)&&Fast.tw9649274521512697073 s.heap&&(Fast.tw11925523677476243305 bY).all (constAt s.heap)
noncomputable abbrev Vm:Seen:=⟨De.map λd=>f d.shape,V,[],V,V,V,0⟩
theorem ado:∀(w:World) (os:OsState),(TG w os).map (Zd w)=f (Vm,bltViewBooted,V):=λw os=>by kernel_rfl
theorem adp:∀(w:World) (os:OsState),(TG w os).map (λs=>Ze s&&Zf s)=f V:=λw os=>by kernel_rfl
theorem AX:recsOf bY=De:=by rw[Fast.te3399658132070893891];kernel_rfl
theorem Zg:drecsOf bY=[]:=by rw[Fast.te3247288618530077131];kernel_rfl
theorem TH:looseW bY []=Mv:=by rw[Fast.te821141287760084731];kernel_rfl
theorem TI:plainsOf bY Mv=[]:=by rw[Fast.te210736558901404530];kernel_rfl
theorem TJ:dclssOf bY []=[]:=by rw[Fast.te4354255287344443571];kernel_rfl
theorem Zh:wdefsOf bY=[]:=by rw[Fast.te694669760492028198];kernel_rfl
theorem TK:wclssOf bY []=[]:=by rw[Fast.te1571739515156823405];kernel_rfl
theorem Zi:ownsOf bY=[]:=by rw[Fast.te5991557255702980513];kernel_rfl
theorem Zj:(litsOf bY).map (·.1)=Vk:=by rw[Fast.te7409074990110511671];kernel_rfl
theorem Zk:(clssOf bY Mv).map (·.name)=Vl:=by rw[Fast.te13664370479719496447];kernel_rfl
theorem yG{α β:Type}{a a':α}{b b':β}(x:a=a')(y:b=b'):(a,b)=(a',b'):=by subst x y;rfl
theorem AY{a b:e_}(x:a=V)(y:b=V):(a&&b)=V:=tT4.mpr ⟨x,y⟩
theorem AZ{a b:e_}(h:(a&&b)=V):a=V/\b=V:=tT4.mp h
theorem Vn(s:v_)(k:Fast.tw10880121769531294198 s.heap Mv (De.map (·.name)) Vk Vl=V):s.heap.keysOk (looseW bY []) ((recsOf bY).map (·.name)) ((litsOf bY).map (·.1)) ((clssOf bY (looseW bY [])).map (·.name))=V:=by rw[TH,AX,Zj,Zk,Fast.te10880121769531294198];exact k
theorem Zl(s:v_)(k:Fast.tw14722251495701143533 s.heap wG=V):s.heap.accountedOkI wG=V:=by rw[Fast.te14722251495701143533];exact k
theorem Vo(s:v_)(k:Fast.tw10994771534591457954 bY s.heap=V):tablesOk bY s.heap=V:=by rw[Fast.te10994771534591457954];exact k
theorem Vp(s:v_)(k:(De.all λd=>Fast.tw5930804224584009831 s.heap d.name)=V):((recsOf bY).all λd=>s.heap.tab0Ok d.name)=V:=by rw[AX,Fast.te5930804224584009831];exact k
theorem adq(s:v_)(k:Fast.tw5244371056499926238 s.heap=V):s.heap.bmainOk=V:=by rw[Fast.te5244371056499926238];exact k
theorem Zm(s:v_)(k:Fast.tw2578726214315757710 bY s.heap=V):valsOk bY s.heap=V:=by rw[Fast.te2578726214315757710];exact k
theorem adr(s:v_)(k:Fast.tw9649274521512697073 s.heap=V):(!importsNone bY||s.heap.noSeerOk)=V:=by rw[Fast.te9649274521512697073,k];exact Bool.or_true _
theorem ads(s:v_)(k:(Fast.tw11925523677476243305 bY).all (constAt s.heap)=V):(wlitsOf bY).all (constAt s.heap)=V:=by rw[Fast.te11925523677476243305];exact k
theorem adt(s:v_)(a:Fast.tw5160383126252970620 (De.map (·.name)) [] [] s=Vm):seen ((recsOf bY).map (·.name)) (ownsOf bY) [] s=expectedOf bY:=by refine Eq.trans ?_ (cb (λr:d_ DefRec=>(⟨r.map λd=>f d.shape,V,[],V,V,V,0⟩:Seen)) AX.symm);rw[AX,Zi,Fast.te5160383126252970620];exact a
theorem adu(s:v_):pinSeenD bY (drecsOf bY) s=pinGoodD (drecsOf bY):=by rw[Zg];rfl
theorem adv(s:v_):plainSeenE bY (looseW bY []) s=plainGoodE bY (looseW bY []):=by rw[TH];exact(cb (D_ _) TI).trans (cb (D_ _) TI.symm)
theorem adw(s:v_):plainSeenD bY [] s=plainGoodD bY []:=(cb (D_ _) TJ).trans (cb (D_ _) TJ.symm)
theorem adx(s:v_)(k:(wlitsOf bY).all (constAt s.heap)=V):wideSeen bY s=wideGood bY:=by unfold wideSeen wideGood;rw[Zh];exact yG X k
theorem ady(s:v_):clsSeenW bY [] s=clsGoodW bY []:=(cb (D_ _) TK).trans (cb (D_ _) TK.symm)
theorem Vq(w:World)(s:v_)(N:Zd w s=(Vm,bltViewBooted,V))(L:(Ze s&&Zf s)=V):openSeen bY [] wG Zc V s=openGood bY []:=
 have h:=AZ L;have k7:=AZ h.1;have k6:=AZ k7.1;have k5:=AZ k6.1;have k4:=AZ k5.1;have k3:=AZ k4.1;have k2:=AZ k3.1;have l5:=AZ h.2;have l4:=AZ l5.1;have l3:=AZ l4.1;have l2:=AZ l3.1
 yG (adt _ (cb Prod.fst N)) (yG (cb (λx=>x.2.1) N)
  (yG (AY (AY (AY (AY (AY (AY (Vn s k2.1) (Zl s k2.2)) k3.2) k4.2) (Vo s k5.2)) k6.2) k7.2)
  (yG (AY (AY (AY (Vp s l2.1) (adq s l2.2)) (Zm s l3.2)) (adr s l4.2))
  (yG (adu s) (yG (adv s) (yG (adw s) (yG (adx s (ads s l5.2)) (ady s))))))))
theorem hdm{A:e_}{o:C_ v_}{g:v_->e_}{s:v_}:A=V->o=f s->g s=V->(match A with|V=>o.bind λs=>(match g s with|V=>f s|N'=>R)|N'=>R)=f s:=by intro z iv c;subst z iv;show(match g s with|V=>f s|N'=>R)=_;rw[c]
theorem Zn{p q:B_}{loose:d_ o_}{Xt:v_->e_}{α:Type}{Yf:v_->α}{Ya:World->α}{h1:a_}{g0:e_}{w:World}{mO cy:v_}(e:fencedOpening E? p w h1=f mO) (z:(mO.heap.isNs p_&&mO.gens.size==0)=V)(iv:Fast.tw14082659384304107361 Fast.tw14364793385576792824 p w mO.heap.objs.size (mO.heap.nsMap p_ "__annotations__") h1 mO (topStub p)=f cy)(c:(staticsOk (d? p.main.body) mO.heap cy.heap&&namesBound p cy.heap&&gensDone cy&&laidKept mO.heap cy.heap)=V)(g:openSeen q loose (d? p.main.body) Xt g0 cy=openGood q loose) (y:Yf cy=Ya w) :(openEnds E? p w h1).map (λs=>(openSeen q loose (d? p.main.body) Xt g0 s,Yf s))=f (openGood q loose,Ya w):=by
 have R':topRun E? p w mO.heap.objs.size (mO.heap.nsMap p_ "__annotations__") h1 mO (topStub p)=f cy:=by rw[Fast.te14082659384304107361,Fast.te14364793385576792824];exact iv
 have t:openEnds E? p w h1=f cy:=(cb (λo=>Option.bind o (topFrom E? p w h1)) e).trans (hdm (g:=λcy=>staticsOk (d? p.main.body) mO.heap cy.heap&&namesBound p cy.heap&&gensDone cy&&laidKept mO.heap cy.heap) z R' c);exact(cb (Option.map _) t).trans (cb f (yG g y))
theorem adz{o:C_ v_}{h:Heap}{gs:T_ GenState}{d:Drawn}{k:a_}(e:o.map (λs=>(s.heap,s.gens,s.drawn,s.toks))=f (h,gs,d,k)):∃ os,o=f ⟨h,gs,d,k,os⟩:=
 Qt (zK.mp e) λs a=>⟨s.os,a.1.trans (cb (λx=>f (Shared.mk x.1 x.2.1 x.2.2.1 x.2.2.2 s.os)) a.2)⟩
theorem adA{o:C_ v_}{α:Type}{K':v_->α}{a:α}{g:v_->e_}(N:o.map K'=f a)(L:o.map g=f V):∃ s,o=f s/\K' s=a/\g s=V:=
 Qt (zK.mp N) λs a=>⟨s,a.1,a.2,aw ((cb (Option.map g) a.1).symm.trans L)⟩
theorem QG:LeftO mc bY [] (λs=>xlAt bY [] s&&recOk (RowW.records hdR) s) (Hook.obs Hook.none) (Hook.val Hook.none) 4564:=λw=>
 Qt (adz (adm w)) λos e=>Qt (adA (ado w os) (adp w os)) λs h=>Zn e (by kernel_rfl) h.1 (cb (λx=>x.2.2) h.2.1) (Vq w s h.2.1 h.2.2) X
set_option maxRecDepth 100000 in
theorem QH:OpenLaw.wellSaid PySem.Challenge.rw_xm0106_01=V:=by rw[Fast.te9446332074065402090];kernel_rfl
end Mine.Internal
end
section
namespace Mine.Internal
section
variable{A ha sl ρ E:Prop}{Y':Prop}
theorem cF(h:A/\ha)(k:A->ha->Y'):Y':=k h.1 h.2
theorem dH(h:A/\ha/\sl)(k:A->ha->sl->Y'):Y':=k h.1 h.2.1 h.2.2
theorem jj(h:A/\ha/\sl/\ρ)(k:A->ha->sl->ρ->Y'):Y':=k h.1 h.2.1 h.2.2.1 h.2.2.2
theorem TL(h:A/\ha/\sl/\ρ/\E)(k:A->ha->sl->ρ->E->Y'):Y':=k h.1 h.2.1 h.2.2.1 h.2.2.2.1 h.2.2.2.2
end
section
variable{α:Sort _}{A ha sl ρ E F:α->Prop}{Y':Prop}
theorem cC(h:∃ x,A x)(k:∀ x,A x->Y'):Y':=h.elim λx h=>k x h
theorem ah(h:∃ x,A x/\ha x)(k:∀ x,A x->ha x->Y'):Y':=h.elim λx h=>k x h.1 h.2
theorem bZ(h:∃ x,A x/\ha x/\sl x)(k:∀ x,A x->ha x->sl x->Y'):Y':=h.elim λx h=>k x h.1 h.2.1 h.2.2
theorem kA(h:∃ x,A x/\ha x/\sl x/\ρ x)(k:∀ x,A x->ha x->sl x->ρ x->Y'):Y':=h.elim λx h=>k x h.1 h.2.1 h.2.2.1 h.2.2.2
theorem zQ(h:∃ x,A x/\ha x/\sl x/\ρ x/\E x)(k:∀ x,A x->ha x->sl x->ρ x->E x->Y'):Y':=h.elim λx h=>k x h.1 h.2.1 h.2.2.1 h.2.2.2.1 h.2.2.2.2
theorem Mw(h:∃ x,A x/\ha x/\sl x/\ρ x/\E x/\F x)(k:∀ x,A x->ha x->sl x->ρ x->E x->F x->Y'):Y':=h.elim λx h=>k x h.1 h.2.1 h.2.2.1 h.2.2.2.1 h.2.2.2.2.1 h.2.2.2.2.2
end
section
variable{α β:Sort _}{A ha sl ρ E F:α->β->Prop}{Y':Prop}
theorem gy(h:∃ x y,A x y)(k:∀ x y,A x y->Y'):Y':=h.elim λx h=>h.elim λy h=>k x y h
theorem eF(h:∃ x y,A x y/\ha x y)(k:∀ x y,A x y->ha x y->Y'):Y':=h.elim λx h=>h.elim λy h=>k x y h.1 h.2
theorem aW(h:∃ x y,A x y/\ha x y/\sl x y)(k:∀ x y,A x y->ha x y->sl x y->Y'):Y':=h.elim λx h=>h.elim λy h=>k x y h.1 h.2.1 h.2.2
theorem bA(h:∃ x y,A x y/\ha x y/\sl x y/\ρ x y)(k:∀ x y,A x y->ha x y->sl x y->ρ x y->Y'):Y':=h.elim λx h=>h.elim λy h=>k x y h.1 h.2.1 h.2.2.1 h.2.2.2
theorem fg(h:∃ x y,A x y/\ha x y/\sl x y/\ρ x y/\E x y)(k:∀ x y,A x y->ha x y->sl x y->ρ x y->E x y->Y'):Y':=h.elim λx h=>h.elim λy h=>k x y h.1 h.2.1 h.2.2.1 h.2.2.2.1 h.2.2.2.2
theorem oz(h:∃ x y,A x y/\ha x y/\sl x y/\ρ x y/\E x y/\F x y)(k:∀ x y,A x y->ha x y->sl x y->ρ x y->E x y->F x y->Y'):Y':=h.elim λx h=>h.elim λy h=>k x y h.1 h.2.1 h.2.2.1 h.2.2.2.1 h.2.2.2.2.1 h.2.2.2.2.2
end
section
variable{α β γ:Sort _}{A ha sl ρ E F j' I:α->β->γ->Prop}{Y':Prop}
theorem Ii(h:∃ x y z,A x y z)(k:∀ x y z,A x y z->Y'):Y':=h.elim λx h=>h.elim λy h=>h.elim λz h=>k x y z h
theorem uW(h:∃ x y z,A x y z/\ha x y z)(k:∀ x y z,A x y z->ha x y z->Y'):Y':=h.elim λx h=>h.elim λy h=>h.elim λz h=>k x y z h.1 h.2
theorem zR(h:∃ x y z,A x y z/\ha x y z/\sl x y z)(k:∀ x y z,A x y z->ha x y z->sl x y z->Y'):Y':=h.elim λx h=>h.elim λy h=>h.elim λz h=>k x y z h.1 h.2.1 h.2.2
theorem Ij(h:∃ x y z,A x y z/\ha x y z/\sl x y z/\ρ x y z)(k:∀ x y z,A x y z->ha x y z->sl x y z->ρ x y z->Y'):Y':=h.elim λx h=>h.elim λy h=>h.elim λz h=>k x y z h.1 h.2.1 h.2.2.1 h.2.2.2
theorem Ik(h:∃ x y z,A x y z/\ha x y z/\sl x y z/\ρ x y z/\E x y z)(k:∀ x y z,A x y z->ha x y z->sl x y z->ρ x y z->E x y z->Y'):Y':=h.elim λx h=>h.elim λy h=>h.elim λz h=>k x y z h.1 h.2.1 h.2.2.1 h.2.2.2.1 h.2.2.2.2
theorem zS(h:∃ x y z,A x y z/\ha x y z/\sl x y z/\ρ x y z/\E x y z/\F x y z)(k:∀ x y z,A x y z->ha x y z->sl x y z->ρ x y z->E x y z->F x y z->Y'):Y':=h.elim λx h=>h.elim λy h=>h.elim λz h=>k x y z h.1 h.2.1 h.2.2.1 h.2.2.2.1 h.2.2.2.2.1 h.2.2.2.2.2
theorem TM(h:∃ x y z,A x y z/\ha x y z/\sl x y z/\ρ x y z/\E x y z/\F x y z/\j' x y z/\I x y z)(k:∀ x y z,A x y z->ha x y z->sl x y z->ρ x y z->E x y z->F x y z->j' x y z->I x y z->Y'):Y':=h.elim λx h=>h.elim λy h=>h.elim λz h=>k x y z h.1 h.2.1 h.2.2.1 h.2.2.2.1 h.2.2.2.2.1 h.2.2.2.2.2.1 h.2.2.2.2.2.2.1 h.2.2.2.2.2.2.2
end
section
variable{α β γ δ:Sort _}{A ha sl ρ E F:α->β->γ->δ->Prop}{Y':Prop}
theorem Zo(h:∃ x y z u,A x y z u)(k:∀ x y z u,A x y z u->Y'):Y':=h.elim λx h=>h.elim λy h=>h.elim λz h=>h.elim λu h=>k x y z u h
theorem Mx(h:∃ x y z u,A x y z u/\ha x y z u)(k:∀ x y z u,A x y z u->ha x y z u->Y'):Y':=h.elim λx h=>h.elim λy h=>h.elim λz h=>h.elim λu h=>k x y z u h.1 h.2
theorem fh(h:∃ x y z u,A x y z u/\ha x y z u/\sl x y z u)(k:∀ x y z u,A x y z u->ha x y z u->sl x y z u->Y'):Y':=h.elim λx h=>h.elim λy h=>h.elim λz h=>h.elim λu h=>k x y z u h.1 h.2.1 h.2.2
theorem wH(h:∃ x y z u,A x y z u/\ha x y z u/\sl x y z u/\ρ x y z u)(k:∀ x y z u,A x y z u->ha x y z u->sl x y z u->ρ x y z u->Y'):Y':=h.elim λx h=>h.elim λy h=>h.elim λz h=>h.elim λu h=>k x y z u h.1 h.2.1 h.2.2.1 h.2.2.2
theorem r8(h:∃ x y z u,A x y z u/\ha x y z u/\sl x y z u/\ρ x y z u/\E x y z u)(k:∀ x y z u,A x y z u->ha x y z u->sl x y z u->ρ x y z u->E x y z u->Y'):Y':=h.elim λx h=>h.elim λy h=>h.elim λz h=>h.elim λu h=>k x y z u h.1 h.2.1 h.2.2.1 h.2.2.2.1 h.2.2.2.2
theorem Zp(h:∃ x y z u,A x y z u/\ha x y z u/\sl x y z u/\ρ x y z u/\E x y z u/\F x y z u)(k:∀ x y z u,A x y z u->ha x y z u->sl x y z u->ρ x y z u->E x y z u->F x y z u->Y'):Y':=h.elim λx h=>h.elim λy h=>h.elim λz h=>h.elim λu h=>k x y z u h.1 h.2.1 h.2.2.1 h.2.2.2.1 h.2.2.2.2.1 h.2.2.2.2.2
end
section
variable{α β γ δ ε:Sort _}{A ha:α->β->γ->δ->ε->Prop}{Y':Prop}
theorem wI(h:∃ x y z u v,A x y z u v/\ha x y z u v)(k:∀ x y z u v,A x y z u v->ha x y z u v->Y'):Y':=h.elim λx h=>h.elim λy h=>h.elim λz h=>h.elim λu h=>h.elim λv h=>k x y z u v h.1 h.2
end
theorem nab{x y:G}{a b:a_}(h:x.natAbs<=a)(k:y.natAbs<=b):(x+y).natAbs<=a+b:=aR (Int.natAbs_add_le x y) (Nat.add_le_add h k)
theorem My{k n:a_}(h:k<n):n-1-k<n:=Nat.sub_one_sub_lt_of_lt h
theorem TN{k n:a_}(h:k<n):n-1-(n-1-k)=k:=Nat.sub_sub_self (Tu h)
theorem Mz{k n:a_}(h:k<n):n-1-k+k+1=n:=(cb b? (Nat.sub_add_cancel (Tu h))).trans (Nat.sub_add_cancel (mM (ji k) h))
theorem nnF{P:G->Prop}{n:a_}{v:G}(h:∀ j:Fin n,P (j.1:G))(h0:0<=v)(N:v<n):P v:=by cases v with|ofNat k=>exact h ⟨k,QB.mp N⟩|negSucc k=>exact nomatch h0
theorem nbF{P:G->Prop}{n:a_}{v:G}(h:∀ j:Fin (n+1),P (j.1:G)/\P (-(j.1:G)))(h0:v.natAbs<=n):P v:=by cases v with|ofNat k=>exact(h ⟨k,zG h0⟩).1|negSucc k=>exact(h ⟨k+1,zG h0⟩).2
theorem dlF{a b g:a_}(h:b<=a)(e:a-b=g):(a:G)-1-((b:G)-1)=(g:G):=by omega
theorem Vr{k n:a_}(h:k<n):(n:G)-1-(k:G)=((n-1-k:a_):G):=by have:=Mz h;omega
theorem MA{k n:a_}(h:k<n) : -((k:G)+1)+(n:G)=((n-1-k:a_):G):=by have:=Mz h;omega
theorem ib{T:Prop}(h:∀ Y':Prop,(T->Y')->Y'):T:=h T λt=>t
section
variable{α:Sort _}{A ha sl ρ E F:α->Prop}
theorem TO(k:∀ Y':Prop,(∀ x,A x->Y')->Y'):∃ x,A x:=k _ λx a=>⟨x,a⟩
theorem Df(k:∀ Y':Prop,(∀ x,A x->ha x->Y')->Y'):∃ x,A x/\ha x:=k _ λx a b=>⟨x,a,b⟩
end
section
variable{α β:Sort _}{A ha sl ρ E F:α->β->Prop}
theorem Dg(k:∀ Y':Prop,(∀ x y,A x y->Y')->Y'):∃ x y,A x y:=k _ λx y a=>⟨x,y,a⟩
theorem MC(k:∀ Y':Prop,(∀ x y,A x y->ha x y->Y')->Y'):∃ x y,A x y/\ha x y:=k _ λx y a b=>⟨x,y,a,b⟩
theorem Dh(k:∀ Y':Prop,(∀ x y,A x y->ha x y->sl x y->Y')->Y'):∃ x y,A x y/\ha x y/\sl x y:=k _ λx y a b c=>⟨x,y,a,b,c⟩
theorem TP(k:∀ Y':Prop,(∀ x y,A x y->ha x y->sl x y->ρ x y->Y')->Y'):∃ x y,A x y/\ha x y/\sl x y/\ρ x y:=k _ λx y a b c d=>⟨x,y,a,b,c,d⟩
end
section
variable{α β γ:Sort _}{A ha sl ρ E F j' I:α->β->γ->Prop}
theorem Zq(k:∀ Y':Prop,(∀ x y z,A x y z->ha x y z->Y')->Y'):∃ x y z,A x y z/\ha x y z:=k _ λx y z a b=>⟨x,y,z,a,b⟩
theorem MD(k:∀ Y':Prop,(∀ x y z,A x y z->ha x y z->sl x y z->Y')->Y'):∃ x y z,A x y z/\ha x y z/\sl x y z:=k _ λx y z a b c=>⟨x,y,z,a,b,c⟩
end
section
variable{α β γ δ:Sort _}{A ha sl ρ E F j' I aa K:α->β->γ->δ->Prop}
theorem Zr(k:∀ Y':Prop,(∀ x y z u,A x y z u->ha x y z u->sl x y z u->ρ x y z u->E x y z u->F x y z u->j' x y z u->I x y z u->aa x y z u->K x y z u->Y')->Y'):∃ x y z u,A x y z u/\ha x y z u/\sl x y z u/\ρ x y z u/\E x y z u/\F x y z u/\j' x y z u/\I x y z u/\aa x y z u/\K x y z u:=k _ λx y z u a b c d e K' g h i j=>⟨x,y,z,u,a,b,c,d,e,K',g,h,i,j⟩
end
section
variable{α β γ δ ε:Sort _}{A ha sl ρ E F j' I aa K:α->β->γ->δ->ε->Prop}
theorem ME(k:∀ Y':Prop,(∀ x y z u v,A x y z u v->ha x y z u v->Y')->Y'):∃ x y z u v,A x y z u v/\ha x y z u v:=k _ λx y z u v a b=>⟨x,y,z,u,v,a,b⟩
end
section
variable{α β γ δ ε ζ η:Sort _}{A ha sl ρ E F:α->β->γ->δ->ε->ζ->η->Prop}
end
theorem nS{β:Type _}{x:β}{Y':Prop}(h:R=f x):Y':=nomatch h
theorem sN{β:Type _}{x:β}{Y':Prop}(h:f x=R):Y':=nomatch h
theorem fT{Y':Prop}(h:N'=V):Y':=nomatch h
theorem nF{A:Sort _}{β:Type _}{x:β}{Y':Prop}(_:A)(h:R=f x):Y':=nS h
theorem lR{A ha:Sort _}{β:Type _}{x:β}{Y':Prop}(_:A)(_:ha)(h:R=f x):Y':=nS h
theorem fF{A:Sort _}{Y':Prop}(_:A)(h:N'=V):Y':=fT h
theorem Yy{A ha:Sort _}{Y':Prop}(_:A)(_:ha)(h:N'=V):Y':=fT h
theorem tF{Y':Prop}(h:V=N'):Y':=nomatch h
theorem Il{a b:e_}{Y':Prop}(h:(a&&b)=V)(k:a=V->b=V->Y'):Y':=by
 cases a
 .exact nomatch h
 .exact k X h
theorem JL{a b c:e_}{Y':Prop}(z:(a&&b&&c)=V)(k:a=V->b=V->c=V->Y'):Y':=Il z λz y=>Il z λx0 x1=>k x0 x1 y
theorem bn4{a b c d:e_}{Y':Prop}(z:(a&&b&&c&&d)=V)(k:a=V->b=V->c=V->d=V->Y'):Y':=Il z λz y=>JL z λx0 x1 x2=>k x0 x1 x2 y
theorem bn5{a b c d e:e_}{Y':Prop}(z:(a&&b&&c&&d&&e)=V)(k:a=V->b=V->c=V->d=V->e=V->Y'):Y':=Il z λz y=>bn4 z λx0 x1 x2 x3=>k x0 x1 x2 x3 y
theorem bn6{a b c d e K':e_}{Y':Prop}(z:(a&&b&&c&&d&&e&&K')=V)(k:a=V->b=V->c=V->d=V->e=V->K'=V->Y'):Y':=Il z λz y=>bn5 z λx0 x1 x2 x3 x4=>k x0 x1 x2 x3 x4 y
theorem bn7{a b c d e K' g:e_}{Y':Prop}(z:(a&&b&&c&&d&&e&&K'&&g)=V)(k:a=V->b=V->c=V->d=V->e=V->K'=V->g=V->Y'):Y':=Il z λz y=>bn6 z λx0 x1 x2 x3 x4 x5=>k x0 x1 x2 x3 x4 x5 y
@[elab_as_elim] theorem J{α:Sort _}{a b:α}{P:α->Prop}(h:a=b)(k:P b):P a:=h▸k
@[elab_as_elim] theorem dT{α:Sort _}{a b:α}{P:α->Prop}(h:b=a)(k:P b):P a:=h▸k
@[elab_as_elim] theorem gJ{α β:Type _}{a:α}{b:β}{P:α->β->Prop}{c:α}{d:β}(h:f (a,b)=f (c,d))(k:P a b):P c d:=dT (P:=λx:α × β=>P x.1 x.2) (b:=(a,b)) (a:=(c,d)) (aw h) k
@[elab_as_elim] theorem JM{α β γ:Type _}{a:α}{b:β}{c:γ}{P:α->β->γ->Prop}{d:α}{e:β}{K':γ}(h:f (a,b,c)=f (d,e,K'))(k:P a b c):P d e K':=dT (P:=λx:α × β × γ=>P x.1 x.2.1 x.2.2) (b:=(a,b,c)) (a:=(d,e,K')) (aw h) k
theorem oP{α β:Type _}{a c:α}{b d:β}(h:f (a,b)=f (c,d)):a=c/\b=d:=have q:=aw h;⟨cb Prod.fst q,cb Prod.snd q⟩
theorem oT{α β γ:Type _}{a c:α}{b d:β}{x y:γ}(h:f (a,b,x)=f (c,d,y)):a=c/\b=d/\x=y:=have q:=aw h;⟨cb Prod.fst q,oP (cb f (cb Prod.snd q))⟩
set_option genCtorIdx false in
inductive AV where
 |ub|none|bool (b:e_)|int (i:G)|str (n:a_)|tup (Z:d_ AV)|fx (Z:d_ G)|ref (n:a_)
gen_injective_theorems% AV
@[simp] theorem AV.tup.injEq (a b):(AV.tup a=AV.tup b)=(a=b):=propext ⟨λh=>by cases h;rfl,λh=>h▸X⟩
@[simp] theorem AV.int.injEq (a b):(AV.int a=AV.int b)=(a=b):=propext ⟨λh=>by cases h;rfl,λh=>h▸X⟩
@[simp] theorem AV.bool.injEq (a b):(AV.bool a=AV.bool b)=(a=b):=propext ⟨λh=>by cases h;rfl,λh=>h▸X⟩
set_option genCtorIdx false in
inductive AO where
 |list (Z:d_ AV)
 |dict (bJ:d_ (d_ G × AV))
gen_injective_theorems% AO
structure Ent where
 locked:e_
 obj:AO
set_option genCtorIdx false in
inductive Tr where
 |nil
 |node (v:C_ Ent) (l r:Tr)
gen_injective_theorems% Tr
structure St where
 n:a_
 t:Tr
noncomputable def Tr.get:Tr->a_->C_ Ent|.nil,O=>R|.node v l r,i=>if i=0 then v else if i%2=1 then l.get (i/2) else r.get (i/2-1)
noncomputable def Tr.put:Tr->a_->Ent->Tr|.nil,O,o=>.node (f o) .nil .nil|.node v l r,i,o=>if i=0 then .node (f o) l r else if i%2=1 then .node v (l.put (i/2) o) r else .node v l (r.put (i/2-1) o)
theorem hv2{a i:a_}(m:i%2=a%2)(h:i/2=a/2):i=a:=(wq i 2).symm.trans (J h (J m (wq a 2)))
theorem od2{a i:a_}(p:a%2=1)(q:i%2=1):(i/2=a/2)=(i=a):=propext ⟨hv2 (q.trans p.symm),λh=>h▸X⟩
theorem hp2{i:a_}(hi:i≠0)(q:i%2=0):0<i/2:=Nat.pos_of_ne_zero λe=>hi ((wq i 2).symm.trans (J e (J q X)))
theorem ev2{a i:a_}(B:a≠0)(hi:i≠0)(p:¬a%2=1)(q:¬i%2=1):(i/2-1=a/2-1)=(i=a):=
 have p:=Nat.mod_two_ne_one.mp p;have q:=Nat.mod_two_ne_one.mp q
 propext ⟨λh=>hv2 (q.trans p.symm) (Nat.sub_one_cancel (hp2 hi q) (hp2 B p) h),λh=>h▸X⟩
theorem Tr.get_nil(v:C_ Ent)(i:a_):(Tr.node v .nil .nil).get i=if i=0 then v else .none:=by show(if i=0 then v else if i%2=1 then .none else .none)=_;rw[ite_self]
theorem Tr.vW(o:Ent):∀(t:Tr) (a:a_),((t.put a o).get a).isSome=V->∀ i,(t.put a o).get i=if i=a then f o else t.get i:=by
 intro t
 induction t with
 |nil=>
  intro a h i;by_cases B:a=0
  .exact J B (Tr.get_nil (f o) i)
  .exact fT ((cb P? (ak B)).symm.trans ((cb P? (Tr.get_nil (f o) a)).symm.trans h))
 |node v l r ihl ihr=>
  intro a h i;by_cases hi:i=0
  .by_cases B:a=0
   .exact J B (J hi X)
   .refine Eq.trans ?_ (ak (λq=>B (q.symm.trans hi):i≠a)).symm;by_cases pa:a%2=1
    .exact J (show(Tr.node v l r).put a o=.node v (l.put (a/2) o) r from(ak B).trans (ai pa)) ((ai hi).trans (ai hi).symm)
    .exact J (show(Tr.node v l r).put a o=.node v l (r.put (a/2-1) o) from(ak B).trans (ak pa)) ((ai hi).trans (ai hi).symm)
  .by_cases B:a=0
   .refine J B (Eq.trans ?_ (ak hi).symm);exact(ak hi).trans (ak hi).symm
   .by_cases pa:a%2=1
    .have e:(Tr.node v l r).put a o=.node v (l.put (a/2) o) r:=(ak B).trans (ai pa);rw[e]at h;refine J e ?_;by_cases pi:i%2=1
     .exact((ak hi).trans (ai pi)).trans (((ihl (a/2) ((cb P? ((ak B).trans (ai pa))).symm.trans h)) (i/2)).trans (ite_congr (od2 pa pi) (λO=>X) (λO=>((ak hi).trans (ai pi)).symm)))
     .exact((ak hi).trans (ak pi)).trans ((ak (λq:i=a=>pi (q▸pa))).trans ((ak hi).trans (ak pi))).symm
    .have e:(Tr.node v l r).put a o=.node v l (r.put (a/2-1) o):=(ak B).trans (ak pa);rw[e]at h;refine J e ?_;by_cases pi:i%2=1
     .exact((ak hi).trans (ai pi)).trans ((ak (λq:i=a=>pa (q▸pi))).trans ((ak hi).trans (ai pi))).symm
     .exact((ak hi).trans (ak pi)).trans (((ihr (a/2-1) ((cb P? ((ak B).trans (ak pa))).symm.trans h)) (i/2-1)).trans (ite_congr (ev2 B hi pa pi) (λO=>X) (λO=>((ak hi).trans (ak pi)).symm)))
namespace St
def ent(s:St)(i:a_):C_ Ent:=s.t.get i
noncomputable def get (s:St) (i:a_):C_ AO:=(s.t.get i).map (·.obj)
def flag(s:St)(i:a_):e_:=match s.t.get i with|f e=>e.locked |R=>N'
def getM(s:St)(i:a_):C_ AO:=match s.t.get i with|f ⟨N',o⟩=>f o|_=>R
def JN(s:St)(i:a_)(e:Ent):C_ St:=
 let t:=s.t.put i e
 match (t.get i).isSome with|V=>f ⟨s.n,t⟩|N'=>R
def set(s:St)(i:a_)(o:AO):C_ St:=s.JN i ⟨N',o⟩
def kG(s:St)(i:a_)(b:e_):C_ St:=match s.t.get i with|f e=>s.JN i ⟨b,e.obj⟩ |R=>R
def push(s:St)(o:AO):C_ St:=
 let t:=s.t.put s.n ⟨N',o⟩
 match (t.get s.n).isSome with|V=>f ⟨s.n+1,t⟩|N'=>R
end St
noncomputable def Fx (K':AV->AV->C_ e_):d_ AV->d_ AV->C_ e_|[],[]=>f V|x::Z,y::ys=>(match K' x y with|f p=>(match Fx K' Z ys with|f q=>f (p&&q)|R=>R)|R=>R)|[],O::O'=>f N'|O::O',[]=>f N'
def fq:a_->AV->AV->C_ e_|O,.int a,.int b=>f (decide (a=b))|d+1,.tup a,.tup b=>Fx (fq d) a b|O,O',O''=>R
noncomputable def r9 (K' g:AV->AV->C_ e_) (e:e_):d_ AV->d_ AV->C_ e_|x::Z,y::ys=>(match K' x y with|f V=>r9 K' g e Z ys|f N'=>g x y|R=>R)|[],O=>f e|O::O',[]=>f e
def kY(gt:e_):a_->AV->AV->C_ e_|O,.int a,.int b=>f (if gt then decide (b<a) else decide (a<b))|d+1,.tup a,.tup b=>r9 (fq d) (kY gt d) (if gt then decide (b.length<a.length) else decide (a.length<b.length)) a b|O,O',O''=>R
def jk(x:AV):d_ AV->C_ e_|[]=>f N'|y::ys=>match fq 3 y x with|f p=>(match jk x ys with|f q=>f (p||q)|R=>R)|R=>R
noncomputable def keyOf:d_ AV->C_ (d_ G)
 |[]=>f []
 |.int i::r=>match keyOf r with|f k=>f (i::k) |R=>R
 |_=>R
noncomputable def smallKey:d_ G->e_|[.ofNat i,.ofNat j,.ofNat k]=>t_ i 6&&t_ j 6&&t_ k 6|_=>N'
noncomputable def iJ (k:d_ G):AV:=.tup (k.map .int)
noncomputable def jS:d_ (d_ G × AV)->d_ G->C_ AV|[],O=>R|p::r,x=>if p.1=x then f p.2 else jS r x
noncomputable def iK:d_ (d_ G × AV)->d_ G->AV->d_ (d_ G × AV)|[],x,v=>[(x,v)]|p::r,x,v=>if p.1=x then(p.1,v)::r else p::iK r x v
noncomputable def lM:d_ (d_ G × AV)->d_ G->d_ (d_ G × AV)|[],O=>[]|p::r,x=>if p.1=x then r else p::lM r x
inductive A0|add|sub|mul|fdiv|mod|pow
inductive A6|eq|ne|lt|le|gt|ge
inductive BI|abs|len|list|tuple|dict|sum|yH|max2|min2|any|all|int
inductive tG|plain|range|enum|rev
noncomputable abbrev Fn:=St->d_ AV->C_ (St × AV)
set_option genCtorIdx false in
inductive PV where
 |any
 |b (v:AV)
 |tup (Z:d_ PV)
 |list (Z:d_ PV)
 |dict (bJ:d_ (d_ G × AV))
gen_injective_theorems% PV
@[simp] theorem PV.b.injEq (a b):(PV.b a=PV.b b)=(a=b):=propext ⟨λh=>by cases h;rfl,λh=>h▸X⟩
abbrev dc:=d_ (d_ G × Mine.Internal.AV)
abbrev aC:=d_ Mine.Internal.PV
abbrev al:=d_ Mine.Internal.AV
abbrev aA:=d_ G
abbrev cg:=d_ PySem.Addr
abbrev cj:=d_ a_
abbrev dI:=d_ PySem.Value
abbrev ft:=C_ Mine.Internal.PV
abbrev dF:=d_ PySem.Expr
abbrev cP:=PySem.Value->PySem.Shared->Prop
abbrev pY:=Y?->C_ PySem.Value
abbrev jT:=a_->e_
abbrev jq:=C_ (Mine.Internal.St × Mine.Internal.AV)
structure gz where
 fn:aC->ft
 fr:e_
 mu:e_
set_option genCtorIdx false in
inductive CE where
 |k (v:AV)
 |glob (x:Y?) (v:AV)
 |var (i:a_)
 |bin (o:A0) (a b:CE)
 |neg (a:CE)
 |cmp (o:A6) (a b:CE)
 |isNone (y:e_) (a:CE)
 |isin (y:e_) (a b:CE)
 |and (a b:CE)
 |or (a b:CE)
 |not (a:CE)
 |ite (t a b:CE)
 |call (K':Y?) (F:Fn) (P:gz) (as:CE)
 |bi (b:BI) (as:CE)
 |idx (a i:CE)
 |gK (a k:CE)
 |fu (a k:CE)
 |bc (as:CE)
 |lst (as:CE)
 |gA
 |kZ (k v:CE)
 |bq (e:CE) (C':cj) (ik:tG) (it:CE)
 |bR (e:CE) (C':cj) (ik:tG) (it c:CE)
 |dJ (e:CE) (C':cj) (ik:tG) (it:CE) (tgt2:cj) (tH:tG) (qK:CE)
 |jU (k v:CE) (C':cj) (ik:tG) (it:CE)
 |bad
 |nil
 |cons (e r:CE)
gen_injective_theorems% CE
set_option genCtorIdx false in
inductive CS where
 |assign (i:a_) (e:CE)
 |bj (is:cj) (e:CE)
 |dh (o:a_) (i e:CE)
 |aug (k:A0) (i:a_) (e:CE)
 |iL (k:A0) (o:a_) (i e:CE)
 |ret (e:CE)
 |iff (t:CE) (a b:CS)
 |kH (t:CE) (b:CS)
 |gF (C':cj) (ik:tG) (it:CE) (b:CS)
 |cont
 |qy (d:a_) (k:CE)
 |qz (d:a_) (k:CE)
 |append (l:a_) (e:CE)
 |extend (l:a_) (e:CE)
 |sort (l:a_)
 |expr (e:CE)
 |raise
 |skip
 |seq (a b:CS)
gen_injective_theorems% CS
set_option genCtorIdx false in
inductive Fl where
 |next|cont|ret (v:AV)
gen_injective_theorems% Fl
noncomputable def ao:al->a_->AV|[],O=>.ub|x::O,0=>x|O::r,i+1=>ao r i
noncomputable def aE:al->a_->AV->al|[],O,O'=>[]|O::r,0,v=>v::r|x::r,i+1,v=>x::aE r i v
def bindL:cj->al->al->af (al)|[],[],C=>f C|i::is,x::Z,C=>bindL is Z (aE C i x)|O,O',O''=>R
def dw(is:cj)(v:AV)(C:al):af (al):=match is with|[i]=>f (aE C i v)|is=>match v with|.tup Z=>bindL is Z C|_=>R
noncomputable def cmpInt (o:A6) (a b:G):e_:=match o with|.eq=>decide (a=b)|.ne=>!decide (a=b)|.lt=>decide (a<b)|.le=>decide (a<=b)|.gt=>decide (b<a)|.ge=>decide (b<=a)
def fy(s:St)(o:A6)(a b:AV):af e_:=match a,b with
 |.int x,.int y=>f (cmpInt o x y)
 |.tup x,.tup y=>match o with
  |.eq=>fq 3 (.tup x) (.tup y)
  |.ne=>match fq 3 (.tup x) (.tup y) with|f p=>f (!p) |R=>R
  |.lt=>kY N' 3 (.tup x) (.tup y)
  |.gt=>kY V 3 (.tup x) (.tup y)
  |_=>R
 |.str x,.str y=>match o with|.eq=>f (decide (x=y))|_=>R
 |.ref x,.ref y=>match s.get x with|f (.list Z)=>(match s.get y with|f (.list ys)=>(match Z.isEmpty||ys.isEmpty with|V=>(match o with|.eq=>f (Z.isEmpty&&ys.isEmpty)|.ne=>f (!(Z.isEmpty&&ys.isEmpty))|_=>R)|N'=>R)|_=>R)|_=>R
 |O,O'=>R
noncomputable def lim:a_:=1000000
noncomputable def AV.isNone:AV->e_|none=>V|_=>N'
noncomputable def cX (o:A0) (a b:G):af G:=match o with|.add=>f (a+b)|.sub=>f (a-b)|.mul=>if a.natAbs<2^63/\b.natAbs<2^63 then f (a*b) else .none|.fdiv=>if b≠0/\b.natAbs<1073741824 then f (a.fdiv b) else .none|.mod=>if b=0 then .none else f (a.fmod b)|.pow=>match b with|.ofNat n=>if a.natAbs<2^63/\n<=4096 then f (a^n) else .none|_=>R
def oA(s:St)(o:A0)(a b:AV):jq:=match a,b with|.int x,.int y=>(match cX o x y with|f z=>f (s,.int z)|R=>R)|.ref x,.ref y=>(match o with|.add=>(match s.get x,s.get y with|f (.list Z),f (.list ys)=>(if Z.length<=lim/\ys.length<=lim then match s.push (.list (Z++ys)) with|f s'=>f (s',.ref s.n)|R=>R else .none)|O,O'=>R)|_=>R)|.ref x,.int k=>(match o with|.mul=>(match s.get x with|f (.list [.int v])=>(if 0<=k/\k<=1000000 then match s.push (.list (l_ k.toNat (.int v))) with|f s'=>f (s',.ref s.n)|R=>R else .none)|_=>R)|_=>R)|O,O'=>R
def jK(s:St):AV->af (al)|.tup Z=>f Z|.ref n=>(match s.get n with|f (.list Z)=>f Z|f (.dict bJ)=>f (bJ.map λp=>iJ p.1)|R=>R)|_=>R
noncomputable def qL:a_->al->al|O,[]=>[]|i,x::r=>.tup [.int i,x]::qL (i+1) r
noncomputable def gZ (n:G):al:=(A_ n.toNat).map λ(i:a_)=>.int i
def jd(s:St)(k:tG)(v:AV):af (al × af a_):=match k,v with|.plain,.tup Z=>f (Z,.none)|.plain,.ref n=>(match s.get n with|f (.list Z)=>f (Z,f n)|f (.dict bJ)=>f (bJ.map λp=>iJ p.1,f n)|R=>R)|.range,.int n=>if 0<=n/\n<=1000000 then f (gZ n,.none) else .none|.enum,.tup Z=>f (qL 0 Z,.none)|.enum,.ref n=>(match s.get n with|f (.list Z)=>f (qL 0 Z,f n)|_=>R)|.rev,.ref n=>(match s.get n with|f (.list Z)=>f (Z.reverse,f n)|_=>R)|O,O'=>R
def lS(s:St):af a_->af St|R=>f s|f i=>s.kG i V
def iM(s:St)(b:e_):af a_->af St|R=>f s|f i=>s.kG i b
def sd(s:St):af a_->e_|R=>N'|f i=>s.flag i
noncomputable def sumInts:al->G->af G|[],a=>f a|.int i::r,a=>sumInts r (a+i)|O,O'=>R
noncomputable def iN:al->G->af G|[],a=>f a|.int i::r,a=>iN r (if a<i then i else a)|O,O'=>R
noncomputable def boolsOf:al->af (d_ e_)
 |[]=>f []
 |.bool b::r=>match boolsOf r with|f l=>f (b::l) |R=>R
 |_=>R
def je(s:St)(b:BI)(as:al):jq:=match b with|.abs=>(match as with|[.int i]=>f (s,.int (if i<0 then -i else i))|_=>R)|.int=>(match as with|[.int i]=>f (s,.int i)|_=>R)|.len=>(match as with|[.tup Z]=>if Z.length<=lim then f (s,.int Z.length) else .none|[.ref n]=>(match s.get n with|f (.list Z)=>if Z.length<=lim then f (s,.int Z.length) else .none|f (.dict Z)=>if Z.length<=lim then f (s,.int Z.length) else .none|R=>R)|_=>R)|.list=>(match as with|[.ref n]=>(match s.get n with|f (.list Z)=>(if Z.length<=lim then match s.push (.list Z) with|f s'=>f (s',.ref s.n)|R=>R else .none)|_=>R)|_=>R)|.tuple=>(match as with|[.ref n]=>(match s.get n with|f (.list Z)=>if Z.length<=lim then f (s,.tup Z) else .none|_=>R)|_=>R)|.dict=>(match as with|[.ref n]=>(match s.get n with|f (.dict Z)=>(if Z.length<=lim/\Z.all (λp=>smallKey p.1)=V then match s.push (.dict Z) with|f s'=>f (s',.ref s.n)|R=>R else .none)|_=>R)|_=>R)|.sum=>(match as with|[v]=>(match jK s v with|f Z=>(match sumInts Z 0 with|f z=>f (s,.int z)|R=>R)|R=>R)|_=>R)|.yH=>(match as with|[v]=>(match jK s v with|f (.int x::Z)=>(match iN Z x with|f z=>f (s,.int z)|R=>R)|_=>R)|_=>R)|.max2=>(match as with|[.int a,.int b]=>f (s,.int (if b>a then b else a))|_=>R)|.min2=>(match as with|[.int a,.int b]=>f (s,.int (if b<a then b else a))|_=>R)|.any=>(match as with|[v]=>(match jK s v with|f Z=>(match boolsOf Z with|f l=>f (s,.bool (l.any id))|R=>R)|R=>R)|_=>R)|.all=>match as with|[v]=>(match jK s v with|f Z=>(match boolsOf Z with|f l=>f (s,.bool (l.all id))|R=>R)|R=>R)|_=>R
noncomputable def MF (Z:al) (i:G):af AV:=match i with|.ofNat n=>Z[n]?|.negSucc n=>if n<Z.length then Z[Z.length-1-n]? else .none
def ic(s:St)(a i:AV):af AV:=match a,i with|.tup Z,.int i=>if Z.length<=lim then MF Z i else .none|.ref n,.int i=>(match s.get n with|f (.list Z)=>if Z.length<=lim then MF Z i else .none|_=>R)|.ref n,.tup k=>(match s.get n with|f (.dict bJ)=>(match keyOf k with|f k=>jS bJ k|R=>R)|_=>R)|O,O'=>R
def FG(s:St)(x c:AV):af e_:=match c with|.tup Z=>jk x Z|.ref n=>(match s.get n with|f (.list Z)=>jk x Z|f (.dict bJ)=>(match x with|.tup k=>(match keyOf k with|f k=>f (jS bJ k).isSome|R=>R)|_=>R)|R=>R)|_=>R
def tI(s:St)(a k:AV):jq:=match a,k with|.tup Z,.int (.ofNat k)=>if k<Z.length/\Z.length<=lim then f (s,.tup (Z.take k)) else .none|.fx Z,.int (.ofNat k)=>(if Z.length<=lim then match s.push (.list ((Z.take k).map .int)) with|f s'=>f (s',.ref s.n)|R=>R else .none)|.ref n,.int (.ofNat k)=>(match s.get n with|f (.list Z)=>(if Z.length<=lim then match s.push (.list (Z.take k)) with|f s'=>f (s',.ref s.n)|R=>R else .none)|_=>R)|O,O'=>R
def oQ(s:St)(a k:AV):jq:=match a,k with|.ref n,.int (.ofNat k)=>(match s.get n with|f (.list Z)=>(if Z.length<=lim then match s.push (.list (Z.drop k)) with|f s'=>f (s',.ref s.n)|R=>R else .none)|_=>R)|O,O'=>R
def jl(s:St)(o:AO):jq:=match s.push o with|f s'=>f (s',.ref s.n)|R=>R
def uX(s:St)(a:a_)(M' v:AV):af St:=match s.getM a with|f (.list Z)=>(match M' with|.int (.ofNat i)=>if i<Z.length/\Z.length<=lim then s.set a (.list (Z.set i v)) else .none|_=>R)|f (.dict bJ)=>(match M' with|.tup k=>(match keyOf k with|f k=>if bJ.length<=lim then s.set a (.dict (iK bJ k v)) else .none|R=>R)|_=>R)|R=>R
end Mine.Internal
end
section
open PySem
namespace Mine.Internal
variable{ha:Sort _}{r:ha}{Y':Prop}{hc:Type _}{u:hc}
theorem MG{α β:Sort _}{K:α->β}{x:α}{r:β}{Y':Prop}(k:K x=r->Y')(y:α)(z:β)(h:z=K y)(q:x=y)(e:z=r):Y':=k (by subst q;exact dT h e)
section
variable{A ha sl ρ E:Prop}
theorem qM(a:A)(b:ha)(c:sl):A/\ha/\sl:=⟨a,b,c⟩
theorem qN(a:A)(b:ha)(c:sl)(d:ρ):A/\ha/\sl/\ρ:=⟨a,b,c,d⟩
theorem TQ(a:A)(b:ha)(c:sl)(d:ρ)(e:E):A/\ha/\sl/\ρ/\E:=⟨a,b,c,d,e⟩
end
section
variable{α:Sort _}{A ha sl ρ E F:α->Prop}
theorem aK(x:α)(a:A x)(b:ha x):∃ x,A x/\ha x:=⟨x,a,b⟩
theorem kB(x:α)(a:A x)(b:ha x)(c:sl x):∃ x,A x/\ha x/\sl x:=⟨x,a,b,c⟩
theorem TR(x:α)(a:A x)(b:ha x)(c:sl x)(d:ρ x):∃ x,A x/\ha x/\sl x/\ρ x:=⟨x,a,b,c,d⟩
theorem Zs(x:α)(a:A x)(b:ha x)(c:sl x)(d:ρ x)(e:E x):∃ x,A x/\ha x/\sl x/\ρ x/\E x:=⟨x,a,b,c,d,e⟩
theorem MH(x:α)(a:A x)(b:ha x)(c:sl x)(d:ρ x)(e:E x)(K':F x):∃ x,A x/\ha x/\sl x/\ρ x/\E x/\F x:=⟨x,a,b,c,d,e,K'⟩
end
section
variable{α β:Sort _}{A ha sl ρ E F:α->β->Prop}
theorem uY(x:α)(y:β)(a:A x y):∃ x y,A x y:=⟨x,y,a⟩
theorem uZ(x:α)(y:β)(a:A x y)(b:ha x y):∃ x y,A x y/\ha x y:=⟨x,y,a,b⟩
theorem fI(x:α)(y:β)(a:A x y)(b:ha x y)(c:sl x y):∃ x y,A x y/\ha x y/\sl x y:=⟨x,y,a,b,c⟩
theorem qO(x:α)(y:β)(a:A x y)(b:ha x y)(c:sl x y)(d:ρ x y):∃ x y,A x y/\ha x y/\sl x y/\ρ x y:=⟨x,y,a,b,c,d⟩
theorem se(x:α)(y:β)(a:A x y)(b:ha x y)(c:sl x y)(d:ρ x y)(e:E x y):∃ x y,A x y/\ha x y/\sl x y/\ρ x y/\E x y:=⟨x,y,a,b,c,d,e⟩
theorem Im(x:α)(y:β)(a:A x y)(b:ha x y)(c:sl x y)(d:ρ x y)(e:E x y)(K':F x y):∃ x y,A x y/\ha x y/\sl x y/\ρ x y/\E x y/\F x y:=⟨x,y,a,b,c,d,e,K'⟩
end
section
variable{α β γ:Sort _}{A ha sl ρ E F:α->β->γ->Prop}
theorem MI(x:α)(y:β)(z:γ)(a:A x y z):∃ x y z,A x y z:=⟨x,y,z,a⟩
theorem Di(x:α)(y:β)(z:γ)(a:A x y z)(b:ha x y z)(c:sl x y z):∃ x y z,A x y z/\ha x y z/\sl x y z:=⟨x,y,z,a,b,c⟩
theorem Dj(x:α)(y:β)(z:γ)(a:A x y z)(b:ha x y z)(c:sl x y z)(d:ρ x y z):∃ x y z,A x y z/\ha x y z/\sl x y z/\ρ x y z:=⟨x,y,z,a,b,c,d⟩
theorem MJ(x:α)(y:β)(z:γ)(a:A x y z)(b:ha x y z)(c:sl x y z)(d:ρ x y z)(e:E x y z):∃ x y z,A x y z/\ha x y z/\sl x y z/\ρ x y z/\E x y z:=⟨x,y,z,a,b,c,d,e⟩
theorem Zt(x:α)(y:β)(z:γ)(a:A x y z)(b:ha x y z)(c:sl x y z)(d:ρ x y z)(e:E x y z)(K':F x y z):∃ x y z,A x y z/\ha x y z/\sl x y z/\ρ x y z/\E x y z/\F x y z:=⟨x,y,z,a,b,c,d,e,K'⟩
end
section
variable{α β γ δ:Sort _}{A ha sl ρ E F j' I aa K:α->β->γ->δ->Prop}
theorem Zu(x:α)(y:β)(z:γ)(u:δ)(a:A x y z u):∃ x y z u,A x y z u:=⟨x,y,z,u,a⟩
theorem gE(x:α)(y:β)(z:γ)(u:δ)(a:A x y z u)(b:ha x y z u)(c:sl x y z u):∃ x y z u,A x y z u/\ha x y z u/\sl x y z u:=⟨x,y,z,u,a,b,c⟩
theorem TU(x:α)(y:β)(z:γ)(u:δ)(a:A x y z u)(b:ha x y z u)(c:sl x y z u)(d:ρ x y z u):∃ x y z u,A x y z u/\ha x y z u/\sl x y z u/\ρ x y z u:=⟨x,y,z,u,a,b,c,d⟩
theorem Zv(x:α)(y:β)(z:γ)(u:δ)(a:A x y z u)(b:ha x y z u)(c:sl x y z u)(d:ρ x y z u)(e:E x y z u):∃ x y z u,A x y z u/\ha x y z u/\sl x y z u/\ρ x y z u/\E x y z u:=⟨x,y,z,u,a,b,c,d,e⟩
theorem Zw(x:α)(y:β)(z:γ)(u:δ)(a:A x y z u)(b:ha x y z u)(c:sl x y z u)(d:ρ x y z u)(e:E x y z u)(K':F x y z u):∃ x y z u,A x y z u/\ha x y z u/\sl x y z u/\ρ x y z u/\E x y z u/\F x y z u:=⟨x,y,z,u,a,b,c,d,e,K'⟩
end
section
variable{α β γ δ ε:Sort _}{A ha:α->β->γ->δ->ε->Prop}
theorem TV(x:α)(y:β)(z:γ)(u:δ)(v:ε)(a:A x y z u v)(b:ha x y z u v):∃ x y z u v,A x y z u v/\ha x y z u v:=⟨x,y,z,u,v,a,b⟩
end
section
variable{α β γ δ ε ζ η:Sort _}{A ha sl ρ E F j':α->β->γ->δ->ε->ζ->η->Prop}
theorem TX(x:α)(y:β)(z:γ)(u:δ)(v:ε)(w:ζ)(t:η)(a:A x y z u v w t)(b:ha x y z u v w t)(c:sl x y z u v w t)(d:ρ x y z u v w t)(e:E x y z u v w t):∃ x y z u v w t,A x y z u v w t/\ha x y z u v w t/\sl x y z u v w t/\ρ x y z u v w t/\E x y z u v w t:=⟨x,y,z,u,v,w,t,a,b,c,d,e⟩
theorem TY(x:α)(y:β)(z:γ)(u:δ)(v:ε)(w:ζ)(t:η)(a:A x y z u v w t)(b:ha x y z u v w t)(c:sl x y z u v w t)(d:ρ x y z u v w t)(e:E x y z u v w t)(K':F x y z u v w t):∃ x y z u v w t,A x y z u v w t/\ha x y z u v w t/\sl x y z u v w t/\ρ x y z u v w t/\E x y z u v w t/\F x y z u v w t:=⟨x,y,z,u,v,w,t,a,b,c,d,e,K'⟩
theorem Zx(x:α)(y:β)(z:γ)(u:δ)(v:ε)(w:ζ)(t:η)(a:A x y z u v w t)(b:ha x y z u v w t)(c:sl x y z u v w t)(d:ρ x y z u v w t)(e:E x y z u v w t)(K':F x y z u v w t)(g:j' x y z u v w t):∃ x y z u v w t,A x y z u v w t/\ha x y z u v w t/\sl x y z u v w t/\ρ x y z u v w t/\E x y z u v w t/\F x y z u v w t/\j' x y z u v w t:=⟨x,y,z,u,v,w,t,a,b,c,d,e,K',g⟩
end
theorem Zy{x:af Ent}{F:AO->af hc}:(∀ a,x=f ⟨N',a⟩->F a=f u->Y')->(match x with|f ⟨N',a⟩=>F a|_=>R)=f u->Y':=by intro k;generalize q:x=z;revert q;rcases z with _|v<;>first|exact nF|rcases v with ⟨w,_⟩<;>first|exact nF|cases w<;>first|exact k _|exact nF
theorem TZ{x:e_}{F j':ha}:(x=V->F=r->Y')->(x=N'->j'=r->Y')->(match x with|V=>F|N'=>j')=r->Y':=by intro k l;generalize q:x=z;revert q;cases z<;>first|exact k|exact l
theorem adC{x y:AV}{F:G->G->af hc}{j':a_->a_->af hc}{K:a_->G->af hc}:(∀ a b,x=.int a->y=.int b->F a b=f u->Y')->(∀ a b,x=.ref a->y=.ref b->j' a b=f u->Y')->(∀ a b,x=.ref a->y=.int b->K a b=f u->Y')->(match x,y with|.int a,.int b=>F a b|.ref a,.ref b=>j' a b|.ref a,.int b=>K a b|_,_=>R)=f u->Y':=by intro k l m;generalize q:x=z;generalize p:y=t;revert q p;cases z<;>first|exact lR|cases t<;>first|exact k _ _|exact l _ _|exact m _ _|exact lR
theorem adD{x y:af AO}{F:al->al->af hc}:(∀ a b,x=f (.list a)->y=f (.list b)->F a b=f u->Y')->(match x,y with|f (.list a),f (.list b)=>F a b|_,_=>R)=f u->Y':=by intro k;generalize q:x=z;generalize p:y=t;revert q p;rcases z with _|v<;>first|exact lR|cases v<;>first|exact lR|rcases t with _|w<;>first|exact lR|cases w<;>first|exact k _ _|exact lR
theorem adE{x:af AO}{F:G->af hc}:(∀ a,x=f (.list [.int a])->F a=f u->Y')->(match x with|f (.list [.int a])=>F a|_=>R)=f u->Y':=by intro k;generalize q:x=z;revert q;rcases z with _|v<;>first|exact nF|rcases v with w|_<;>first|exact nF|rcases w with _|⟨g,i⟩<;>first|exact nF|cases g<;>first|exact nF|rcases i with _|⟨_,_⟩<;>first|exact k _|exact nF
theorem Zz{x:G}{F:a_->af hc}:(∀ a,x=.ofNat a->F a=f u->Y')->(match x with|.ofNat a=>F a|_=>R)=f u->Y':=by intro k;generalize q:x=z;revert q;cases z<;>first|exact k _|exact nF
theorem ZA{x:A0}{F:af hc}:(x=.mul->F=f u->Y')->(match x with|.mul=>F|_=>R)=f u->Y':=by intro k;generalize q:x=z;revert q;cases z<;>first|exact k|exact nF
theorem ZB{x:A0}{F:af hc}:(x=.add->F=f u->Y')->(match x with|.add=>F|_=>R)=f u->Y':=by intro k;generalize q:x=z;revert q;cases z<;>first|exact k|exact nF
theorem ZC{x y:AV}{F:G->G->af hc}{j':al->al->af hc}{K:a_->a_->af hc}{vs:a_->a_->af hc}:(∀ a b,x=.int a->y=.int b->F a b=f u->Y')->(∀ a b,x=.tup a->y=.tup b->j' a b=f u->Y')->(∀ a b,x=.str a->y=.str b->K a b=f u->Y')->(∀ a b,x=.ref a->y=.ref b->vs a b=f u->Y')->(match x,y with|.int a,.int b=>F a b|.tup a,.tup b=>j' a b|.str a,.str b=>K a b|.ref a,.ref b=>vs a b|_,_=>R)=f u->Y':=by intro k l m n;generalize q:x=z;generalize p:y=t;revert q p;cases z<;>first|exact lR|cases t<;>first|exact k _ _|exact l _ _|exact m _ _|exact n _ _|exact lR
theorem ZD{x:A6}{F j':af hc}{K:af hc}{vs:af hc}:(x=.eq->F=f u->Y')->(x=.ne->j'=f u->Y')->(x=.lt->K=f u->Y')->(x=.gt->vs=f u->Y')->(match x with|.eq=>F|.ne=>j' | .lt=>K|.gt=>vs|_=>R)=f u->Y':=by intro k l m n;generalize q:x=z;revert q;cases z<;>first|exact k|exact l|exact m|exact n|exact nF
theorem ZF{x:A6}{F j':af hc}:(x=.eq->F=f u->Y')->(x=.ne->j'=f u->Y')->(match x with|.eq=>F|.ne=>j'|_=>R)=f u->Y':=by intro k l;generalize q:x=z;revert q;cases z<;>first|exact k|exact l|exact nF
theorem ZG{x:A6}{F:af hc}:(x=.eq->F=f u->Y')->(match x with|.eq=>F|_=>R)=f u->Y':=by intro k;generalize q:x=z;revert q;cases z<;>first|exact k|exact nF
theorem lT{x:af AO}{F:al->af hc}:(∀ a,x=f (.list a)->F a=f u->Y')->(match x with|f (.list a)=>F a|_=>R)=f u->Y':=by intro k;generalize q:x=z;revert q;rcases z with _|v<;>first|exact nF|cases v<;>first|exact k _|exact nF
theorem ZH{x:af AO}{F:al->e_}:(∀ a,x=f (.list a)->F a=V->Y')->(match x with|f (.list a)=>F a|_=>N')=V->Y':=by intro k;generalize q:x=z;revert q;rcases z with _|v<;>first|exact fF|cases v<;>first|exact k _|exact fF
theorem ZI{x y:AV}{F:a_->a_->af hc}:(∀ a b,x=.ref a->y=.int (.ofNat b)->F a b=f u->Y')->(match x,y with|.ref a,.int (.ofNat b)=>F a b|_,_=>R)=f u->Y':=by intro k;generalize q:x=z;generalize p:y=t;revert q p;cases z<;>first|exact lR|rcases t with _|_|_|v|_|_|_|_<;>first|exact lR|cases v<;>first|exact k _ _|exact lR
theorem Io{x:af AO}{F:dc->af hc}:(∀ a,x=f (.dict a)->F a=f u->Y')->(match x with|f (.dict a)=>F a|_=>R)=f u->Y':=by intro k;generalize q:x=z;revert q;rcases z with _|v<;>first|exact nF|cases v<;>first|exact k _|exact nF
theorem ZJ{x:af AO}{F:dc->e_}:(∀ a,x=f (.dict a)->F a=V->Y')->(match x with|f (.dict a)=>F a|_=>N')=V->Y':=by intro k;generalize q:x=z;revert q;rcases z with _|v<;>first|exact fF|cases v<;>first|exact k _|exact fF
theorem ZK{x y:AV}{F:al->a_->af hc}{j':aA->a_->af hc}{K:a_->a_->af hc}:(∀ a b,x=.tup a->y=.int (.ofNat b)->F a b=f u->Y')->(∀ a b,x=.fx a->y=.int (.ofNat b)->j' a b=f u->Y')->(∀ a b,x=.ref a->y=.int (.ofNat b)->K a b=f u->Y')->(match x,y with|.tup a,.int (.ofNat b)=>F a b|.fx a,.int (.ofNat b)=>j' a b|.ref a,.int (.ofNat b)=>K a b|_,_=>R)=f u->Y':=by intro k l m;generalize q:x=z;generalize p:y=t;revert q p;cases z<;>first|exact lR|(rcases t with _|_|_|v|_|_|_|_<;>first|exact lR|(cases v<;>(first|exact k _ _|exact l _ _|exact m _ _|exact lR)))|(rcases t with _|_|_|w|_|_|_|_<;>first|exact lR|(cases w<;>(first|exact k _ _|exact l _ _|exact m _ _|exact lR)))|(rcases t with _|_|_|g|_|_|_|_<;>first|exact lR|(cases g<;>(first|exact k _ _|exact l _ _|exact m _ _|exact lR)))
theorem ZL{x y:AV}{F:al->G->af hc}{j':a_->G->af hc}{K:a_->al->af hc}:(∀ a b,x=.tup a->y=.int b->F a b=f u->Y')->(∀ a b,x=.ref a->y=.int b->j' a b=f u->Y')->(∀ a b,x=.ref a->y=.tup b->K a b=f u->Y')->(match x,y with|.tup a,.int b=>F a b|.ref a,.int b=>j' a b|.ref a,.tup b=>K a b|_,_=>R)=f u->Y':=by intro k l m;generalize q:x=z;generalize p:y=t;revert q p;cases z<;>first|exact lR|cases t<;>first|exact k _ _|exact l _ _|exact m _ _|exact lR
theorem ZM{x:aA}{F:a_->a_->a_->e_}:(∀ a b c,x=[.ofNat a,.ofNat b,.ofNat c]->F a b c=V->Y')->(match x with|[.ofNat a,.ofNat b,.ofNat c]=>F a b c|_=>N')=V->Y':=by intro k;generalize q:x=z;revert q;rcases z with _|⟨v,w⟩<;>first|exact fF|cases v<;>first|exact fF|rcases w with _|⟨g,i⟩<;>first|exact fF|cases g<;>first|exact fF|rcases i with _|⟨j,s⟩<;>first|exact fF|cases j<;>first|exact fF|rcases s with _|⟨_,_⟩<;>first|exact k _ _ _|exact fF
theorem MK{x:al}{F:a_->af hc}:(∀ a,x=[.ref a]->F a=f u->Y')->(match x with|[.ref a]=>F a|_=>R)=f u->Y':=by intro k;generalize q:x=z;revert q;rcases z with _|⟨v,w⟩<;>first|exact nF|cases v<;>first|exact nF|rcases w with _|⟨_,_⟩<;>first|exact k _|exact nF
theorem ZN{x:al}{F:al->af hc}{j':a_->af hc}:(∀ a,x=[.tup a]->F a=f u->Y')->(∀ a,x=[.ref a]->j' a=f u->Y')->(match x with|[.tup a]=>F a|[.ref a]=>j' a|_=>R)=f u->Y':=by intro k l;generalize q:x=z;revert q;rcases z with _|⟨v,w⟩<;>first|exact nF|cases v<;>first|exact nF|rcases w with _|⟨_,_⟩<;>first|exact k _|exact l _|exact nF
theorem T1{x:al}{F:G->af hc}:(∀ a,x=[.int a]->F a=f u->Y')->(match x with|[.int a]=>F a|_=>R)=f u->Y':=by intro k;generalize q:x=z;revert q;rcases z with _|⟨v,w⟩<;>first|exact nF|cases v<;>first|exact nF|rcases w with _|⟨_,_⟩<;>first|exact k _|exact nF
theorem T2{x:af AV}{F:G->af hc}:(∀ a,x=f (.int a)->F a=f u->Y')->(match x with|f (.int a)=>F a|_=>R)=f u->Y':=by intro k;generalize q:x=z;revert q;rcases z with _|v<;>first|exact nF|cases v<;>first|exact k _|exact nF
theorem Ip{x:al}{F:AV->af hc}:(∀ a,x=[a]->F a=f u->Y')->(match x with|[a]=>F a|_=>R)=f u->Y':=by intro k;generalize q:x=z;revert q;rcases z with _|⟨_,v⟩<;>first|exact nF|rcases v with _|⟨_,_⟩<;>first|exact k _|exact nF
theorem T3{x:af (al)}{F:G->al->af hc}:(∀ a b,x=f (.int a::b)->F a b=f u->Y')->(match x with|f (.int a::b)=>F a b|_=>R)=f u->Y':=by intro k;generalize q:x=z;revert q;rcases z with _|v<;>first|exact nF|rcases v with _|⟨w,_⟩<;>first|exact nF|cases w<;>first|exact k _ _|exact nF
theorem T4{x:al}{F:G->G->af hc}:(∀ a b,x=[.int a,.int b]->F a b=f u->Y')->(match x with|[.int a,.int b]=>F a b|_=>R)=f u->Y':=by intro k;generalize q:x=z;revert q;rcases z with _|⟨v,w⟩<;>first|exact nF|cases v<;>first|exact nF|rcases w with _|⟨g,i⟩<;>first|exact nF|cases g<;>first|exact nF|rcases i with _|⟨_,_⟩<;>first|exact k _ _|exact nF
theorem u5{x:AV}{F:al->af hc}:(∀ a,x=.tup a->F a=f u->Y')->(match x with|.tup a=>F a|_=>R)=f u->Y':=by intro k;generalize q:x=z;revert q;cases z<;>first|exact k _|exact nF
theorem T5{x:AV}{F:a_->af hc}:(∀ a,x=.int (.ofNat a)->F a=f u->Y')->(match x with|.int (.ofNat a)=>F a|_=>R)=f u->Y':=by intro k;generalize q:x=z;revert q;rcases z with _|_|_|v|_|_|_|_<;>first|exact nF|cases v<;>first|exact k _|exact nF
theorem ZO{x:AV}{F:a_->af hc}:(∀ a,x=.ref a->F a=f u->Y')->(match x with|.ref a=>F a|_=>R)=f u->Y':=by intro k;generalize q:x=z;revert q;cases z<;>first|exact k _|exact nF
theorem ZQ{x y:af e_}{F:e_}:(x=f N'->y=f V->F=V->Y')->(match x,y with|f N',f V=>F|_,_=>N')=V->Y':=by intro k;generalize q:x=z;generalize p:y=t;revert q p;rcases z with _|v<;>first|exact Yy|cases v<;>first|exact Yy|rcases t with _|w<;>first|exact Yy|cases w<;>first|exact k|exact Yy
theorem ZR{x:al}{F:e_}{j':AV->al->al->e_}:(x=[]->F=V->Y')->(∀ a b c,x=.tup (a::b)::c->j' a b c=V->Y')->(match x with|[]=>F|.tup (a::b)::c=>j' a b c|_=>N')=V->Y':=by intro k l;generalize q:x=z;revert q;rcases z with _|⟨v,_⟩<;>first|exact k|exact l _ _ _|exact fF|rcases v with _|_|_|_|_|w|_|_<;>first|exact k|exact l _ _ _|exact fF|rcases w with _|⟨_,_⟩<;>first|exact k|exact l _ _ _|exact fF
theorem T6{x:af (av × av × av × dF × L_)}{F:av->av->av->L_->e_}:(∀ a b c d,x=f (a,b,c,[],d)->F a b c d=V->Y')->(match x with|f (a,b,c,[],d)=>F a b c d|_=>N')=V->Y':=by intro k;generalize q:x=z;revert q;rcases z with _|v<;>first|exact fF|rcases v with ⟨_,g⟩<;>rcases g with ⟨_,j⟩<;>rcases j with ⟨_,w7⟩<;>rcases w7 with ⟨w8,_⟩<;>rcases w8 with _|⟨_,_⟩<;>first|exact k _ _ _ _|exact fF
theorem T7{x:jq}{F j':St->af hc}:(∀ a,x=f (a,.bool N')->F a=f u->Y')->(∀ a,x=f (a,.bool V)->j' a=f u->Y')->(match x with|f (a,.bool N')=>F a|f (a,.bool V)=>j' a|_=>R)=f u->Y':=by intro k l;generalize q:x=z;revert q;rcases z with _|v<;>first|exact nF|rcases v with ⟨_,g⟩<;>rcases g with _|_|i|_|_|_|_|_<;>first|exact nF|cases i<;>first|exact k _|exact l _|exact nF
theorem Dk{x:jq}{F:St->G->af hc}:(∀ a b,x=f (a,.int b)->F a b=f u->Y')->(match x with|f (a,.int b)=>F a b|_=>R)=f u->Y':=by intro k;generalize q:x=z;revert q;rcases z with _|v<;>first|exact nF|rcases v with ⟨_,g⟩<;>cases g<;>first|exact k _ _|exact nF
theorem qP{x:jq}{F:St->al->af hc}:(∀ a b,x=f (a,.tup b)->F a b=f u->Y')->(match x with|f (a,.tup b)=>F a b|_=>R)=f u->Y':=by intro k;generalize q:x=z;revert q;rcases z with _|v<;>first|exact nF|rcases v with ⟨_,g⟩<;>cases g<;>first|exact k _ _|exact nF
theorem ZS{x:AV}{y:Const}{F:e_}{j':e_->e_->e_}{K:G->G->e_}{vs:a_->o_->e_}:(x=.none->y=.none->F=V->Y')->(∀ a b,x=.bool a->y=.bool b->j' a b=V->Y')->(∀ a b,x=.int a->y=.int b->K a b=V->Y')->(∀ a b,x=.str a->y=.str b->vs a b=V->Y')->(match x,y with|.none,.none=>F|.bool a,.bool b=>j' a b|.int a,.int b=>K a b|.str a,.str b=>vs a b|_,_=>N')=V->Y':=by intro k l m n;generalize q:x=z;generalize p:y=t;revert q p;cases z<;>first|exact Yy|cases t<;>first|exact k|exact l _ _|exact m _ _|exact n _ _|exact Yy
theorem ZT{x:af (BoolOp × dF × Pos)}{F:av->av->dF->Pos->e_}:(∀ a b c d,x=f (.And,a::b::c,d)->F a b c d=V->Y')->(match x with|f (.And,a::b::c,d)=>F a b c d|_=>N')=V->Y':=by intro k;generalize q:x=z;revert q;rcases z with _|v<;>first|exact fF|rcases v with ⟨w,g⟩<;>cases w<;>first|exact fF|rcases g with ⟨i,_⟩<;>rcases i with _|⟨_,s⟩<;>first|exact fF|rcases s with _|⟨_,_⟩<;>first|exact k _ _ _ _|exact fF
theorem sh{x:jq}{F j':St->af hc}:(∀ a,x=f (a,.bool V)->F a=f u->Y')->(∀ a,x=f (a,.bool N')->j' a=f u->Y')->(match x with|f (a,.bool V)=>F a|f (a,.bool N')=>j' a|_=>R)=f u->Y':=by intro k l;generalize q:x=z;revert q;rcases z with _|v<;>first|exact nF|rcases v with ⟨_,g⟩<;>rcases g with _|_|i|_|_|_|_|_<;>first|exact nF|cases i<;>first|exact k _|exact l _|exact nF
theorem T8{x:jq}{F:St->e_->af hc}:(∀ a b,x=f (a,.bool b)->F a b=f u->Y')->(match x with|f (a,.bool b)=>F a b|_=>R)=f u->Y':=by intro k;generalize q:x=z;revert q;rcases z with _|v<;>first|exact nF|rcases v with ⟨_,g⟩<;>cases g<;>first|exact k _ _|exact nF
theorem ML{x:af (av × av × av × dF × L_)}{F:av->av->av->av->L_->e_}:(∀ a b c d e,x=f (a,b,c,[d],e)->F a b c d e=V->Y')->(match x with|f (a,b,c,[d],e)=>F a b c d e|_=>N')=V->Y':=by intro k;generalize q:x=z;revert q;rcases z with _|v<;>first|exact fF|rcases v with ⟨_,g⟩<;>rcases g with ⟨_,j⟩<;>rcases j with ⟨_,w7⟩<;>rcases w7 with ⟨w8,_⟩<;>rcases w8 with _|⟨_,w10⟩<;>first|exact fF|rcases w10 with _|⟨_,_⟩<;>first|exact k _ _ _ _ _|exact fF
theorem Vt{x:af (BoolOp × dF × Pos)}{F:av->av->dF->Pos->e_}:(∀ a b c d,x=f (.Or,a::b::c,d)->F a b c d=V->Y')->(match x with|f (.Or,a::b::c,d)=>F a b c d|_=>N')=V->Y':=by intro k;generalize q:x=z;revert q;rcases z with _|v<;>first|exact fF|rcases v with ⟨w,g⟩<;>cases w<;>first|exact fF|rcases g with ⟨i,_⟩<;>rcases i with _|⟨_,s⟩<;>first|exact fF|rcases s with _|⟨_,_⟩<;>first|exact k _ _ _ _|exact fF
theorem MM{x:cj}{F:a_->ha}{j':cj->ha}:(∀ a,x=[a]->F a=r->Y')->(j' x=r->Y')->(match x with|[a]=>F a|a=>j' a)=r->Y':=by intro k l;have h2:=MG l;generalize q:x=z;revert q;rcases z with _|⟨_,v⟩<;>first|exact h2 _ _ X|rcases v with _|⟨_,_⟩<;>first|exact k _|exact h2 _ _ X
theorem Vu{x:af (o_ × dF)}{F:o_->av->af hc}:(∀ a b,x=f (a,[b])->F a b=f u->Y')->(match x with|f (a,[b])=>F a b|_=>R)=f u->Y':=by intro k;generalize q:x=z;revert q;rcases z with _|v<;>first|exact nF|rcases v with ⟨_,g⟩<;>rcases g with _|⟨_,i⟩<;>first|exact nF|rcases i with _|⟨_,_⟩<;>first|exact k _ _|exact nF
theorem FH{x:af (av × dF)}{F:av->av->e_}:(∀ a b,x=f (a,[b])->F a b=V->Y')->(match x with|f (a,[b])=>F a b|_=>N')=V->Y':=by intro k;generalize q:x=z;revert q;rcases z with _|v<;>first|exact fF|rcases v with ⟨_,g⟩<;>rcases g with _|⟨_,i⟩<;>first|exact fF|rcases i with _|⟨_,_⟩<;>first|exact k _ _|exact fF
theorem iP{x:jq}{F:St->a_->af hc}:(∀ a b,x=f (a,.ref b)->F a b=f u->Y')->(match x with|f (a,.ref b)=>F a b|_=>R)=f u->Y':=by intro k;generalize q:x=z;revert q;rcases z with _|v<;>first|exact nF|rcases v with ⟨_,g⟩<;>cases g<;>first|exact k _ _|exact nF
theorem Vv{x:af (av × dF)}{F:av->e_}:(∀ a,x=f (a,[])->F a=V->Y')->(match x with|f (a,[])=>F a|_=>N')=V->Y':=by intro k;generalize q:x=z;revert q;rcases z with _|v<;>first|exact fF|rcases v with ⟨_,g⟩<;>rcases g with _|⟨_,_⟩<;>first|exact k _|exact fF
theorem Vx{x:af (av × dF)}{F:av->av->av->e_}:(∀ a b c,x=f (a,[b,c])->F a b c=V->Y')->(match x with|f (a,[b,c])=>F a b c|_=>N')=V->Y':=by intro k;generalize q:x=z;revert q;rcases z with _|v<;>first|exact fF|rcases v with ⟨_,g⟩<;>rcases g with _|⟨_,i⟩<;>first|exact fF|rcases i with _|⟨_,j⟩<;>first|exact fF|rcases j with _|⟨_,_⟩<;>first|exact k _ _ _|exact fF
theorem MN{x:AV}{F:G->af hc}:(∀ a,x=.int a->F a=f u->Y')->(match x with|.int a=>F a|_=>R)=f u->Y':=by intro k;generalize q:x=z;revert q;cases z<;>first|exact k _|exact nF
theorem ZU{x:af (St × al × Fl)}{F:St->al->ha}{j':af (St × al × Fl)->ha}:(∀ a b,x=f (a,b,.next)->F a b=r->Y')->(j' x=r->Y')->(match x with|f (a,b,.next)=>F a b|a=>j' a)=r->Y':=by intro k l;have h2:=MG l;generalize q:x=z;revert q;rcases z with _|v<;>first|exact h2 _ _ X|rcases v with ⟨_,g⟩<;>rcases g with ⟨_,j⟩<;>cases j<;>first|exact k _ _|exact h2 _ _ X
theorem Vy{x:af (St × al × Fl)}{F:St->al->AV->af hc}{j':St->al->af hc}:(∀ a b c,x=f (a,b,.ret c)->F a b c=f u->Y')->(∀ a b,x=f (a,b,.next)->j' a b=f u->Y')->(match x with|f (a,b,.ret c)=>F a b c|f (a,b,.next)=>j' a b|_=>R)=f u->Y':=by intro k l;generalize q:x=z;revert q;rcases z with _|v<;>first|exact nF|rcases v with ⟨_,g⟩<;>rcases g with ⟨_,j⟩<;>cases j<;>first|exact k _ _ _|exact l _ _|exact nF
theorem MP{x:PV}{F:al->af hc}{j':aC->af hc}:(∀ a,x=.b (.tup a)->F a=f u->Y')->(∀ a,x=.tup a->j' a=f u->Y')->(match x with|.b (.tup a)=>F a|.tup a=>j' a|_=>R)=f u->Y':=by intro k l;generalize q:x=z;revert q;rcases z with _|v|_|_|_<;>first|exact k _|exact l _|exact nF|cases v<;>first|exact k _|exact l _|exact nF
theorem FI{x:PV}{F:AV->af hc}:(∀ a,x=.b a->F a=f u->Y')->(match x with|.b a=>F a|_=>R)=f u->Y':=by intro k;generalize q:x=z;revert q;cases z<;>first|exact k _|exact nF
theorem MQ{x:aC}{F:G->af hc}:(∀ a,x=[.b (.int a)]->F a=f u->Y')->(match x with|[.b (.int a)]=>F a|_=>R)=f u->Y':=by intro k;generalize q:x=z;revert q;rcases z with _|⟨v,w⟩<;>first|exact nF|rcases v with _|g|_|_|_<;>first|exact nF|cases g<;>first|exact nF|rcases w with _|⟨_,_⟩<;>first|exact k _|exact nF
theorem Vz{x:aC}{F:al->af hc}{j':aC->af hc}{K:dc->af hc}:(∀ a,x=[.b (.tup a)]->F a=f u->Y')->(∀ a,x=[.list a]->j' a=f u->Y')->(∀ a,x=[.dict a]->K a=f u->Y')->(match x with|[.b (.tup a)]=>F a|[.list a]=>j' a|[.dict a]=>K a|_=>R)=f u->Y':=by intro k l m;generalize q:x=z;revert q;rcases z with _|⟨v,w⟩<;>first|exact nF|(rcases v with _|g|_|_|_<;>first|exact nF|(cases g<;>first|exact nF|(rcases w with _|⟨_,_⟩<;>(first|exact k _|exact l _|exact m _|exact nF)))|(rcases w with _|⟨_,_⟩<;>(first|exact k _|exact l _|exact m _|exact nF)))
theorem VA{x:aC}{F:dc->af hc}:(∀ a,x=[.dict a]->F a=f u->Y')->(match x with|[.dict a]=>F a|_=>R)=f u->Y':=by intro k;generalize q:x=z;revert q;rcases z with _|⟨v,w⟩<;>first|exact nF|cases v<;>first|exact nF|rcases w with _|⟨_,_⟩<;>first|exact k _|exact nF
theorem MR{x:PV}{F:al->af hc}{j':aC->af hc}{K:dc->af hc}:(∀ a,x=.b (.tup a)->F a=f u->Y')->(∀ a,x=.list a->j' a=f u->Y')->(∀ a,x=.dict a->K a=f u->Y')->(match x with|.b (.tup a)=>F a|.list a=>j' a|.dict a=>K a|_=>R)=f u->Y':=by intro k l m;generalize q:x=z;revert q;rcases z with _|v|_|_|_<;>first|exact k _|exact l _|exact m _|exact nF|cases v<;>first|exact k _|exact l _|exact m _|exact nF
theorem VB{x y:PV}{F:aC->a_->af hc}:(∀ a b,x=.list a->y=.b (.int (.ofNat b))->F a b=f u->Y')->(match x,y with|.list a,.b (.int (.ofNat b))=>F a b|_,_=>R)=f u->Y':=by intro k;generalize q:x=z;generalize p:y=t;revert q p;cases z<;>first|exact lR|rcases t with _|v|_|_|_<;>first|exact lR|rcases v with _|_|_|w|_|_|_|_<;>first|exact lR|cases w<;>first|exact k _ _|exact lR
theorem VC{x y:PV}{F:al->G->af hc}{j':aC->G->af hc}{K:aC->G->af hc}{vs:dc->al->af hc}:(∀ a b,x=.b (.tup a)->y=.b (.int b)->F a b=f u->Y')->(∀ a b,x=.tup a->y=.b (.int b)->j' a b=f u->Y')->(∀ a b,x=.list a->y=.b (.int b)->K a b=f u->Y')->(∀ a b,x=.dict a->y=.b (.tup b)->vs a b=f u->Y')->(match x,y with|.b (.tup a),.b (.int b)=>F a b|.tup a,.b (.int b)=>j' a b|.list a,.b (.int b)=>K a b|.dict a,.b (.tup b)=>vs a b|_,_=>R)=f u->Y':=by intro k l m n;generalize q:x=z;generalize p:y=t;revert q p;rcases z with _|v|_|_|_<;>first|exact lR|(cases v<;>first|exact lR|(rcases t with _|w|_|_|_<;>first|exact lR|(cases w<;>(first|exact k _ _|exact l _ _|exact m _ _|exact n _ _|exact lR))))|(rcases t with _|g|_|_|_<;>first|exact lR|(cases g<;>(first|exact k _ _|exact l _ _|exact m _ _|exact n _ _|exact lR)))|(rcases t with _|i|_|_|_<;>first|exact lR|(cases i<;>(first|exact k _ _|exact l _ _|exact m _ _|exact n _ _|exact lR)))|(rcases t with _|j|_|_|_<;>first|exact lR|(cases j<;>(first|exact k _ _|exact l _ _|exact m _ _|exact n _ _|exact lR)))
theorem MS{x:aC}{F:G->G->af hc}:(∀ a b,x=[.b (.int a),.b (.int b)]->F a b=f u->Y')->(match x with|[.b (.int a),.b (.int b)]=>F a b|_=>R)=f u->Y':=by intro k;generalize q:x=z;revert q;rcases z with _|⟨v,w⟩<;>first|exact nF|rcases v with _|g|_|_|_<;>first|exact nF|cases g<;>first|exact nF|rcases w with _|⟨i,j⟩<;>first|exact nF|rcases i with _|s|_|_|_<;>first|exact nF|cases s<;>first|exact nF|rcases j with _|⟨_,_⟩<;>first|exact k _ _|exact nF
theorem MT{x:aC}{F:aC->af hc}:(∀ a,x=[.list a]->F a=f u->Y')->(match x with|[.list a]=>F a|_=>R)=f u->Y':=by intro k;generalize q:x=z;revert q;rcases z with _|⟨v,w⟩<;>first|exact nF|cases v<;>first|exact nF|rcases w with _|⟨_,_⟩<;>first|exact k _|exact nF
theorem A7{x:aC}{F:PV->af hc}:(∀ a,x=[a]->F a=f u->Y')->(match x with|[a]=>F a|_=>R)=f u->Y':=by intro k;generalize q:x=z;revert q;rcases z with _|⟨_,v⟩<;>first|exact nF|rcases v with _|⟨_,_⟩<;>first|exact k _|exact nF
theorem VD{x y:PV}{F:AV->AV->af hc}{j':aC->aC->af hc}:(∀ a b,x=.b a->y=.b b->F a b=f u->Y')->(∀ a b,x=.list a->y=.list b->j' a b=f u->Y')->(match x,y with|.b a,.b b=>F a b|.list a,.list b=>j' a b|_,_=>R)=f u->Y':=by intro k l;generalize q:x=z;generalize p:y=t;revert q p;cases z<;>first|exact lR|cases t<;>first|exact k _ _|exact l _ _|exact lR
theorem VF{x y:PV}{F:al->a_->af hc}{j':aC->a_->af hc}:(∀ a b,x=.b (.tup a)->y=.b (.int (.ofNat b))->F a b=f u->Y')->(∀ a b,x=.list a->y=.b (.int (.ofNat b))->j' a b=f u->Y')->(match x,y with|.b (.tup a),.b (.int (.ofNat b))=>F a b|.list a,.b (.int (.ofNat b))=>j' a b|_,_=>R)=f u->Y':=by intro k l;generalize q:x=z;generalize p:y=t;revert q p;rcases z with _|v|_|_|_<;>first|exact lR|(cases v<;>first|exact lR|(rcases t with _|w|_|_|_<;>first|exact lR|(rcases w with _|_|_|g|_|_|_|_<;>first|exact lR|(cases g<;>(first|exact k _ _|exact l _ _|exact lR)))))|(rcases t with _|i|_|_|_<;>first|exact lR|(rcases i with _|_|_|j|_|_|_|_<;>first|exact lR|(cases j<;>(first|exact k _ _|exact l _ _|exact lR))))
theorem VG{x:ft}{F j':af hc}:(x=f (.b (.bool N'))->F=f u->Y')->(x=f (.b (.bool V))->j'=f u->Y')->(match x with|f (.b (.bool N'))=>F|f (.b (.bool V))=>j'|_=>R)=f u->Y':=by intro k l;generalize q:x=z;revert q;rcases z with _|v<;>first|exact nF|rcases v with _|w|_|_|_<;>first|exact nF|rcases w with _|_|g|_|_|_|_|_<;>first|exact nF|cases g<;>first|exact k|exact l|exact nF
theorem ZV{x:PV}{F j':ha}{K:PV->ha}:(x=.any->F=r->Y')->(x=.b .ub->j'=r->Y')->(K x=r->Y')->(match x with|.any=>F|.b .ub=>j'|a=>K a)=r->Y':=by intro k l m;have h2:=MG m;generalize q:x=z;revert q;rcases z with _|v|_|_|_<;>first|exact k|exact l|exact h2 _ _ X|cases v<;>first|exact k|exact l|exact h2 _ _ X
theorem q0{x:ft}{F:aC->af hc}:(∀ a,x=f (.tup a)->F a=f u->Y')->(match x with|f (.tup a)=>F a|_=>R)=f u->Y':=by intro k;generalize q:x=z;revert q;rcases z with _|v<;>first|exact nF|cases v<;>first|exact k _|exact nF
theorem A8{x:ft}{F:G->af hc}:(∀ a,x=f (.b (.int a))->F a=f u->Y')->(match x with|f (.b (.int a))=>F a|_=>R)=f u->Y':=by intro k;generalize q:x=z;revert q;rcases z with _|v<;>first|exact nF|rcases v with _|w|_|_|_<;>first|exact nF|cases w<;>first|exact k _|exact nF
theorem oR{x:ft}{F:AV->af hc}:(∀ a,x=f (.b a)->F a=f u->Y')->(match x with|f (.b a)=>F a|_=>R)=f u->Y':=by intro k;generalize q:x=z;revert q;rcases z with _|v<;>first|exact nF|cases v<;>first|exact k _|exact nF
theorem MU{x:ft}{F:al->af hc}:(∀ a,x=f (.b (.tup a))->F a=f u->Y')->(match x with|f (.b (.tup a))=>F a|_=>R)=f u->Y':=by intro k;generalize q:x=z;revert q;rcases z with _|v<;>first|exact nF|rcases v with _|w|_|_|_<;>first|exact nF|cases w<;>first|exact k _|exact nF
theorem tJ{x:ft}{F j':af hc}:(x=f (.b (.bool V))->F=f u->Y')->(x=f (.b (.bool N'))->j'=f u->Y')->(match x with|f (.b (.bool V))=>F|f (.b (.bool N'))=>j'|_=>R)=f u->Y':=by intro k l;generalize q:x=z;revert q;rcases z with _|v<;>first|exact nF|rcases v with _|w|_|_|_<;>first|exact nF|rcases w with _|_|g|_|_|_|_|_<;>first|exact nF|cases g<;>first|exact k|exact l|exact nF
theorem VH{x:ft}{F:e_->af hc}:(∀ a,x=f (.b (.bool a))->F a=f u->Y')->(match x with|f (.b (.bool a))=>F a|_=>R)=f u->Y':=by intro k;generalize q:x=z;revert q;rcases z with _|v<;>first|exact nF|rcases v with _|w|_|_|_<;>first|exact nF|cases w<;>first|exact k _|exact nF
theorem FJ{x:PV}{F:aC->af hc}:(∀ a,x=.list a->F a=f u->Y')->(match x with|.list a=>F a|_=>R)=f u->Y':=by intro k;generalize q:x=z;revert q;cases z<;>first|exact k _|exact nF
theorem VJ{x:ft}{F:aC->af hc}:(∀ a,x=f (.list a)->F a=f u->Y')->(match x with|f (.list a)=>F a|_=>R)=f u->Y':=by intro k;generalize q:x=z;revert q;rcases z with _|v<;>first|exact nF|cases v<;>first|exact k _|exact nF
theorem VL{x:ft}{F:aC->e_}:(∀ a,x=f (.list a)->F a=V->Y')->(match x with|f (.list a)=>F a|_=>N')=V->Y':=by intro k;generalize q:x=z;revert q;rcases z with _|v<;>first|exact fF|cases v<;>first|exact k _|exact fF
theorem VM{x:PV}{F:G->af hc}:(∀ a,x=.b (.int a)->F a=f u->Y')->(match x with|.b (.int a)=>F a|_=>R)=f u->Y':=by intro k;generalize q:x=z;revert q;rcases z with _|v|_|_|_<;>first|exact nF|cases v<;>first|exact k _|exact nF
theorem VN{x:tG}{F:af hc}:(x=.plain->F=f u->Y')->(match x with|.plain=>F|_=>R)=f u->Y':=by intro k;generalize q:x=z;revert q;cases z<;>first|exact k|exact nF
theorem ZX{x:CE}{F:a_->ha}{j':CE->ha}:(∀ a,x=.var a->F a=r->Y')->(j' x=r->Y')->(match x with|.var a=>F a|a=>j' a)=r->Y':=by intro k l;have h2:=MG l;generalize q:x=z;revert q;cases z<;>first|exact k _|exact h2 _ _ X
theorem VP{x:PV}{F:dc->af hc}:(∀ a,x=.dict a->F a=f u->Y')->(match x with|.dict a=>F a|_=>R)=f u->Y':=by intro k;generalize q:x=z;revert q;cases z<;>first|exact k _|exact nF
theorem MV{x:aC}{F:dc->al->al->af hc}:(∀ a b c,x=[.dict a,.b (.tup b),.b (.tup c)]->F a b c=f u->Y')->(match x with|[.dict a,.b (.tup b),.b (.tup c)]=>F a b c|_=>R)=f u->Y':=by intro k;generalize q:x=z;revert q;rcases z with _|⟨v,w⟩<;>first|exact nF|cases v<;>first|exact nF|rcases w with _|⟨g,i⟩<;>first|exact nF|rcases g with _|j|_|_|_<;>first|exact nF|cases j<;>first|exact nF|rcases i with _|⟨s,w7⟩<;>first|exact nF|rcases s with _|w8|_|_|_<;>first|exact nF|cases w8<;>first|exact nF|rcases w7 with _|⟨_,_⟩<;>first|exact k _ _ _|exact nF
theorem VQ{x:PV}{F:a_->af hc}:(∀ a,x=.b (.int (.ofNat a))->F a=f u->Y')->(match x with|.b (.int (.ofNat a))=>F a|_=>R)=f u->Y':=by intro k;generalize q:x=z;revert q;rcases z with _|v|_|_|_<;>first|exact nF|rcases v with _|_|_|w|_|_|_|_<;>first|exact nF|cases w<;>first|exact k _|exact nF
theorem VT{x:aC}{F:dc->aC->a_->af hc}:(∀ a b c,x=[.dict a,.list b,.b (.str c)]->F a b c=f u->Y')->(match x with|[.dict a,.list b,.b (.str c)]=>F a b c|_=>R)=f u->Y':=by intro k;generalize q:x=z;revert q;rcases z with _|⟨v,w⟩<;>first|exact nF|cases v<;>first|exact nF|rcases w with _|⟨g,i⟩<;>first|exact nF|cases g<;>first|exact nF|rcases i with _|⟨j,s⟩<;>first|exact nF|rcases j with _|w7|_|_|_<;>first|exact nF|cases w7<;>first|exact nF|rcases s with _|⟨_,_⟩<;>first|exact k _ _ _|exact nF
theorem MW{x:ft}{F:dc->af hc}:(∀ a,x=f (.dict a)->F a=f u->Y')->(match x with|f (.dict a)=>F a|_=>R)=f u->Y':=by intro k;generalize q:x=z;revert q;rcases z with _|v<;>first|exact nF|cases v<;>first|exact k _|exact nF
theorem ZY{x:a_ × G}{F j':a_->a_->ha}:(∀ a b,x=(a,.ofNat b)->F a b=r->Y')->(∀ a b,x=(a,.negSucc b)->j' a b=r->Y')->(match x with|(a,.ofNat b)=>F a b|(a,.negSucc b)=>j' a b)=r->Y':=by intro k l;generalize q:x=z;revert q;rcases z with ⟨_,w⟩<;>cases w<;>first|exact k _ _|exact l _ _
theorem ZZ{x:a_}{F:ha}{j':a_->ha}:(x=0->F=r->Y')->(j' x=r->Y')->(match x with|0=>F|a=>j' a)=r->Y':=by intro k l;have h2:=MG l;generalize q:x=z;revert q;cases z<;>first|exact k|exact h2 _ _ X
theorem VU{x:af Ent}{F:Ent->af hc}:(∀ a,x=f a->F a=f u->Y')->(match x with|f a=>F a|R=>R)=f u->Y':=by intro k;generalize q:x=z;revert q;cases z<;>first|exact k _|exact nF
theorem zT{x:e_}{F j':ha}:(F=r->Y')->(x=N'->j'=r->Y')->(match x with|V=>F|N'=>j')=r->Y':=by intro k l;generalize q:x=z;revert q;cases z<;>first|exact λO=>k|exact l
theorem cA{x:e_}{F:af hc}:(x=V->F=f u->Y')->(match x with|V=>F|N'=>R)=f u->Y':=by intro k;generalize q:x=z;revert q;cases z<;>first|exact k|exact nF
theorem q7{x:e_}{F:e_}:(x=V->F=V->Y')->(match x with|V=>F|N'=>N')=V->Y':=by intro k;generalize q:x=z;revert q;cases z<;>first|exact k|exact fF
theorem Dl{ha:Sort _}{r:ha}{Y':Prop}{c:Prop}[Decidable c]{a d:ha}(k1:a=r->Y')(k2:¬c->d=r->Y'):(if c then a else d)=r->Y':=by
 intro e;split at e
 .exact k1 e
 .exact k2 ‹_› e
theorem aZ{ha:Sort _}{r:ha}{Y':Prop}{c:Prop}[Decidable c]{a d:ha}(k1:c->a=r->Y')(k2:d=r->Y'):(if c then a else d)=r->Y':=by
 intro e;split at e
 .exact k1 ‹_› e
 .exact k2 e
theorem gQ{x:af G}{F:G->af hc}:(∀ a,x=f a->F a=f u->Y')->(match x with|f a=>F a|R=>R)=f u->Y':=by intro k;generalize q:x=z;revert q;cases z<;>first|exact k _|exact nF
theorem QI{x:af G}{F:G->e_}:(∀ a,x=f a->F a=V->Y')->(match x with|f a=>F a|R=>N')=V->Y':=by intro k;generalize q:x=z;revert q;cases z<;>first|exact k _|exact fF
theorem dx{x:af St}{F:St->af hc}:(∀ a,x=f a->F a=f u->Y')->(match x with|f a=>F a|R=>R)=f u->Y':=by intro k;generalize q:x=z;revert q;cases z<;>first|exact k _|exact nF
theorem eI{x:af e_}{F:e_->af hc}:(∀ a,x=f a->F a=f u->Y')->(match x with|f a=>F a|R=>R)=f u->Y':=by intro k;generalize q:x=z;revert q;cases z<;>first|exact k _|exact nF
theorem Iq{x:af e_}{F j':af hc}:(x=f V->F=f u->Y')->(x=f N'->j'=f u->Y')->(match x with|f V=>F|f N'=>j'|R=>R)=f u->Y':=by intro k l;generalize q:x=z;revert q;rcases z with _|v<;>first|exact nF|cases v<;>first|exact k|exact l|exact nF
theorem fz{x:af (aA)}{F:aA->af hc}:(∀ a,x=f a->F a=f u->Y')->(match x with|f a=>F a|R=>R)=f u->Y':=by intro k;generalize q:x=z;revert q;cases z<;>first|exact k _|exact nF
theorem vX{x:af AO}{F:al->af hc}{j':dc->af hc}:(∀ a,x=f (.list a)->F a=f u->Y')->(∀ a,x=f (.dict a)->j' a=f u->Y')->(match x with|f (.list a)=>F a|f (.dict a)=>j' a|R=>R)=f u->Y':=by intro k l;generalize q:x=z;revert q;rcases z with _|v<;>first|exact nF|cases v<;>first|exact k _|exact l _|exact nF
theorem si{x:af (d_ e_)}{F:d_ e_->af hc}:(∀ a,x=f a->F a=f u->Y')->(match x with|f a=>F a|R=>R)=f u->Y':=by intro k;generalize q:x=z;revert q;cases z<;>first|exact k _|exact nF
theorem d0{x:af (al)}{F:al->af hc}:(∀ a,x=f a->F a=f u->Y')->(match x with|f a=>F a|R=>R)=f u->Y':=by intro k;generalize q:x=z;revert q;cases z<;>first|exact k _|exact nF
theorem Ir{x:af (UnaryOp × av)}{F:UnaryOp->av->e_}:(∀ a b,x=f (a,b)->F a b=V->Y')->(match x with|f (a,b)=>F a b|R=>N')=V->Y':=by intro k;generalize q:x=z;revert q;rcases z with _|v<;>first|exact fF|rcases v with ⟨_,_⟩<;>first|exact k _ _|exact fF
theorem It{x:af (o_ × dF)}{F:o_->dF->e_}:(∀ a b,x=f (a,b)->F a b=V->Y')->(match x with|f (a,b)=>F a b|R=>N')=V->Y':=by intro k;generalize q:x=z;revert q;rcases z with _|v<;>first|exact fF|rcases v with ⟨_,_⟩<;>first|exact k _ _|exact fF
theorem QJ{x:af Const}{F:Const->e_}:(∀ a,x=f a->F a=V->Y')->(match x with|f a=>F a|R=>N')=V->Y':=by intro k;generalize q:x=z;revert q;cases z<;>first|exact k _|exact fF
theorem A9{x:af (av × C? × av)}{F:av->C?->av->e_}:(∀ a b c,x=f (a,b,c)->F a b c=V->Y')->(match x with|f (a,b,c)=>F a b c|R=>N')=V->Y':=by intro k;generalize q:x=z;revert q;rcases z with _|v<;>first|exact fF|rcases v with ⟨_,g⟩<;>rcases g with ⟨_,_⟩<;>first|exact k _ _ _|exact fF
theorem Iu{x:af (d_ o_)}{F:d_ o_->af hc}:(∀ a,x=f a->F a=f u->Y')->(match x with|f a=>F a|R=>R)=f u->Y':=by intro k;generalize q:x=z;revert q;cases z<;>first|exact k _|exact nF
theorem nI{x:af (d_ o_)}{F:d_ o_->e_}:(∀ a,x=f a->F a=V->Y')->(match x with|f a=>F a|R=>N')=V->Y':=by intro k;generalize q:x=z;revert q;cases z<;>first|exact k _|exact fF
theorem QK{x:af (dF)}{F:dF->af hc}:(∀ a,x=f a->F a=f u->Y')->(match x with|f a=>F a|R=>R)=f u->Y':=by intro k;generalize q:x=z;revert q;cases z<;>first|exact k _|exact nF
theorem Iv{x:af (dF)}{F:dF->e_}:(∀ a,x=f a->F a=V->Y')->(match x with|f a=>F a|R=>N')=V->Y':=by intro k;generalize q:x=z;revert q;cases z<;>first|exact k _|exact fF
theorem Ba{x:af AV}{F:AV->af hc}:(∀ a,x=f a->F a=f u->Y')->(match x with|f a=>F a|R=>R)=f u->Y':=by intro k;generalize q:x=z;revert q;cases z<;>first|exact k _|exact nF
theorem pZ{x:af (av × av)}{F:av->av->e_}:(∀ a b,x=f (a,b)->F a b=V->Y')->(match x with|f (a,b)=>F a b|R=>N')=V->Y':=by intro k;generalize q:x=z;revert q;rcases z with _|v<;>first|exact fF|rcases v with ⟨_,_⟩<;>first|exact k _ _|exact fF
theorem QL{x:af (av × av × av)}{F:av->av->av->e_}:(∀ a b c,x=f (a,b,c)->F a b c=V->Y')->(match x with|f (a,b,c)=>F a b c|R=>N')=V->Y':=by intro k;generalize q:x=z;revert q;rcases z with _|v<;>first|exact fF|rcases v with ⟨_,g⟩<;>rcases g with ⟨_,_⟩<;>first|exact k _ _ _|exact fF
theorem Iw{x:af (av × av × av × av × av × L_)}{F:av->av->av->av->av->L_->e_}:(∀ a b c d e h,x=f (a,b,c,d,e,h)->F a b c d e h=V->Y')->(match x with|f (a,b,c,d,e,h)=>F a b c d e h|R=>N')=V->Y':=by intro k;generalize q:x=z;revert q;rcases z with _|v<;>first|exact fF|rcases v with ⟨_,g⟩<;>rcases g with ⟨_,j⟩<;>rcases j with ⟨_,w7⟩<;>rcases w7 with ⟨_,w9⟩<;>rcases w9 with ⟨_,_⟩<;>first|exact k _ _ _ _ _ _|exact fF
theorem QM{x:af (av × av × av × av × L_)}{F:av->av->av->av->L_->e_}:(∀ a b c d e,x=f (a,b,c,d,e)->F a b c d e=V->Y')->(match x with|f (a,b,c,d,e)=>F a b c d e|R=>N')=V->Y':=by intro k;generalize q:x=z;revert q;rcases z with _|v<;>first|exact fF|rcases v with ⟨_,g⟩<;>rcases g with ⟨_,j⟩<;>rcases j with ⟨_,w7⟩<;>rcases w7 with ⟨_,_⟩<;>first|exact k _ _ _ _ _|exact fF
theorem Iy{x:af o_}{F:o_->af hc}:(∀ a,x=f a->F a=f u->Y')->(match x with|f a=>F a|R=>R)=f u->Y':=by intro k;generalize q:x=z;revert q;cases z<;>first|exact k _|exact nF
theorem vY{x:af o_}{F:o_->e_}:(∀ a,x=f a->F a=V->Y')->(match x with|f a=>F a|R=>N')=V->Y':=by intro k;generalize q:x=z;revert q;cases z<;>first|exact k _|exact fF
theorem VV{x:af o_}{F:o_->ha}{j':ha}:(∀ a,x=f a->F a=r->Y')->(j'=r->Y')->(match x with|f a=>F a|R=>j')=r->Y':=by intro k l;generalize q:x=z;revert q;cases z<;>first|exact k _|exact λO=>l
theorem aM{x:jq}{F:St->AV->af hc}:(∀ a b,x=f (a,b)->F a b=f u->Y')->(match x with|f (a,b)=>F a b|R=>R)=f u->Y':=by intro k;generalize q:x=z;revert q;rcases z with _|v<;>first|exact nF|rcases v with ⟨_,_⟩<;>first|exact k _ _|exact nF
theorem dK{x:af av}{F:av->e_}:(∀ a,x=f a->F a=V->Y')->(match x with|f a=>F a|R=>N')=V->Y':=by intro k;generalize q:x=z;revert q;cases z<;>first|exact k _|exact fF
theorem wJ{x:af (av × CmpOp × av)}{F:av->CmpOp->av->e_}:(∀ a b c,x=f (a,b,c)->F a b c=V->Y')->(match x with|f (a,b,c)=>F a b c|R=>N')=V->Y':=by intro k;generalize q:x=z;revert q;rcases z with _|v<;>first|exact fF|rcases v with ⟨_,g⟩<;>rcases g with ⟨_,_⟩<;>first|exact k _ _ _|exact fF
theorem mP{α:Type _}{x:af (St × α)}{F:St->α->af hc}:(∀ a b,x=f (a,b)->F a b=f u->Y')->(match x with|f (a,b)=>F a b|R=>R)=f u->Y':=by intro k;generalize q:x=z;revert q;rcases z with _|v<;>first|exact nF|rcases v with ⟨_,_⟩<;>first|exact k _ _|exact nF
theorem oS{x:af (al × af a_)}{F:al->af a_->af hc}:(∀ a b,x=f (a,b)->F a b=f u->Y')->(match x with|f (a,b)=>F a b|R=>R)=f u->Y':=by intro k;generalize q:x=z;revert q;rcases z with _|v<;>first|exact nF|rcases v with ⟨_,_⟩<;>first|exact k _ _|exact nF
theorem mQ{x:af (St × al)}{F:St->al->af hc}:(∀ a b,x=f (a,b)->F a b=f u->Y')->(match x with|f (a,b)=>F a b|R=>R)=f u->Y':=by intro k;generalize q:x=z;revert q;rcases z with _|v<;>first|exact nF|rcases v with ⟨_,_⟩<;>first|exact k _ _|exact nF
theorem wK{x:af (St × aA × AV)}{F:St->aA->AV->af hc}:(∀ a b c,x=f (a,b,c)->F a b c=f u->Y')->(match x with|f (a,b,c)=>F a b c|R=>R)=f u->Y':=by intro k;generalize q:x=z;revert q;rcases z with _|v<;>first|exact nF|rcases v with ⟨_,g⟩<;>rcases g with ⟨_,_⟩<;>first|exact k _ _ _|exact nF
theorem MX{x:af (St × dc)}{F:St->dc->af hc}:(∀ a b,x=f (a,b)->F a b=f u->Y')->(match x with|f (a,b)=>F a b|R=>R)=f u->Y':=by intro k;generalize q:x=z;revert q;rcases z with _|v<;>first|exact nF|rcases v with ⟨_,_⟩<;>first|exact k _ _|exact nF
theorem wL{x:af (av × av × Pos)}{F:av->av->Pos->e_}:(∀ a b c,x=f (a,b,c)->F a b c=V->Y')->(match x with|f (a,b,c)=>F a b c|R=>N')=V->Y':=by intro k;generalize q:x=z;revert q;rcases z with _|v<;>first|exact fF|rcases v with ⟨_,g⟩<;>rcases g with ⟨_,_⟩<;>first|exact k _ _ _|exact fF
theorem MY{x:af (av × d_ I_ × d_ I_)}{F:av->d_ I_->d_ I_->e_}:(∀ a b c,x=f (a,b,c)->F a b c=V->Y')->(match x with|f (a,b,c)=>F a b c|R=>N')=V->Y':=by intro k;generalize q:x=z;revert q;rcases z with _|v<;>first|exact fF|rcases v with ⟨_,g⟩<;>rcases g with ⟨_,_⟩<;>first|exact k _ _ _|exact fF
theorem MZ{x:af (av × av × d_ I_)}{F:av->av->d_ I_->e_}:(∀ a b c,x=f (a,b,c)->F a b c=V->Y')->(match x with|f (a,b,c)=>F a b c|R=>N')=V->Y':=by intro k;generalize q:x=z;revert q;rcases z with _|v<;>first|exact fF|rcases v with ⟨_,g⟩<;>rcases g with ⟨_,_⟩<;>first|exact k _ _ _|exact fF
theorem Dm{x:af (St × al × Fl)}{F:St->al->AV->af hc}{j':St->al->Fl->af hc}:(∀ a b c,x=f (a,b,.ret c)->F a b c=f u->Y')->(∀ a b c,x=f (a,b,c)->j' a b c=f u->Y')->(match x with|f (a,b,.ret c)=>F a b c|f (a,b,c)=>j' a b c|R=>R)=f u->Y':=by intro k l;generalize q:x=z;revert q;rcases z with _|v<;>first|exact nF|rcases v with ⟨_,g⟩<;>rcases g with ⟨_,j⟩<;>cases j<;>first|exact k _ _ _|exact l _ _ _|exact nF
theorem M5{x:af (av × d_ I_)}{F:av->d_ I_->e_}:(∀ a b,x=f (a,b)->F a b=V->Y')->(match x with|f (a,b)=>F a b|R=>N')=V->Y':=by intro k;generalize q:x=z;revert q;rcases z with _|v<;>first|exact fF|rcases v with ⟨_,_⟩<;>first|exact k _ _|exact fF
theorem M6{x:af (av × o_ × dF)}{F:av->o_->dF->af hc}:(∀ a b c,x=f (a,b,c)->F a b c=f u->Y')->(match x with|f (a,b,c)=>F a b c|R=>R)=f u->Y':=by intro k;generalize q:x=z;revert q;rcases z with _|v<;>first|exact nF|rcases v with ⟨_,g⟩<;>rcases g with ⟨_,_⟩<;>first|exact k _ _ _|exact nF
theorem di{x:af (aC)}{F:aC->af hc}:(∀ a,x=f a->F a=f u->Y')->(match x with|f a=>F a|R=>R)=f u->Y':=by intro k;generalize q:x=z;revert q;cases z<;>first|exact k _|exact nF
theorem Dn{x:af (dc)}{F:dc->af hc}:(∀ a,x=f a->F a=f u->Y')->(match x with|f a=>F a|R=>R)=f u->Y':=by intro k;generalize q:x=z;revert q;cases z<;>first|exact k _|exact nF
theorem cc{x:ft}{F:PV->af hc}:(∀ a,x=f a->F a=f u->Y')->(match x with|f a=>F a|R=>R)=f u->Y':=by intro k;generalize q:x=z;revert q;cases z<;>first|exact k _|exact nF
theorem M7{x:af (aA × AV)}{F:aA->AV->af hc}:(∀ a b,x=f (a,b)->F a b=f u->Y')->(match x with|f (a,b)=>F a b|R=>R)=f u->Y':=by intro k;generalize q:x=z;revert q;rcases z with _|v<;>first|exact nF|rcases v with ⟨_,_⟩<;>first|exact k _ _|exact nF
theorem QN{x:a_}{F:ha}{j':a_->ha}:(F=r->Y')->(∀ a,x=(a+1)->j' a=r->Y')->(match x with|0=>F|(a+1)=>j' a)=r->Y':=by intro k l;generalize q:x=z;revert q;cases z<;>first|exact λO=>k|exact l _
theorem gg{x:e_}{F j':ha}:(F=r->Y')->(x=V->j'=r->Y')->(match x with|N'=>F|V=>j')=r->Y':=by intro k l;generalize q:x=z;revert q;cases z<;>first|exact λO=>k|exact l
theorem sj{x:af (aA)}{F:ha}{j':aA->ha}:(F=r->Y')->(∀ a,x=f a->j' a=r->Y')->(match x with|R=>F|f a=>j' a)=r->Y':=by intro k l;generalize q:x=z;revert q;cases z<;>first|exact λO=>k|exact l _
theorem QO{x:af (aA × a_)}{F:ha}{j':aA->a_->ha}:(F=r->Y')->(∀ a b,x=f (a,b)->j' a b=r->Y')->(match x with|R=>F|f (a,b)=>j' a b)=r->Y':=by intro k l;generalize q:x=z;revert q;rcases z with _|v<;>first|exact λO=>k|exact l _ _|rcases v with ⟨_,_⟩<;>first|exact λO=>k|exact l _ _
theorem QP{x:af G}{F:ha}{j':G->ha}:(F=r->Y')->(∀ a,x=f a->j' a=r->Y')->(match x with|R=>F|f a=>j' a)=r->Y':=by intro k l;generalize q:x=z;revert q;cases z<;>first|exact λO=>k|exact l _
theorem VW{x:af (St × al × Fl)}{F:St->al->ha}{j':af (St × al × Fl)->ha}:(∀ a b,x=f (a,b,.next)->F a b=r->Y')->((∀ a b,x≠f (a,b,.next))->j' x=r->Y')->(match x with|f (a,b,.next)=>F a b|a=>j' a)=r->Y':=by
 intro k l;rcases x with _|⟨a,b,c⟩
 .exact l (λO O=>nofun)
 .cases c
  .exact k _ _ X
  .exact l (λO O=>nofun)
  .exact l (λO O=>nofun)
theorem M8{x:af (St × al × Fl)}{F:St->al->AV->ha}{j':St->al->Fl->ha}{K:ha}:(∀ a b c,x=f (a,b,.ret c)->F a b c=r->Y')->(∀ a b c,x=f (a,b,c)->(∀ v,c≠.ret v)->j' a b c=r->Y')->(K=r->Y')->(match x with|f (a,b,.ret c)=>F a b c|f (a,b,c)=>j' a b c|R=>K)=r->Y':=by
 intro k l m;rcases x with _|⟨a,b,c⟩
 .exact m
 .cases c
  .exact l _ _ _ X (λO=>nofun)
  .exact l _ _ _ X (λO=>nofun)
  .exact k _ _ _ X
end Mine.Internal
end
section
open PySem PyProof.Rows
namespace Mine.Internal
noncomputable abbrev H:B_:=mc
noncomputable def strTab:a_->o_| 0=>"lex" | 1=>"grlex" | _=>"grevlex"
mutual
def bB(J' h:cH)(D:cg):AV->aY->Prop|.none,v=>v=.none|.bool b,v=>v=.bool b|.int i,v=>∃ t,v=.int i t|.str n,v=>n<3/\∃ t,v=.str (strTab n) t|.tup Z,v=>∃ a M,v=.ref a/\h.IsTuple a M.toArray/\aG J' h D Z M|.fx Z,v=>∃ a M,v=.ref a/\J'.IsList a M.toArray/\IntsAre M Z|.ref n,v=>∃ a,v=.ref a/\D[n]?=f a|.ub,O=>False
def aG(J' h:cH)(D:cg):al->dI->Prop|[],M=>M=[]|x::Z,M=>∃ v r,M=v::r/\bB J' h D x v/\aG J' h D Z r
end
mutual
theorem bB.mono(ht:∀ a B',h.IsTuple a B'->h'.IsTuple a B')(hp:D <+: ca):∀{x:AV} {v:aY},bB J' h D x v->bB J' h' ca x v|.none,O,r=>by exact r|.bool O,O',r=>by dsimp only[bB]at r ⊢;exact r|.int O,O',r=>by dsimp only[bB]at r ⊢;exact r|.str O,O',r=>by dsimp only[bB]at r ⊢;exact r|.tup Z,O,r=>(by dsimp only[bB]at r ⊢;obtain⟨a,M,e,t,q⟩:=r;exact fI a M e (ht _ _ t) (aG.mono ht hp q))|.fx O,O',r=>by dsimp only[bB]at r ⊢;exact r|.ref n,O,r=>(by dsimp only[bB]at r ⊢;obtain⟨a,e,q⟩:=r;refine aK a e ?_;obtain⟨t,eG⟩:=hp;subst eG;refine J (L8 (mq.mp q).1) ?_;exact q)|.ub,O,r=>by dsimp only[bB]at r
theorem aG.mono(ht:∀ a B',h.IsTuple a B'->h'.IsTuple a B')(hp:D <+: ca):∀{Z:al} {M:dI},aG J' h D Z M->aG J' h' ca Z M|[],O,r=>by exact r|x::Z,O,r=>by dsimp only[aG]at r ⊢;obtain⟨v,r',e,q,qs⟩:=r;exact fI v r' e (bB.mono ht hp q) (aG.mono ht hp qs)
end
section
variable{J' h:cH}{D:cg}
theorem aG.nil:aG J' h D [] []:=by dsimp only[aG]
theorem aG.cons(a:bB J' h D x v)(b:aG J' h D Z M):aG J' h D (x::Z) (v::M):=by exact fI v M X a b
theorem aG.length:∀{Z:al} {M:dI},aG J' h D Z M->M.length=Z.length:=by intro w';cases w' with|nil=>intro O r;dsimp only[aG]at r;subst r;rfl|cons x Z=>intro O r;dsimp only[aG]at r;obtain⟨v,r',iC,_,qs⟩:=r;subst iC;simp[qs.length]
theorem aG.append:∀{Z ys:al} {M us:dI},aG J' h D Z M->aG J' h D ys us->aG J' h D (Z++ys) (M++us):=by intro w';induction w' with|nil=>intro O O O r q;dsimp only[aG]at r;subst r;exact q|cons x Z ih=>intro O O O r q;dsimp only[aG]at r;obtain⟨v,r',j6,a,qs⟩:=r;subst j6;exact aG.cons a (ih qs q)
theorem aG.get:∀{Z:al} {M:dI},aG J' h D Z M->∀{i:a_} {x:AV},Z[i]?=f x->∃ v,M[i]?=f v/\bB J' h D x v:=by intro w';cases w' with|nil=>intro O O i x e;exact nS e|cons y Z=>intro O r i x e;dsimp only[aG]at r;obtain⟨v,r',mr,a,qs⟩:=r;subst mr;cases i with|zero=>simp at e;subst e;exact aK v X a|succ i=>simpa using qs.get (i:=i) (x:=x) (by simpa using e)
theorem aG.get':∀{Z:al} {M:dI},aG J' h D Z M->∀{i:a_} {v:aY},M[i]?=f v->∃ x,Z[i]?=f x/\bB J' h D x v:=by intro w';cases w' with|nil=>intro O r i x e;dsimp only[aG]at r;subst r;exact nS e|cons y Z=>intro O r i x e;dsimp only[aG]at r;obtain⟨v,r',oU,a,qs⟩:=r;subst oU;cases i with|zero=>simp at e;subst e;exact aK y X a|succ i=>simpa using qs.get' (i:=i) (v:=x) (by simpa using e)
theorem aG.take:∀{Z:al} {M:dI},aG J' h D Z M->∀ n,aG J' h D (Z.take n) (M.take n):=by intro w';cases w' with|nil=>intro O r n;dsimp only[aG]at r;subst r;simpa using aG.nil|cons y Z=>intro O r n;dsimp only[aG]at r;obtain⟨v,r',qA,a,qs⟩:=r;subst qA;cases n with|zero=>exact aG.nil|succ n=>exact aG.cons a (qs.take n)
theorem aG.drop:∀{Z:al} {M:dI},aG J' h D Z M->∀ n,aG J' h D (Z.drop n) (M.drop n):=by intro w';cases w' with|nil=>intro O r n;dsimp only[aG]at r;subst r;simpa using aG.nil|cons y Z=>intro O r n;have r0:=r;dsimp only[aG]at r;obtain⟨v,r',vF,a,qs⟩:=r;subst vF;cases n with|zero=>exact r0|succ n=>exact qs.drop n
theorem aG.set:∀{Z:al} {M:dI},aG J' h D Z M->∀(n:a_) {x:AV} {v:aY},bB J' h D x v->aG J' h D (Z.set n x) (M.set n v):=by intro w';cases w' with|nil=>intro O r n O O O;dsimp only[aG]at r;subst r;simpa using aG.nil|cons y Z=>intro O r n O O q;dsimp only[aG]at r;obtain⟨v,r',yI,a,qs⟩:=r;subst yI;cases n with|zero=>exact aG.cons q qs|succ n=>exact aG.cons a (qs.set n q)
theorem aG.reverse:∀{Z:al} {M:dI},aG J' h D Z M->aG J' h D Z.reverse M.reverse:=by intro w';cases w' with|nil=>intro O r;dsimp only[aG]at r;subst r;simpa using aG.nil|cons y Z=>intro O r;dsimp only[aG]at r;obtain⟨v,r',Dp,a,qs⟩:=r;subst Dp;exact J C8 (J C8 (qs.reverse.append (aG.cons a aG.nil)))
theorem bB.none_inv(r:bB J' h D .none v):v=.none:=by dsimp only[bB]at r ⊢;exact r
theorem bB.bool_inv(r:bB J' h D (.bool b) v):v=.bool b:=by dsimp only[bB]at r ⊢;exact r
theorem bB.int_inv(r:bB J' h D (.int i) v):∃ t,v=.int i t:=by dsimp only[bB]at r ⊢;exact r
theorem bB.str_inv(r:bB J' h D (.str n) v):n<3/\∃ t,v=.str (strTab n) t:=by dsimp only[bB]at r ⊢;exact r
theorem bB.bD(r:bB J' h D (.tup Z) v):∃ a M,v=.ref a/\h.IsTuple a M.toArray/\aG J' h D Z M:=by dsimp only[bB]at r ⊢;exact r
theorem bB.zU(r:bB J' h D (.fx Z) v):∃ a M,v=.ref a/\J'.IsList a M.toArray/\IntsAre M Z:=by dsimp only[bB]at r ⊢;exact r
theorem bB.Iz(r:bB J' h D (.ref n) v):∃ a,v=.ref a/\D[n]?=f a:=by dsimp only[bB]at r ⊢;exact r
theorem bB.none:bB J' h D .none .none:=by dsimp only[bB]
theorem bB.bool(b:e_):bB J' h D (.bool b) (.bool b):=by dsimp only[bB]
theorem bB.int(i:G)(t:Tok):bB J' h D (.int i) (.int i t):=by exact⟨t,X⟩
theorem bB.tup(t:h.IsTuple a M.toArray)(q:aG J' h D Z M):bB J' h D (.tup Z) (.ref a):=by exact fI a M X t q
theorem bB.ref(e:D[n]?=f a):bB J' h D (.ref n) (.ref a):=by exact aK a X e
end
def cO(J' h:cH)(D:cg):dc->d_ (aA × bU × aY)->Prop|[],Z=>Z=[]|p::r,Z=>∃ a v Qh,Z=(p.1,a,v)::Qh/\bB J' h D p.2 v/\cO J' h D r Qh
theorem cO.mono(ht:∀ a B',h.IsTuple a B'->h'.IsTuple a B')(hp:D <+: ca):∀{bJ:dc} {Z:d_ (aA × bU × aY)},cO J' h D bJ Z->cO J' h' ca bJ Z:=by intro w';cases w' with|nil=>intro O r;exact r|cons p bJ=>intro O r;dsimp only[cO]at r ⊢;obtain⟨a,v,Qh,e,q,qs⟩:=r;exact Di a v Qh e (q.mono ht hp) (qs.mono ht hp)
section
variable(H:B_)(w:de)
noncomputable abbrev tk:=tupleKind (o? H w)
def yJ(J' h:cH)(D:cg)(a:bU):AO->Prop|.list Z=>∃ M:dI,h.PlainList a M.toArray/\aG J' h D Z M|.dict bJ=>∃ Z,h.DictOfH (tk H w) a Z/\cO J' h D bJ Z
structure Inv(b:aJ)(s:aJ)(D:cg)(Y:St):Prop where
 same:∃ h t,s={b with heap:=h,toks:=t}
 keep:∀ a o,b.heap.get? a=f o->s.heap.get? a=f o
 low:i_<s.heap.objs.size
 yK:∃ o,b.heap.get? T?=f o
 len:D.length=Y.n
 nodup:D.Nodup
 fresh:∀ a∈D,b.heap.get? a=R/\(a==i_)=N'
 cls:∀ a∈D,∃ o,s.heap.get? a=f o/\(o.cls=.type "list"\/o.cls=.type "dict")
 obj:∀ i e,Y.ent i=f e->∃ a,D[i]?=f a/\yJ H w b.heap s.heap D a e.obj
end
structure dD(F':cg)(s s':aJ)(D ca:cg)(Y T':St):Prop where
 pre:D <+: ca
 new:∀ a∈ca,a∈D\/s.heap.get? a=R
 fr:∀ a o,a∉D->a∉F'->s.heap.get? a=f o->s'.heap.get? a=f o
 flags:∀ i,i<D.length->T'.flag i=Y.flag i
 lock:∀ i a o,D[i]?=f a->Y.flag i=V->s.heap.get? a=f o->s'.heap.get? a=f o
 Dq:∀ a∈F',∀ o,s.heap.get? a=f o->∃ o',s'.heap.get? a=f o'
theorem dD.refl(F':cg)(s:aJ)(D:cg)(Y:St):dD F' s s D D Y Y:=
 ⟨eU,λO h=>.inl h,λO O O O h=>h,λO O=>X,λO O O O O h=>h,λO O o h=>⟨o,h⟩⟩
theorem QQ(h:D <+: ca)(m:a∈D):a∈ca:=h.subset m
theorem vZ{D ca:cg}(h:D <+: ca){i:a_}{a:bU}(m:D[i]?=f a):ca[i]?=f a:=by obtain⟨t,wM⟩:=h;subst wM;refine J (L8 (mq.mp m).1) ?_;exact m
theorem dD.trans{F':cg}{D ca Z0:cg}(x:dD F' s s' D ca Y T')(y:dD F' s' s'' ca Z0 T' adF):dD F' s s'' D Z0 Y adF:=by
 have yL:∀ a o,a∉D->s.heap.get? a=f o->a∉ca:=λa o N L h3=>by
  rcases x.new a h3 with q|q
  .exact N q
  .rw[L]at q;exact sN q
 refine⟨x.pre.trans y.pre,λa B=>?_,λa o N L h3=>y.fr a o (yL a o N h3) L (x.fr a o N L h3),λi hi=>?_,λi a o N L h3=>?_,λa B o h=>?_⟩
 .rcases y.new a B with q|q
  .exact x.new a q
  .by_cases hr:a∈D
   .exact .inl hr
   .right;cases e:s.heap.get? a with|none=>rfl|some o=>
     by_cases ho:a∈F'
     .refine cC (x.Dq a ho o e) λo' e'=>?_;rw[e']at q;exact sN q
     .rw[x.fr a o hr ho e]at q;exact sN q
 .exact(y.flags i (eE hi x.pre.length_le)).trans (x.flags i hi)
 .exact y.lock i a o (vZ x.pre N) ((x.flags i ((mq.mp N).1)).trans L) (x.lock i a o N L h3)
 .obtain⟨o',h'⟩:=x.Dq a B o h;exact y.Dq a B o' h'
def aX(F':cg)(h:cH):Prop:=∀ a∈F',∀ B',¬ h.IsTuple a B'
theorem aX.of(x:∀ a∈F',∀ o,h.get? a=f o->∀ Z n,o.data≠.seq Z n):aX F' h:=λa B B' ⟨o,N,_,n,L⟩=>x a B o N B' n L
theorem aX.nil:aX [] h:=λO m=>nomatch m
section
variable{w:de}{b s s':aJ}{D ca F':cg}{Y T':St}
theorem Inv.Bb(I:Inv H w b s D Y)(t:s.heap.IsTuple a B'):a∉D:=λm=>by refine ah (I.cls a m) λo ho U'=>?_;obtain⟨o',qB,Z1,_⟩:=t;rw[ho]at qB;cases qB;rw[Z1]at U';rcases U' with q|q<;>simp at q
theorem Inv.gM(I:Inv H w b s D Y)(S:dD F' s s' D ca Y T')(ok:aX F' s.heap)(a:bU)(B':T_ aY)(t:s.heap.IsTuple a B'):s'.heap.IsTuple a B':=by have hr:=I.Bb t;obtain⟨o,ho,U',n,hd⟩:=t;have hw:a∉F':=λm=>ok a m B' ⟨o,ho,U',n,hd⟩;exact⟨o,S.fr a o hr hw ho,U',n,hd⟩
theorem Inv.rep(I:Inv H w b s D Y)(S:dD F' s s' D ca Y T')(ok:aX F' s.heap)(r:bB b.heap s.heap D x v):bB b.heap s'.heap ca x v:=
 r.mono (I.gM S ok) S.pre
theorem Inv.FK(I:Inv H w b s D Y)(S:dD F' s s' D ca Y T')(ok:aX F' s.heap)(r:aG b.heap s.heap D x v):aG b.heap s'.heap ca x v:=
 r.mono (I.gM S ok) S.pre
theorem jL(ht:∀ a B',h.IsTuple a B'->h'.IsTuple a B')(x:R? (o? H w) h k a):R? (o? H w) h' k a:=by refine ib λGq zq=>?_;obtain⟨o,B',n,ho,U',hd,hi⟩:=x;obtain⟨o',qB,Z1,n',u6⟩:=ht a B' ⟨o,ho,U',n,hd⟩;refine zq ?_;clear zq;exact Dj o' B' n' qB Z1 u6 hi
theorem yJ.keeps(ht:∀ a B',h.IsTuple a B'->h'.IsTuple a B')(hp:D <+: ca)(B:∀ ob,h.get? a=f ob->h'.get? a=f ob)(r:yJ H w J' h D a o):yJ H w J' h' ca a o:=by
 cases o with|list Z=>(obtain⟨M,⟨n,hl⟩,q⟩:=r;exact aK M ⟨n,B _ hl⟩ (q.mono ht hp))|dict bJ=>obtain⟨Z,⟨ob,es,ep,hg,hx,hd,he,hk,hn⟩,q⟩:=r;exact aK Z ⟨ob,es,ep,B _ hg,hx,hd,he,λx hx=>jL ht (hk x hx),hn⟩ (q.mono ht hp)
theorem Inv.get(I:Inv H w b s D Y)(e:Y.get i=f o):∃ a,D[i]?=f a/\yJ H w b.heap s.heap D a o:=by unfold St.get at e;refine ah (zK.mp e) λen he fJ=>?_;clear e;subst fJ;exact I.obj i en he
theorem Inv.at(I:Inv H w b s D Y)(e:Y.get i=f o)(r:bB b.heap s.heap D (.ref i) v):∃ a,v=.ref a/\D[i]?=f a/\yJ H w b.heap s.heap D a o:=by refine ah (r.Iz) λa bK N=>?_;clear r;subst bK;refine ah (I.get e) λa' L h3=>?_;rw[N]at L;obtain rfl:=aw L;exact kB a X N h3
theorem Inv.cW(I:Inv H w b s D Y)(e:Y.get i=f (.list Z))(r:bB b.heap s.heap D (.ref i) v) :
  ∃ a M,v=.ref a/\D[i]?=f a/\s.heap.PlainList a M.toArray/\aG b.heap s.heap D Z M:=by
 refine TP λGq kq=>?_;obtain⟨a,Bc,N,M,L,h3⟩:=I.at e r;clear r;subst Bc;exact kq a M X N L h3
theorem Inv.kI(I:Inv H w b s D Y)(e:Y.get i=f (.dict bJ))(r:bB b.heap s.heap D (.ref i) v) :
  ∃ a Z,v=.ref a/\D[i]?=f a/\s.heap.DictOfH (tk H w) a Z/\cO b.heap s.heap D bJ Z:=by
 refine TP λGq kq=>?_;obtain⟨a,M9,N,Z,L,h3⟩:=I.at e r;clear r;subst M9;exact kq a Z X N L h3
theorem jV(h:Y.ent i=f e):Y.flag i=e.locked:=by unfold St.ent at h;unfold St.flag;exact J h X
theorem Dt(h:Y.getM i=f o):Y.ent i=f ⟨N',o⟩:=by unfold St.getM at h;unfold St.ent;revert h;refine Zy (λO e h=>?_);refine J e ?_;obtain rfl:=aw h;rfl
theorem mR(h:Y.getM i=f o):Y.get i=f o:=by
 have:=Dt h
 unfold St.ent at this;unfold St.get;exact J this X
theorem Du(h:Y.JN i e=f T'):T'.n=Y.n/\∀ j,T'.ent j=if j=i then f e else Y.ent j:=by unfold St.JN at h;dsimp only at h;revert h;refine cA (λq h=>?_);obtain rfl:=aw h;exact⟨X,λj=>Tr.vW e _ _ q j⟩
theorem wN(h:Y.push o=f T'):T'.n=Y.n+1/\∀ j,T'.ent j=if j=Y.n then f ⟨N',o⟩ else Y.ent j:=by unfold St.push at h;dsimp only at h;revert h;refine cA (λq h=>?_);obtain rfl:=aw h;exact⟨X,λj=>Tr.vW _ _ _ q j⟩
theorem oV(h:Y.kG i K'=f T'):∃ e,Y.ent i=f e/\T'.n=Y.n/\∀ j,T'.ent j=if j=i then f ⟨K',e.obj⟩ else Y.ent j:=by revert h;exact VU (λe he h=>cF (Du h) λN L=>kB e he N L)
theorem sk(h:T'.ent i=Y.ent i):T'.flag i=Y.flag i:=by unfold St.ent at h;unfold St.flag;exact J h X
theorem zV{l:cg}(hn:l.Nodup){i j:a_}{a:bU}(hi:l[i]?=f a)(hj:l[j]?=f a):i=j:=by obtain⟨N,e1⟩:=mq.mp hi;obtain⟨L,e2⟩:=mq.mp hj;exact(U4 hn).mp (e1.trans e2.symm)
theorem Inv.quiet(I:Inv H w b s D Y){t:Tok}(hk:∀ a o,a∉F'->s.heap.get? a=f o->h'.get? a=f o)(ok:aX F' s.heap)(hr:∀ a∈F',a∉D)(hb:∀ a∈F',b.heap.get? a=R)(hd:∀ a∈F',∀ o,s.heap.get? a=f o->∃ o',h'.get? a=f o') (iQ:i_<h'.objs.size) :
  Inv H w b {s with heap:=h',toks:=t} D Y/\dD F' s {s with heap:=h',toks:=t} D D Y Y:=by
 have S:dD F' s {s with heap:=h',toks:=t} D D Y Y:=
  ⟨eU,λO h=>.inl h,λa o N L h3=>hk a o L h3,λO O=>X,λi a o N O h3=>hk a o (λm=>hr a m (dX N)) h3,hd⟩
 refine⟨?_,S⟩;refine gy (I.same) λh t' fJ=>?_;clear hd;subst fJ;refine⟨⟨h',t,X⟩,λa o e=>hk a o (λm=>by rw[hb a m]at e;exact nS e) (I.keep a o e),iQ,I.yK,I.len,I.nodup,I.fresh,λa m=>?_,λi e he=>?_⟩
 .refine ah (I.cls a m) λo ho U'=>?_;exact aK o (hk a o (λq=>hr a q m) ho) U'
 .refine ah (I.obj i e he) λa N L=>?_;exact aK a N (L.keeps (I.gM S ok) eU λob ho=>hk a ob (λq=>hr a q (dX N)) ho)
theorem Inv.more(I:Inv H w b s D Y){t:Tok}(hk:∀ a o,s.heap.get? a=f o->h'.get? a=f o)(iQ:i_<h'.objs.size) :
  Inv H w b {s with heap:=h',toks:=t} D Y/\dD [] s {s with heap:=h',toks:=t} D D Y Y:=
 I.quiet (λa o O e=>hk a o e) aX.nil (λO m=>nomatch m) (λO m=>nomatch m) (λO m=>nomatch m) iQ
theorem p0{h h':cH}(I:∃ o,h.get? T?=f o)(hk:∀ a o,h.get? a=f o->h'.get? a=f o):i_<h'.objs.size:=by
 obtain⟨o,ho⟩:=I
 have:=mJ (hk _ _ ho)
 have e1:(T?:a_)=2:=X;rw[e1]at this;exact J (X:(i_:a_)=1) (rY (by decide) this)
theorem Inv.toks(I:Inv H w b s D Y)(t:Tok):Inv H w b {s with toks:=t} D Y/\dD [] s {s with toks:=t} D D Y Y:=
 I.more (h':=s.heap) (λO O e=>e) I.low
theorem Inv.alloc(I:Inv H w b s D Y){t:Tok}{a:bU}(hk:∀ c ob,s.heap.get? c=f ob->h'.get? c=f ob)(jr:s.heap.get? a=R)(Qi:i_<a)(iQ:i_<h'.objs.size)(U':∃ ob,h'.get? a=f ob/\(ob.cls=.type "list"\/ob.cls=.type "dict")) (hp:Y.push o=f T') (ho:(∀ c B',s.heap.IsTuple c B'->h'.IsTuple c B')->D <+: D++[a]->yJ H w b.heap h' (D++[a]) a o) :
  Inv H w b {s with heap:=h',toks:=t} (D++[a]) T'/\dD [] s {s with heap:=h',toks:=t} D (D++[a]) Y T'/\(D++[a])[Y.n]?=f a:=by
 obtain⟨hn,he⟩:=wN hp;have q8:D <+: D++[a]:=Vh _ _;have QR:b.heap.get? a=R:=by cases e:b.heap.get? a with|none=>rfl|some ob=>rw[I.keep _ _ e]at jr;exact sN jr
 have T9:a∉D:=λm=>by refine ah (I.cls a m) λob Dv O=>?_;rw[jr]at Dv;exact nS Dv
 have ht:∀ c B',s.heap.IsTuple c B'->h'.IsTuple c B':=λc B' ⟨ob,N,L,n,h3⟩=>⟨ob,hk _ _ N,L,n,h3⟩;have Bd:(D++[a])[Y.n]?=f a:=by refine dT I.len ?_;simp
 refine qM ?_ ⟨q8,λc U'=>?_,λc ob O O e=>hk c ob e,λi hi=>?_,λi c ob O O e=>hk c ob e,λO m=>nomatch m⟩ Bd
 .refine gy (I.same) λh t' fJ=>?_;subst fJ;refine⟨⟨h',t,X⟩,λc ob e=>hk c ob (I.keep c ob e),iQ,I.yK,by exact J ou (J I.len (J hn X)),?_,?_,λc m=>?_,λi e N=>?_⟩
  .refine J (propext Vf) ⟨I.nodup,(by simp),?_⟩;intro x hx y hy;rw[az]at hy;subst hy;rintro rfl;exact T9 hx
  .intro c m;rcases fH.mp m with m|m
   .exact I.fresh c m
   .rw[az]at m;clear U' q8 T9 Bd jr ho;subst m;exact⟨QR,uO (rZ Qi)⟩
  .rcases fH.mp m with m|m
   .exact ah (I.cls c m) λob N L=>aK ob (hk _ _ N) L
   .rw[az]at m;clear Qi q8 QR T9 Bd jr ho;subst m;exact U'
  .rw[he]at N;split at N
   rename_i q
   rotate_left;rotate_left
   .subst q;obtain rfl:=aw N;exact aK a Bd (ho ht q8)
   .refine ah (I.obj i e N) λc L h3=>?_;exact aK c (vZ q8 L) (h3.keeps ht q8 λob e=>hk c ob e)
 .rcases fH.mp U' with m|m
  .exact .inl m
  .rw[az]at m;clear Qi ho q8 QR T9 Bd U';clear U';subst m;exact .inr jr
 .refine sk ?_;exact J (he _) (J (ak (by rw[<-I.len];exact jh hi)) X)
theorem Inv.upd(I:Inv H w b s D Y){t:Tok}{i:a_}{a:bU}(hi:D[i]?=f a)(hm:Y.getM i=f o)(hs:s_ a s.heap h')(U':∃ ob,h'.get? a=f ob/\(ob.cls=.type "list"\/ob.cls=.type "dict")) (hp:Y.set i o'=f T') (ho:(∀ c B',s.heap.IsTuple c B'->h'.IsTuple c B')->yJ H w b.heap h' D a o') :
  Inv H w b {s with heap:=h',toks:=t} D T'/\dD [] s {s with heap:=h',toks:=t} D D Y T':=by
 obtain⟨hn,he⟩:=Du hp;have hme:=Dt hm;have fD:a∈D:=dX hi;have ht:∀ c B',s.heap.IsTuple c B'->h'.IsTuple c B':=λc B' t=>by have ej:c≠a:=λq=>I.Bb t (q▸fD);obtain⟨ob,N,L,n,h3⟩:=t;exact⟨ob,(hs.2 c ej).trans N,L,n,h3⟩
 have hfl:∀ j,T'.flag j=Y.flag j:=λj=>by
  by_cases q:j=i
  .clear hi hm hp;subst q;exact J (jV (e:=⟨N',o'⟩) (by exact J (he _) (J (ai X) X))) (J (jV hme) X)
  .exact sk (by exact J (he _) (J (ak q) X))
 refine⟨?_,⟨eU,λO h=>.inl h,λc ob N O h3=>(hs.2 c λq=>N (q▸fD)).trans h3,λj O=>hfl j,λj c ob N L h3=>?_,λO m=>nomatch m⟩⟩
 ·((refine gy (I.same) λh t' fJ=>?_;subst fJ));refine⟨⟨h',t,X⟩,λc ob e=>?_,by refine J hs.1 ?_;exact I.low,I.yK,I.len.trans hn.symm,I.nodup,I.fresh,λc m=>?_,λj e N=>?_⟩
  .have ej:c≠a:=λq=>by rw[q,(I.fresh a fD).1]at e;exact nS e
   exact(hs.2 c ej).trans (I.keep c ob e)
  .by_cases q:c=a
   .clear hi fD hs ho;subst q;exact U'
   .exact ah (I.cls c m) λob N L=>aK ob ((hs.2 c q).trans N) L
  .rw[he]at N;split at N
   rename_i q
   rotate_left
   rename_i q
   rotate_left
   .clear hm hp he hme;subst q;obtain rfl:=aw N;exact aK a hi (ho ht)
   .refine ah (I.obj j e N) λc L h3=>?_;(refine aK c L (h3.keeps ht eU λob h4=>(hs.2 c λr=>q ?_).trans h4));clear U' fD hs ho;subst r;exact zV I.nodup L hi
 .have ej:c≠a:=λq=>by clear hs U' ho fD;subst q;clear hm hp he;obtain rfl:=zV I.nodup N hi;rw[jV hme]at L;exact fT L
  exact(hs.2 c ej).trans h3
theorem Inv.kG(I:Inv H w b s D Y)(hp:Y.kG i K'=f T'):Inv H w b s D T':=by
 refine bZ (oV hp) λe N L h3=>⟨I.same,I.keep,I.low,I.yK,I.len.trans L.symm,I.nodup,I.fresh,I.cls,λj e' h4=>?_⟩;rw[h3]at h4;split at h4
 rename_i q
 rotate_left;rotate_left
 .clear hp h3;subst q;obtain rfl:=aw h4;exact I.obj j e N
 .exact I.obj j e' h4
end
structure FL(A:dd):Prop where
 hh:A.handled=R
 un:A.units+200<oL
section
variable{w:de}{b s:aJ}{D F':cg}{Y T':St}{A:dd}{E:cP}
def fK(H:B_)(w:de)(b s:aJ)(D:cg)(Y T':St)(z:AV)(Q:cP):Prop:=
 ∀ v s' ca,Inv H w b s' ca T'->dD [] s s' D ca Y T'->bB b.heap s'.heap ca z v->Q v s'
def so(H:B_)(w:de)(b s:aJ)(D:cg)(Y T':St)(Q:aJ->Prop):Prop:=
 ∀ s' ca,Inv H w b s' ca T'->dD [] s s' D ca Y T'->Q s'
theorem fK.tok{Q:cP}(k:fK H w b s D Y Y z Q)(I:Inv H w b s D Y){t:Tok}(r:bB b.heap s.heap D z v):Q v {s with toks:=t}:=
 k _ _ _ (I.toks t).1 (I.toks t).2 r
theorem fK.here{Q:cP}(k:fK H w b s D Y Y z Q)(I:Inv H w b s D Y)(r:bB b.heap s.heap D z v):Q v s:=
 k _ _ _ I (dD.refl _ _ _ _) r
theorem fK.more{Q:cP}(k:fK H w b s D Y Y z Q)(I:Inv H w b s D Y){t:Tok}(hk:∀ a o,s.heap.get? a=f o->h'.get? a=f o)(iQ:i_<h'.objs.size)(r:bB b.heap h' D z v):Q v {s with heap:=h',toks:=t}:=
 k _ _ _ (I.more (t:=t) hk iQ).1 (I.more hk iQ).2 r
theorem Inv.g7(I:Inv H w b s D Y){h':cH}(hk:∀ a o,s.heap.get? a=f o->h'.get? a=f o):i_<h'.objs.size:=
 p0 I.yK λa o e=>hk a o (I.keep a o e)
theorem fL{h:cH}(o:Obj)(l:i_<h.objs.size):i_<(h.push o).objs.size:=by exact J (yF _ _) (uK l)
theorem wO{h:cH}(M:dI):(h.push {cls:=.type "tuple",data:=.seq M.toArray}).IsTuple h.objs.size M.toArray:=
 ⟨_,j5 _ X,X,0,X⟩
theorem dM(h:cH):h.get? h.objs.size=R:=by cases e:h.get? h.objs.size with|none=>rfl|some o=>exact g_ (mJ e) (CY _)
theorem fK.tuple{Q:cP}(k:fK H w b s D Y Y (.tup Z) Q)(I:Inv H w b s D Y)(r:aG b.heap s.heap D Z M) :
  Q (.ref s.heap.objs.size) {s with heap:=s.heap.push {cls:=.type "tuple",data:=.seq M.toArray}}:=by
 have hk:∀ a o,s.heap.get? a=f o->(s.heap.push {cls:=.type "tuple",data:=.seq M.toArray}).get? a=f o:=λa o e=>kE _ e;have vs:=I.more (t:=s.toks) hk (fL _ I.low);exact k _ _ _ vs.1 vs.2 (bB.tup (wO M) (I.FK vs.2 aX.nil r))
theorem fK.list{Q:cP}(hp:Y.push (.list Z)=f T')(k:fK H w b s D Y T' (.ref Y.n) Q)(I:Inv H w b s D Y)(r:aG b.heap s.heap D Z M){t:Tok}(hk:∀ c ob,s.heap.get? c=f ob->h'.get? c=f ob)(jr:s.heap.get? a=R) (Qi:i_<a) (iQ:i_<h'.objs.size) (hl:h'.PlainList a M.toArray):Q (.ref a) {s with heap:=h',toks:=t}:=by
 obtain⟨n,hg⟩:=hl;have vs:=I.alloc (t:=t) hk jr Qi iQ ⟨_,hg,.inl X⟩ hp λht hq=>⟨M,⟨n,hg⟩,r.mono ht hq⟩;exact k _ _ _ vs.1 vs.2.1 (bB.ref vs.2.2)
theorem fK.mS{Q:cP}(hp:Y.push (.list Z)=f T')(k:fK H w b s D Y T' (.ref Y.n) Q)(I:Inv H w b s D Y)(r:aG b.heap s.heap D Z M)(he:its=M.toArray) :
  Q (.ref s.heap.objs.size) {s with heap:=s.heap.push {cls:=.type "list",data:=.seq its}}:=by
 subst he;exact fK.list (t:=s.toks) hp k I r (λc ob e=>kE _ e) (dM _) I.low (fL _ I.low) ⟨0,j5 _ X⟩
noncomputable def binOp:A0->C?|.add=>.Add|.sub=>.Sub|.mul=>.Mult|.fdiv=>.FloorDiv|.mod=>.Mod|.pow=>.Pow
noncomputable def Na:A6->CmpOp|.eq=>.Eq|.ne=>.NotEq|.lt=>.Lt|.le=>.LtE|.gt=>.Gt|.ge=>.GtE
theorem Be(h:a.natAbs<2^63)(L:c.natAbs<2^63):IntMulOk a c:=by mul_fits
theorem QT{t u:Tok}{Q:cP}(e:cX o x y=f z)(k:∀ t t',Q (.int z t) {s with toks:=t'}) :
  b_ (c_ H w) A (binaryOp (binOp o) (.int x t) (.int y u)) Q E s:=by
 cases o with|add=>(dsimp only[cX]at e;rw[dQ]at e);subst e;exact PyProof.Rows.add_int (k _ _)|sub=>(dsimp only[cX]at e;rw[dQ]at e);subst e;exact PyProof.Rows.sub_int (k _ _)|mul=>revert e;refine aZ (λq e=>?_) nS;simp only[dQ]at e;subst e;exact PyProof.Rows.mul_int (k _ _) (Be q.1 q.2)|fdiv=>revert e;refine aZ (λq e=>?_) nS;simp only[dQ]at e;subst e;exact PyProof.Rows.floordiv_int q.1 (k _ _) (Or.inl (PyProof.noPylong_small q.2))|mod=>revert e;refine Dl nS λq e=>?_;simp only[dQ]at e;subst e;exact PyProof.Rows.mod_int' q (k _ _)|pow=>dsimp only[cX]at e;revert e;refine Zz (λn br=>?_);subst br;refine aZ (λq e=>?_) nS;simp only[dQ]at e;subst e;exact PyProof.Rows.pow_int_small (n:=(n:G)) (Qz n) (by lia) (by lia) (by simpa using k _ _)
theorem wQ(n:a_)(r:bB J' h D x v):aG J' h D (l_ n x) (l_ n v):=by induction n with|zero=>exact aG.nil|succ n ih=>exact aG.cons r ih
theorem JO(v:aY):∀(n:a_) (G':T_ aY),List.foldl (λx1 x2=>x1++x2) G' (l_ n #[v])=G'++(l_ n v).toArray:=λw'=>by induction w' with|zero=>intro G';rfl|succ n ih=>intro G';simp only[H3,List.foldl_cons,ih,H3];apply Array.ext';simp
theorem Bf{v:aY}{k:a_}{x:G}{u:Tok}{Q:cP}(hl:s.heap.get? l=f {cls:=.type "list",dict:=R,data:=.seq #[v] k,slots:=#[]})(h0:0<=x) (hx:x<=1000000) (h:Q (.ref s.heap.objs.size) {s with heap:=s.heap.push {cls:=.type "list",data:=.seq (l_ x.toNat v).toArray}}) :
  b_ (c_ H w) A (binaryOp .Mult (.ref l) (.int x u)) Q E s:=
 wpAny_binaryOp_repeat_ref (T:="list") (U:="int") (by decide) ⟨_,hl,X⟩ (λs'=>typeIs_int s' x u) noFill_list_mul F.fills_int_mul F.slot_int_rmul repeat_list F.slot_int_index.lookup
  (C2 F.slot_int_rmul (typeIs_int s x u) F.entry_int_rmul (F.args_int_rmul_2 _ _) (int___rmul___int_list x u l #[v] k)
   ⟨hl,X,⟨_,hl,X⟩,C2 F.slot_list_mul ⟨_,hl,X⟩ F.entry_list_mul (F.args_list_mul_2 _ _)
    (AutoListH.list___mul___list_int_3 l #[v] k x u (by simp[Builtin.List.listFitsIndex];lia) (by simp;lia) (by simp[Builtin.List.listTooLong,g?];lia))
    ⟨hl,by
     exact J (X:(if (#[v]:T_ aY).isEmpty=V then 0 else x.toNat)=x.toNat) (J (JO _ _ _) (J Array.empty_append h))⟩⟩)
theorem VX{Q:cP}(I:Inv H w b s D Y)(rx:bB b.heap s.heap D x u)(ry:bB b.heap s.heap D y v)(e:oA Y o x y=f (T',z))(k:fK H w b s D Y T' z Q) :
  b_ (c_ H w) A (binaryOp (binOp o) u v) Q E s:=by
 dsimp only[oA]at e;revert e;refine adC (λx y br bK e=>?_) (λi j br bK e=>?_) (λi kk br bK e=>?_);subst br;subst bK;rotate_left;subst br;subst bK;rotate_left;subst br;subst bK;rotate_left
 .revert e;refine gQ (λz' ez e=>?_);revert k;refine gJ e ?_;intro k;refine cC (rx.int_inv) λt aL=>?_;clear rx;subst aL;refine cC (ry.int_inv) λt' aL=>?_;clear ry;subst aL;exact QT ez λt1 t2=>k.tok I (bB.int _ _)
 .revert e;refine ZB (λbr=>?_);subst br;refine adD (λZ ys ex ey=>aZ (λhz=>?_) nS);refine dx (λs' ep e=>?_);revert k;refine gJ e ?_;intro k;refine ib λGq zq=>?_;obtain⟨a,M,eG,N,⟨n1,L⟩,h3⟩:=I.cW ex rx;clear rx;subst eG;obtain⟨c,us,iC,h4,⟨n2,h5⟩,h6⟩:=I.cW ey ry;clear ry;subst iC;refine zq ?_;clear zq;refine P.add_list (n:=n1) (n2:=n2) L h5 (fK.mS ep k I (h3.append h6) (by simp)) ?_;simp only[dZ,dZ,h3.length,h6.length,wB]
  have:=hz.1
  have:=hz.2
  unfold lim at *;lia
 .revert e;refine ZA (λbr=>?_);subst br;refine adE (λv0 ex=>aZ (λhk=>?_) nS);refine dx (λs' ep e=>?_);revert k;refine gJ e ?_;intro k;refine ib λGq zq=>?_;obtain⟨a,M,j6,N,⟨n1,L⟩,h3⟩:=I.cW ex rx;clear rx;subst j6;obtain⟨t,mr⟩:=ry.int_inv;clear ry;subst mr;dsimp only[aG]at h3;obtain⟨v1,r1,oU,hv,qA⟩:=h3;subst oU;subst qA;refine cC (hv.int_inv) λt1 aL=>?_;clear hv;subst aL;refine zq ?_;clear zq;refine Bf L (by lia) (by lia) (fK.mS ep k I (wQ _ (bB.int _ _)) X)
theorem QU{Q:cP}(k:Q (.bool (cmpInt o x y)) s) :
  b_ (c_ H w) A (G? (Na o) (.int x t) (.int y u)) Q E s:=by
 cases o with|eq=>exact PyProof.Rows.eq_int k|ne=>exact PyProof.Rows.ne_int k|lt=>exact TA k|le=>exact PyProof.Rows.le_int k|gt=>exact Tz k|ge=>exact PyProof.Rows.ge_int k
end
end Mine.Internal
end
section
open PySem PyProof.Rows PySem.SeqAt PySem.MeetsSeq PySem.SeqRoads2
open AutoSeq1 (wpAny_loadPart')
namespace Mine.Internal
section
variable{H:B_}{w:de}{A:dd}{E:cP}{s:aJ}
def jW(op:CmpOp)(A:dd)(s:aJ)(y x:aY)(b:e_):Prop:=
 ∀(H:B_) (w:de) (E:cP) (Q:cP),Q (.bool b) s->b_ (c_ H w) A (richCompare op y x) Q E s
inductive js(op:CmpOp)(A:dd)(s:aJ)(v:e_):dI->dI->e_->Prop
 |QV (ys:dI):js op A s v [] ys v
 |VY (Z:dI):js op A s v Z [] v
 |same {x y:aY} {Z ys:dI} {r:e_}:EqAt A s x y V->js op A s v Z ys r->js op A s v (x::Z) (y::ys) r
 |diff {x y:aY} {Z ys:dI} {r:e_}:EqAt A s x y N'->(op=.Eq->r=N')->(op=.NotEq->r=V)->(op≠.Eq->op≠.NotEq->jW op A s x y r)->js op A s v (x::Z) (y::ys) r
theorem sq{op:CmpOp}{T:Type}{ρ:e_->T}{body:aY × aY->af T × l?->Sem (ForInStep (af T × l?))}{iv:af T × l?->aJ->Prop}{v r:e_}{Z ys:dI}(N:∀ x y R',EqAt A s x y V->R' (.yield (R,())) s->b_ (c_ H w) A (body (x,y) (R,())) R' E s)(L:∀ x y R',EqAt A s x y N'->(op=.Eq->r=N')->(op=.NotEq->r=V)->(op≠.Eq->op≠.NotEq->jW op A s x y r)->R' (.done (f (ρ r),())) s->b_ (c_ H w) A (body (x,y) (R,())) R' E s)(hd:iv (f (ρ r),()) s) (hn:r=v->iv (R,()) s) (hw:js op A s v Z ys r):b_ (c_ H w) A (forIn (List.zip Z ys) (R,()) body) iv E s:=by
 induction hw with|QV ys=>exact J List.zip_nil_left (J HW (cB (hn X)))|VY Z=>exact J List.zip_nil_right (J HW (cB (hn X)))|same he O ih=>exact J uV (J (C5 _ _ _ _) (aT (N _ _ _ he (ih L hd hn))))|diff he a b c=>exact J uV (J (C5 _ _ _ _) (aT (L _ _ _ he a b c (cB hd))))
theorem yM{P:Fin->aJ->Prop}(hx:s.heap.IsTuple a Z)(hy:s.heap.IsTuple c ys)(hv:w_ .Lt Z.size ys.size=.bool v)(hw:js .Lt A s v Z.toList ys.toList r) (h:P (.done (.ret (.bool r))) s):b_ (c_ H w) A (Builtin.«tuple.__lt__» ⟨[.ref a,.ref c],[]⟩) P E s:=by
 have LU:s.TypeIs (.ref c) "tuple":=bZ hy λo ho U' O=>⟨o,ho,U'⟩;refine ib λGq zq=>?_;obtain⟨oa,VZ,_,na,AZ⟩:=hx;obtain⟨ob,Dv,_,nb,V0⟩:=hy;refine zq ?_;clear zq;show b_ _ _ (isInstance (.ref c) (.type "tuple") >>= _) _ _ s;exact aT (wF LU HX (aT (uU VZ AZ (aT (uU Dv V0 (aT (sq (ρ:=λb=>.done (.ret (.bool b))) (λx y R' he k=>aT (he H w _ _ (cB k))) (λx y R' he O O L k=>aT (he H w _ _ (aT (qH (aT (L (by decide) (by decide) H w _ _ (aT (cB (cB k))))))))) (cB h) (λe=>cB (by clear hw;subst e;rw[<-hv]at h;exact h)) hw)))))))
theorem yN{P:Fin->aJ->Prop}(hx:s.heap.IsTuple a Z)(hy:s.heap.IsTuple c ys)(hv:w_ .Gt Z.size ys.size=.bool v)(hw:js .Gt A s v Z.toList ys.toList r) (h:P (.done (.ret (.bool r))) s):b_ (c_ H w) A (Builtin.«tuple.__gt__» ⟨[.ref a,.ref c],[]⟩) P E s:=by
 have LU:s.TypeIs (.ref c) "tuple":=bZ hy λo ho U' O=>⟨o,ho,U'⟩;refine ib λGq zq=>?_;obtain⟨oa,VZ,_,na,AZ⟩:=hx;obtain⟨ob,Dv,_,nb,V0⟩:=hy;refine zq ?_;clear zq;show b_ _ _ (isInstance (.ref c) (.type "tuple") >>= _) _ _ s;exact aT (wF LU HX (aT (uU VZ AZ (aT (uU Dv V0 (aT (sq (ρ:=λb=>.done (.ret (.bool b))) (λx y R' he k=>aT (he H w _ _ (cB k))) (λx y R' he O O L k=>aT (he H w _ _ (aT (qH (aT (L (by decide) (by decide) H w _ _ (aT (cB (cB k))))))))) (cB h) (λe=>cB (by clear hw;subst e;rw[<-hv]at h;exact h)) hw)))))))
theorem wR{P:Fin->aJ->Prop}(hx:s.heap.IsTuple a Z)(hy:s.heap.IsTuple c ys)(hv:w_ .Eq Z.size ys.size=.bool v)(hw:js .Eq A s v Z.toList ys.toList r) (h:P (.done (.ret (.bool r))) s):b_ (c_ H w) A (Builtin.«tuple.__eq__» ⟨[.ref a,.ref c],[]⟩) P E s:=by
 have LU:s.TypeIs (.ref c) "tuple":=bZ hy λo ho U' O=>⟨o,ho,U'⟩;refine ib λGq zq=>?_;obtain⟨oa,VZ,_,na,AZ⟩:=hx;obtain⟨ob,Dv,_,nb,V0⟩:=hy;refine zq ?_;clear zq;show b_ _ _ (isInstance (.ref c) (.type "tuple") >>= _) _ _ s;exact aT (wF LU HX (aT (uU VZ AZ (aT (uU Dv V0 (aT (sq (ρ:=λb=>.done (.ret (.bool b))) (λx y R' he k=>aT (he H w _ _ (cB k))) (λx y R' he h0 N O k=>aT (he H w _ _ (by rw[h0 X]at k;exact cB k))) (cB h) (λe=>cB (by clear hw;subst e;rw[<-hv]at h;exact h)) hw)))))))
theorem yO{P:Fin->aJ->Prop}(hx:s.heap.IsTuple a Z)(hy:s.heap.IsTuple c ys)(hv:w_ .NotEq Z.size ys.size=.bool v)(hw:js .NotEq A s v Z.toList ys.toList r) (h:P (.done (.ret (.bool r))) s):b_ (c_ H w) A (Builtin.«tuple.__ne__» ⟨[.ref a,.ref c],[]⟩) P E s:=by
 have LU:s.TypeIs (.ref c) "tuple":=bZ hy λo ho U' O=>⟨o,ho,U'⟩;refine ib λGq zq=>?_;obtain⟨oa,VZ,_,na,AZ⟩:=hx;obtain⟨ob,Dv,_,nb,V0⟩:=hy;refine zq ?_;clear zq;show b_ _ _ (isInstance (.ref c) (.type "tuple") >>= _) _ _ s;exact aT (wF LU HX (aT (uU VZ AZ (aT (uU Dv V0 (aT (sq (ρ:=λb=>.done (.ret (.bool b))) (λx y R' he k=>aT (he H w _ _ (cB k))) (λx y R' he h0 N O k=>aT (he H w _ _ (by rw[N X]at k;exact cB k))) (cB h) (λe=>cB (by clear hw;subst e;rw[<-hv]at h;exact h)) hw)))))))
theorem jW.tuples(ho:op=.Eq\/op=.NotEq\/op=.Lt\/op=.Gt)(hx:s.heap.IsTuple a Z)(hy:s.heap.IsTuple c ys)(hv:w_ op Z.size ys.size=.bool v)(hu:A.units<oL) (hw:js op A.in1 s v Z.toList ys.toList r):jW op A s (.ref a) (.ref c) r:=λH w E Q h=>by
 have Ua:s.TypeIs (.ref a) "tuple":=bZ hx λo ho U' O=>⟨o,ho,U'⟩;have LU:s.TypeIs (.ref c) "tuple":=bZ hy λo ho U' O=>⟨o,ho,U'⟩;rcases ho with rfl|rfl|rfl|rfl
 .exact Ic (op:=.Eq) Ua LU UY (iH UY Ua F.entry_tuple_eq (wR hx hy hv hw ⟨_,X,(λe=>nomatch e),h⟩) (F.args_tuple_eq_2 _ _)) hu
 .exact Ic (op:=.NotEq) Ua LU F.slot_tuple_ne (iH F.slot_tuple_ne Ua F.entry_tuple_ne (yO hx hy hv hw ⟨_,X,(λe=>nomatch e),h⟩) (F.args_tuple_ne_2 _ _)) hu
 .exact Ic (op:=.Lt) Ua LU F.slot_tuple_lt (iH F.slot_tuple_lt Ua F.entry_tuple_lt (yM hx hy hv hw ⟨_,X,(λe=>nomatch e),h⟩) (F.args_tuple_lt_2 _ _)) hu
 .exact Ic (op:=.Gt) Ua LU F.slot_tuple_gt (iH F.slot_tuple_gt Ua F.entry_tuple_gt (yN hx hy hv hw ⟨_,X,(λe=>nomatch e),h⟩) (F.args_tuple_gt_2 _ _)) hu
theorem jW.lt_int(a c:G)(t u:Tok):jW .Lt A s (.int a t) (.int c u) (decide (a<c)):=λH w E Q h=>TA h
theorem jW.gt_int(a c:G)(t u:Tok):jW .Gt A s (.int a t) (.int c u) (decide (c<a)):=λH w E Q h=>Tz h
end
section
variable{w:de}{A:dd}{E:cP}{s:aJ}
theorem tK{h:cH}{a:bU}{x y:T_ aY}(hx:h.IsTuple a x)(hy:h.IsTuple a y):x=y:=by obtain⟨o,ho,_,n,hd⟩:=hx;obtain⟨o',qB,_,n',u6⟩:=hy;rw[ho]at qB;cases qB;rw[hd]at u6;cases u6;rfl
variable{J':cH}{D:cg}
theorem Dw{K':AV->AV->af e_}(hf:∀ x y c v,K' x y=f c->bB J' s.heap D x v->bB J' s.heap D y v->c=V) :
  ∀(Z ys:al) (c:e_) (M:dI),Fx K' Z ys=f c->aG J' s.heap D Z M->aG J' s.heap D ys M->c=V:=by
 intro w';induction w' with|nil=>(intro z1;cases z1 with|nil=>intro c O e O O;(dsimp only[Fx]at e;rw[dQ]at e);exact e.symm|cons y ys=>intro c M e rx ry;exact g_ (rx.length.symm.trans ry.length) (by simp))|cons x Z ih=>intro z1;cases z1 with|nil=>intro c M e rx ry;exact g_ (rx.length.symm.trans ry.length) (by simp)|cons y ys=>intro c M e rx ry;refine ib λGq zq=>?_;dsimp only[aG]at rx ry;obtain⟨v,r,eG,N,L⟩:=rx;subst eG;obtain⟨v',r',e',h3,h4⟩:=ry;cases e';revert e;refine eI (λp hp=>eI (λq hq e=>?_));simp only[dQ]at e;subst e;refine zq ?_;clear zq;(refine J (hf _ _ _ _ hp N h3) (J (ih ys q _ hq L h4) ?_));rfl
theorem QW(b:e_):(b==V)=b:=by cases b<;>rfl
theorem oW(e:fq d x y=f c):(∃ a b,x=.int a/\y=.int b/\decide (a=b)=c)\/∃ d' Z ys,d'<d/\x=.tup Z/\y=.tup ys/\Fx (fq d') Z ys=f c/\d=d'+1:=by cases d<;>cases x<;>first|exact nS e|(cases y<;>first|exact nS e|exact .inl ⟨_,_,X,X,aw e⟩|exact .inr ⟨_,_,_,ky _,X,X,e,X⟩)
theorem JP(e:kY gt d x y=f c):(∃ a b,x=.int a/\y=.int b/\(if gt then decide (b<a) else decide (a<b))=c)\/∃ d' Z ys,d'<d/\x=.tup Z/\y=.tup ys/\r9 (fq d') (kY gt d') (if gt then decide (ys.length<Z.length) else decide (Z.length<ys.length)) Z ys=f c/\d=d'+1:=by cases d<;>cases x<;>first|exact nS e|(cases y<;>first|exact nS e|exact .inl ⟨_,_,X,X,aw e⟩|exact .inr ⟨_,_,_,ky _,X,X,e,X⟩)
theorem JQ(d:a_):∀(x y:AV) (c:e_) (v:aY),fq d x y=f c->bB J' s.heap D x v->bB J' s.heap D y v->c=V:=by induction d using e? with|ind d ih=>
  intro x y c v e rx ry;rcases oW e with ⟨a,c',rfl,rfl,rfl⟩|⟨d',Z,ys,hd,rfl,rfl,e,_⟩
  .obtain⟨t,iC⟩:=rx.int_inv;clear rx;subst iC;obtain⟨t',e'⟩:=ry.int_inv;cases e';exact bP X
  .refine aW (rx.bD) λa M aL N L=>?_;clear rx;subst aL;refine aW (ry.bD) λa' eV e' h3 h4=>?_;cases e';have hv:M=eV:=by simpa using tK N h3
   clear h3;subst hv;exact Dw (ih d' hd) Z ys c M e L h4
theorem FN{K':AV->AV->af e_}(hf:∀ x y c u v,K' x y=f c->bB J' s.heap D x u->bB J' s.heap D y v->EqAt A s u v c)(b:e_)(IA:(op=.Eq/\b=V)\/(op=.NotEq/\b=N')) :
  ∀(Z ys:al) (c:e_) (us M:dI),Fx K' Z ys=f c->aG J' s.heap D Z us->aG J' s.heap D ys M->js op A s (decide (us.length=M.length)==b) us M (c==b):=by
 intro w'
 induction w' with
 |nil=>intro z1;cases z1 with|nil=>intro c us M e rx ry;dsimp only[aG]at rx ry;subst rx ry;dsimp only[Fx]at e;rw[dQ]at e;subst e;exact .QV _|cons y ys=>
   intro c us M e rx ry;dsimp only[aG]at rx;subst rx;have hl:=ry.length;dsimp only[Fx]at e;rw[dQ]at e;subst e
   have:decide (([]:dI).length=M.length)=N':=by refine J hl ?_;rfl
   exact J this (.QV _)
 |cons x Z IH=>
  intro z1
  cases z1 with
  |nil=>
   intro c us M e rx ry;dsimp only[aG]at ry;subst ry;have hl:=rx.length;dsimp only[Fx]at e;rw[dQ]at e;subst e
   have:decide (us.length=([]:dI).length)=N':=by refine J hl ?_;rfl
   exact J this (.VY _)
  |cons y ys=>intro c us M e rx ry;dsimp only[aG]at rx ry;obtain⟨u,r,j6,N,L⟩:=rx;subst j6;obtain⟨v,r',mr,h3,h4⟩:=ry;subst mr;revert e;refine eI (λp hp=>eI (λq hq e=>?_));simp only[dQ]at e;subst e;refine J (by simp:decide ((u::r).length=(v::r').length)=decide (r.length=r'.length)) ?_;have he:=hf _ _ _ _ _ hp N h3;have ih:=IH ys q r r' hq L h4;cases p with|true=>exact .same he ih|false=>
    refine .diff he (λh=>?_) (λh=>?_) (λN L=>?_)
    .rcases IA with ⟨_,rfl⟩|⟨q,_⟩
     .rfl
     .rw[h]at q;cases q
    .rcases IA with ⟨q,_⟩|⟨_,rfl⟩
     .rw[h]at q;cases q
     .rfl
    .rcases IA with ⟨q,_⟩|⟨q,_⟩
     .exact g_ q N
     .exact g_ q L
theorem sr(d:a_):∀{A:dd} (x y:AV) (c:e_) (u v:aY),fq d x y=f c->bB J' s.heap D x u->bB J' s.heap D y v->A.units+d<oL->EqAt A s u v c:=by induction d using e? with|ind d ih=>
  intro A x y c u v e rx ry hu;rcases oW e with ⟨a,c',rfl,rfl,rfl⟩|⟨d',Z,ys,hd,rfl,rfl,e,rfl⟩
  .obtain⟨t,rfl⟩:=rx.int_inv;refine cC (ry.int_inv) λt' aL=>?_;clear ry;subst aL;exact(EqGives.int _ _ _ _).at _ _
  .refine aW (rx.bD) λa us aL N L=>?_;clear rx;subst aL;refine aW (ry.bD) λc' M aL h3 h4=>?_;subst aL;by_cases hac:a=c'
   .clear ry;subst hac;have hv:us=M:=by simpa using tK N h3
    clear h3;subst hv;exact J (Dw (JQ d') Z ys c us e L h4) (EqAt.same _)
   .refine EqAt.of_refs hac ?_;have hw:=FN (A:=A.in1) (op:=.Eq) (λx y c u v e r q=>ih d' hd x y c u v e r q (by show A.units+1+d'<oL;lia)) V (.inl ⟨X,X⟩) Z ys c us M e L h4;rw[QW,QW]at hw;exact jW.tuples (A:=A) (op:=.Eq) (.inl X) N h3 (v:=decide (us.length=M.length)) X (by lia) (r:=c) hw
theorem QX{K' g:AV->AV->af e_}(hf:∀ x y c u v,K' x y=f c->bB J' s.heap D x u->bB J' s.heap D y v->EqAt A s u v c)(IA:op=.Lt\/op=.Gt)(hg:∀ x y c u v,g x y=f c->bB J' s.heap D x u->bB J' s.heap D y v->jW op A s u v c) (b:e_) :
  ∀(Z ys:al) (c:e_) (us M:dI),r9 K' g b Z ys=f c->aG J' s.heap D Z us->aG J' s.heap D ys M->js op A s b us M c:=by
 intro w';induction w' with|nil=>intro ys c us M e rx ry;dsimp only[aG]at rx;subst rx;dsimp only[r9]at e;rw[dQ]at e;subst e;exact .QV _|cons x Z ih=>intro z1;cases z1 with|nil=>intro c us M e rx ry;dsimp only[aG]at ry;subst ry;dsimp only[r9]at e;rw[dQ]at e;subst e;exact .VY _|cons y ys=>
   intro c us M e rx ry;dsimp only[aG]at rx ry;obtain⟨u,r,qA,N,L⟩:=rx;subst qA;obtain⟨v,r',vF,h3,h4⟩:=ry;subst vF;revert e;refine Iq (λhp e=>?_) (λhp e=>?_)
   .exact .same (hf _ _ _ _ _ hp N h3) (ih ys c r r' e L h4)
   .refine .diff (hf _ _ _ _ _ hp N h3) (λh=>?_) (λh=>?_) (λO O=>hg _ _ _ _ _ e N h3)
    .rcases IA with q|q<;>(rw[h]at q;cases q)
    .rcases IA with q|q<;>(rw[h]at q;cases q)
theorem FO(gt:e_)(IA:op=if gt then .Gt else .Lt)(d:a_):∀{A:dd} (x y:AV) (c:e_) (u v:aY),kY gt d x y=f c->bB J' s.heap D x u->bB J' s.heap D y v->A.units+d<oL->jW op A s u v c:=by induction d using e? with|ind d ih=>
  intro A x y c u v e rx ry hu;rcases JP e with ⟨a,c',rfl,rfl,rfl⟩|⟨d',Z,ys,hd,rfl,rfl,e,rfl⟩
  .refine cC (rx.int_inv) λt aL=>?_;clear rx;subst aL;refine cC (ry.int_inv) λt' aL=>?_;clear ry;subst aL;subst IA;cases gt with|true=>exact jW.gt_int _ _ _ _|false=>exact jW.lt_int _ _ _ _
  .refine aW (rx.bD) λa us aL N L=>?_;clear rx;subst aL;refine aW (ry.bD) λc' M aL h3 h4=>?_;clear ry;subst aL;have V2:op=.Lt\/op=.Gt:=by clear ih e;cases gt;exact .inl IA;exact .inr IA
   have hw:=QX (A:=A.in1) (op:=op) (λx y c u v e r q=>sr d' x y c u v e r q (by show A.units+1+d'<oL;lia)) V2
    (λx y c u v e r q=>ih d' hd x y c u v e r q (by show A.units+1+d'<oL;lia)) _ Z ys c us M e L h4
   refine jW.tuples (A:=A) (op:=op) (.inr (.inr V2)) N h3 ?_ (by lia) hw;refine dT L.length (dT h4.length ?_);subst IA;(clear e ih V2 hw;cases gt)<;>rfl
theorem FP(hi:i<3)(hj:j<3):(strTab i==strTab j)=decide (i=j):=(by decide +kernel:∀ i:Fin 3,∀ j:Fin 3,(strTab i==strTab j)=decide (i.1=j.1)) ⟨i,hi⟩ ⟨j,hj⟩
theorem PlainList.isList{h:cH}{a:bU}{B':T_ aY}(x:h.PlainList a B'):h.IsList a B':=cC x λn hn=>⟨_,hn,X,n,X⟩
variable{b:aJ}{Y:St}
theorem wU{op:CmpOp}{us M:dI}{a c:bU}(IA:op=.Eq\/op=.NotEq)(hx:s.heap.PlainList a us.toArray)(hy:s.heap.PlainList c M.toArray)(hu:A.units<oL)(he:us.isEmpty||M.isEmpty){Q:cP}(k:Q (.bool (if op=.Eq then us.isEmpty&&M.isEmpty else !(us.isEmpty&&M.isEmpty))) s):b_ (c_ H w) A (G? op (.ref a) (.ref c)) Q E s:=by
 obtain⟨n1,L⟩:=hx;obtain⟨n2,h5⟩:=hy;by_cases hl:us.length=M.length
 .have e1:us=[]:=by cases us with|nil=>rfl|cons x Z=>cases M with|nil=>simp at hl|cons y ys=>exact fT he
  subst e1;have e2:M=[]:=by cases M with|nil=>rfl|cons y ys=>cases hl
  clear he hl;subst e2;rcases IA with yI|rfl
  .subst yI
   exact H6 (op:=.Eq) ⟨_,L,X⟩ ⟨_,h5,X⟩ F.slot_list_eq F.entry_list_eq (F.args_list_eq_2 _ _) (list_eqAt a c _ _ n1 n2 R R #[] #[] X λO=>V)
    ⟨L,h5,λj N O=>g_ N (by simp),⟨(λx=>nomatch x),by simpa using k⟩⟩ hu
  .exact H6 (op:=.NotEq) ⟨_,L,X⟩ ⟨_,h5,X⟩ F.slot_list_ne F.entry_list_ne (F.args_list_ne_2 _ _) (PySem.SeqAt.list_neAt a c _ _ n1 n2 R R #[] #[] X λO=>V)
    ⟨L,h5,λj N O=>g_ N (by simp),⟨(λx=>nomatch x),by simpa using k⟩⟩ hu
 .have hs:(us.toArray.size != M.toArray.size)=V:=by simpa using hl
  have QY:(us.isEmpty&&M.isEmpty)=N':=by cases us with|nil=>(cases M with|nil=>exact g_ X hl|cons=>rfl)|cons=>rfl
  rcases IA with Dp|rfl
  .subst Dp
   exact H6 (op:=.Eq) ⟨_,L,X⟩ ⟨_,h5,X⟩ F.slot_list_eq F.entry_list_eq (F.args_list_eq_2 _ _) (list_eq_lengthsAt a c _ _ n1 n2 R R #[] #[] hs)
    ⟨L,h5,⟨(λx=>nomatch x),by rw[QY]at k;exact k⟩⟩ hu
  .exact H6 (op:=.NotEq) ⟨_,L,X⟩ ⟨_,h5,X⟩ F.slot_list_ne F.entry_list_ne (F.args_list_ne_2 _ _) (PySem.SeqAt.list_ne_lengthsAt a c _ _ n1 n2 R R #[] #[] hs)
    ⟨L,h5,⟨(λx=>nomatch x),by rw[QY]at k;exact k⟩⟩ hu
theorem jt(r:aG J' s.heap D Z M):M.isEmpty=Z.isEmpty:=by cases Z with|nil=>dsimp only[aG]at r;subst r;rfl|cons x Z=>dsimp only[aG]at r;obtain⟨v,r',rfl,_⟩:=r;rfl
theorem V4{o:A6}{x y:AV}{c:e_}{u v:aY}{Q:cP}(hA:FL A)(I:Inv H w b s D Y)(rx:bB b.heap s.heap D x u)(ry:bB b.heap s.heap D y v)(e:fy Y o x y=f c)(k:Q (.bool c) s) :
  b_ (c_ H w) A (G? (Na o) u v) Q E s:=by
 have hu:=hA.un;dsimp only[fy]at e;revert e;refine ZC (λO O br bK e=>?_) (λZ ys br bK e=>?_) (λO O br bK e=>?_) (λO O br bK e=>?_);subst br;subst bK;rotate_left;subst br;subst bK;rotate_left;subst br;subst bK;rotate_left;subst br;subst bK;rotate_left
 .obtain⟨t,wM⟩:=rx.int_inv;clear rx;subst wM;obtain⟨t',Bc⟩:=ry.int_inv;clear ry;subst Bc;simp only[dQ]at e;subst e;exact QU k
 .have Ub:=rx;have ry':=ry;refine aW (rx.bD) λa us aL N L=>?_;clear rx;subst aL;refine aW (ry.bD) λc' M aL h3 h4=>?_;clear ry;subst aL;revert e;refine ZD (λbr e=>?_) (λbr e=>?_) (λbr e=>?_) (λbr e=>?_);subst br;rotate_left;subst br;rotate_left;subst br;rotate_left;subst br;rotate_left
  .dsimp only[fq]at e;have hw:=FN (A:=A.in1) (op:=.Eq) (λx y c u v e r q=>sr 2 x y c u v e r q (by show A.units+1+2<oL;lia)) V (.inl ⟨X,X⟩) Z ys c us M e L h4;exact jW.tuples (A:=A) (op:=.Eq) (.inl X) N h3 (v:=decide (us.length=M.length)) (by rfl) (by lia) (r:=c) (by simpa using hw) H w E Q k
  .dsimp only[fq]at e;revert e;refine eI (λp hp e=>?_);simp only[dQ]at e;subst e;have hw:=FN (A:=A.in1) (op:=.NotEq) (λx y c u v e r q=>sr 2 x y c u v e r q (by show A.units+1+2<oL;omega)) N' (.inr ⟨X,X⟩) Z ys p us M hp L h4;exact jW.tuples (A:=A) (op:=.NotEq) (.inr (.inl X)) N h3 (v:=!decide (us.length=M.length)) (by rfl) (by omega) (r:=!p) (by simpa using hw) H w E Q k
  .exact FO N' X 3 _ _ c _ _ e Ub ry' (by lia) H w E Q k
  .exact FO V X 3 _ _ c _ _ e Ub ry' (by omega) H w E Q k
 .obtain⟨N,t,M9⟩:=rx.str_inv;clear rx;subst M9;obtain⟨L,t',V5⟩:=ry.str_inv;clear ry;subst V5;revert e;refine ZG (λbr e=>?_);subst br;simp only[dQ]at e;subst e;exact PyProof.Rows.eq_str (by exact J (FP N L) k)
 .revert e;refine lT (λZ ex=>lT (λys ey=>cA (λhe e=>?_)));refine bA (I.cW ex rx) λa us aL N L h3=>?_;clear rx;subst aL;refine bA (I.cW ey ry) λc' M aL h4 h5 h6=>?_;clear ry;subst aL;have QY:us.isEmpty||M.isEmpty:=by(refine J (jt h3) (J (jt h6) ?_));exact he
  revert e;refine ZF (λbr e=>?_) (λbr e=>?_);subst br;rotate_left;subst br;rotate_left
  .simp only[dQ]at e;subst e;exact wU (op:=.Eq) (.inl X) L h5 (by omega) QY (by(refine J (jt h3) (J (jt h6) ?_));exact k)
  .simp only[dQ]at e;subst e;exact wU (op:=.NotEq) (.inr X) L h5 (by omega) QY (by(refine J (jt h3) (J (jt h6) ?_));exact k)
theorem JR{Q:cP}(rx:bB J' s.heap D x v)(k:Q (.bool (x.isNone==y)) s) :
  b_ (c_ H w) A (G? (if y then .Is else .IsNot) v .none) Q E s:=by
 have hv:(v==F_)=x.isNone:=by clear k;cases x with|none=>exact J rx.none_inv X|bool=>exact J rx.bool_inv X|int=>(obtain⟨t,rfl⟩:=rx.int_inv;rfl)|str=>(obtain⟨_,t,rfl⟩:=rx.str_inv;rfl)|tup=>(refine eF (rx.bD) λO O aL O=>?_;clear rx;subst aL);rfl|fx=>(refine eF (rx.zU) λO O aL O=>?_;clear rx;subst aL);rfl|ref=>(refine ah (rx.Iz) λO aL O=>?_;clear rx;subst aL);rfl|ub=>dsimp only[bB]at rx
 cases y with|true=>refine is_none (J hv ?_);simpa using k|false=>refine isNot_none (J hv ?_);simpa using k
theorem QZ{K':AV->AV->af e_}(hf:∀ x y z c c' v,K' x z=f c->K' y z=f c'->bB J' s.heap D x v->bB J' s.heap D y v->c=c') :
  ∀(Z ys zs:al) (c c':e_) (M:dI),Fx K' Z zs=f c->Fx K' ys zs=f c'->aG J' s.heap D Z M->aG J' s.heap D ys M->c=c':=by
 intro w';induction w' with|nil=>(intro z1;cases z1 with|nil=>(intro zs c c' O e e' O O;rw[e]at e';cases e';rfl)|cons y ys=>intro zs c c' M e O rx ry;exact g_ (rx.length.symm.trans ry.length) (by simp))|cons x Z ih=>intro z1;cases z1 with|nil=>intro zs c c' M e O rx ry;exact g_ (rx.length.symm.trans ry.length) (by simp)|cons y ys=>intro z2;cases z2 with|nil=>intro c c' M e e' rx ry;dsimp only[Fx]at e e';rw[dQ]at e e';exact dT e (dT e' X)|cons z zs=>intro c c' M e e' rx ry;refine ib λGq zq=>?_;dsimp only[aG]at rx ry;obtain⟨v,r,V6,N,L⟩:=rx;subst V6;obtain⟨v',r',e'',h3,h4⟩:=ry;cases e'';dsimp only[Fx]at e e';revert e;refine eI (λp hp=>eI (λq hq e=>?_));revert e';refine eI (λp' hp'=>eI (λq' hq' e'=>?_));simp only[dQ]at e e';refine zq ?_;clear zq;simp only[<-e,<-e',hf _ _ _ _ _ _ hp hp' N h3,ih ys zs q q' r hq hq' L h4]
theorem Nb(d:a_):∀(x y z:AV) (c c':e_) (v:aY),fq d x z=f c->fq d y z=f c'->bB J' s.heap D x v->bB J' s.heap D y v->c=c':=by induction d using e? with|ind d ih=>
  intro x y z c c' v e e' rx ry;rcases oW e with ⟨a,a1,rfl,rfl,rfl⟩|⟨d',Z,zs,hd,rfl,rfl,e,E⟩
  .rcases oW e' with ⟨b,b1,rfl,hb,rfl⟩|⟨_,_,_,_,_,hz,_⟩
   .cases hb;obtain⟨t,rfl⟩:=rx.int_inv;refine cC (ry.int_inv) λt' h=>?_;clear e' ry;cases h;rfl
   .cases hz
  .rcases oW e' with ⟨_,_,_,hb,_⟩|⟨d'',ys,zs',_,rfl,hz,e',E'⟩
   .cases hb
   .cases hz;cases E;cases E';refine aW (rx.bD) λa M aL N L=>?_;clear rx;subst aL;refine aW (ry.bD) λa' eV e1 h3 h4=>?_;cases e1;have hv:M=eV:=by simpa using tK N h3
    clear h3;subst hv;exact QZ (ih d' hd) _ _ _ c c' M e e' L h4
theorem Dx(hu:A.units+3<oL)(rx:bB J' s.heap D x v)(ys:al)(c:e_)(us:dI)(h:jk x ys=f c)(r:aG J' s.heap D ys us) :
  ∃ e:aY->e_,(∀ y∈us,EqAt A s y v (e y))/\us.any e=c:=by
 classical
 have key:∀ y u p,fq 3 y x=f p->bB J' s.heap D y u->decide (∃ y',bB J' s.heap D y' u/\fq 3 y' x=f V)=p:=λy u p hp hr=>by cases p with|true=>exact bP ⟨y,hr,hp⟩|false=>refine bT ?_;rintro⟨y',N,L⟩;exact g_ (Nb 3 y' y x V N' u L hp N hr) (by decide)
 refine⟨λu=>decide (∃ y',bB J' s.heap D y' u/\fq 3 y' x=f V),?_⟩;induction ys generalizing c us with|nil=>dsimp only[aG]at r;subst r;dsimp only[jk]at h;rw[dQ]at h;subst h;exact⟨(λO m=>nomatch m),X⟩|cons y ys ih=>
  dsimp only[aG]at r;obtain⟨u,r',V7,N,L⟩:=r;subst V7;revert h;refine eI (λp hp=>eI (λq hq h=>?_));simp only[dQ]at h;subst h;refine cF (ih q r' hq L) λhe B=>?_;refine⟨λz hz=>?_,?_⟩
  .rcases aV.mp hz with adH|hz
   .clear hz;subst adH;show EqAt A s z v (decide _);exact J (key y z p hp N) (sr 3 _ _ _ _ _ hp N rx hu)
   .exact he z hz
  .simp only[uN,B,key y u p hp N]
end
end Mine.Internal
end
section
open PySem PyProof.Rows
namespace Mine.Internal
section
variable{w:de}{b s:aJ}{D F':cg}{Y T':St}{A:dd}{E:cP}
noncomputable def isSlice (e:av):e_:=f_ e.ctorIdx 26
theorem iR(h:isSlice slice=N')(o i:aY):subscripted slice N' o i=operate [o,i] (getItem o i):=by cases slice<;>first|rfl|exact tF h
theorem ie:∀{k:al} {ks:aA},keyOf k=f ks->k=ks.map .int|[],ks,h=>by(dsimp only[keyOf]at h;rw[dQ]at h);subst h;rfl|.int i::r,ks,h=>by revert h;refine fz (λk hk h=>?_);simp only[dQ]at h;subst h;exact J (ie hk) X|.ub::_,_,h|.none::_,_,h|.bool _::_,_,h|.str _::_,_,h|.tup _::_,_,h|.fx _::_,_,h|.ref _::_,_,h=>by dsimp only[keyOf]at h;exact nS h
theorem yP:∀{ks:aA} {J' h:cH} {M:dI},aG J' h D (ks.map AV.int) M->ItemsAre (o? H w) ks M:=by intro w';induction w' with|nil=>intro O O O r;dsimp only[D_,aG]at r;subst r;exact .nil|cons k ks ih=>intro O O O r;dsimp only[D_,aG]at r;obtain⟨v,r',rfl,N,L⟩:=r;obtain⟨t,rfl⟩:=N.int_inv;exact .cons (by simp[o?,Value.isInt]) (ih L)
set_option tactic.hygienic true in
theorem yQ:∀{ks:aA} {J' h:cH} {M:dI},ItemsAre (o? H w) ks M->aG J' h D (ks.map AV.int) M:=by intro w';induction w' with|nil=>(intro O O O r;cases r;exact aG.nil)|cons k ks ih=>intro O O O r;cases r with|cons N L=>
   rename_i v M
   refine aG.cons ?_ (ih L)
   cases v with
   |int j t=>
    have:k=j:=by simp[o?,Value.isInt]at N;lia
    clear N;subst this;exact bB.int _ _
   |_=>exact fT N
theorem g8(r:bB J' h D (.tup (ks.map .int)) v):∃ a,v=.ref a/\R? (o? H w) h ks a:=by obtain⟨a,M,j6,⟨o,N,L,n,h3⟩,h4⟩:=r.bD;clear r;subst j6;exact⟨a,X,o,_,n,N,L,h3,by simpa using yP h4⟩
theorem FQ(x:R? (o? H w) h ks a):bB J' h D (iJ ks) (.ref a):=by obtain⟨o,B',n,N,L,h3,h4⟩:=x;exact bB.tup (M:=B'.toList) ⟨o,N,L,n,by simpa using h3⟩ (yQ h4)
theorem v5:∀{bJ:dc} {J' h:cH} {Z:d_ (aA × bU × aY)},cO J' h D bJ Z->∀(k:aA),(jS bJ k=R/\f? Z k=R)\/∃ x p,jS bJ k=f x/\f? Z k=f p/\bB J' h D x p.2:=by
 intro w';induction w' with|nil=>intro O O O r k;dsimp only[cO]at r;subst r;exact .inl ⟨X,X⟩|cons q bJ ih=>
  intro O O O r k;dsimp only[cO]at r;obtain⟨a,v,Qh,rfl,N,L⟩:=r;by_cases e:q.1=k
  .exact .inr ⟨q.2,(a,v),by simp[jS,e],by simp[f?,e],N⟩
  .rcases ih L k with ⟨h3,h4⟩|⟨x,p,h3,h4,h5⟩
   .exact .inl ⟨by simp[jS,e,h3],by simpa [f?,e]using h4⟩
   .exact .inr ⟨x,p,by simp[jS,e,h3],by simpa [f?,e]using h4,h5⟩
theorem cO.length:∀{bJ:dc} {J' h:cH} {Z:d_ (aA × bU × aY)},cO J' h D bJ Z->Z.length=bJ.length:=by intro w';cases w' with|nil=>intro O O O r;dsimp only[cO]at r;subst r;rfl|cons q bJ=>intro O O O r;dsimp only[cO]at r;obtain⟨a,v,Qh,rfl,N,L⟩:=r;simp[L.length]
theorem IB(hA:FL A):(tk H w).room A:=by
 have:=hA.un
 show A.units<oL;lia
theorem mT(hA:FL A):(tk H w).room A.in1:=by
 have:=hA.un
 show A.units+1<oL;lia
theorem wV{Q:cP}(hl:s.heap.IsList l M.toArray)(r:aG J' s.heap D Z M)(hz:Z.length<=lim)(e:MF Z i=f z)(k:∀ v,bB J' s.heap D z v->Q v s):b_ (c_ H w) A (getItem (.ref l) (.int i t)) Q E s:=by
 have hlen:=r.length;dsimp only[lim]at hz;cases i with|ofNat n=>dsimp only[MF]at e;refine ah (r.get e) λv N L=>?_;have hn:n<M.length:=(mq.mp N).1;exact wpAny_getItem_list hl (Qz n) (by show(n:G)<2^63;lia) (by simpa using N) (k v L)|negSucc n=>
  revert e;refine aZ (λhn e=>?_) nS;refine ah (r.get e) λv N L=>wpAny_getItem_list_neg hl (YY n) ?_ ?_ ?_ (k v L)
  .refine J dZ (J hlen (J (AW _) ?_));lia
  .simp only[AW];lia
  .refine J dZ (J hlen ?_)
   have:(D? n+(Z.length:G)).toNat=Z.length-1-n:=by simp only[AW];exact cb Int.toNat (MA hn)
   refine J this ?_;simpa using N
theorem Bg(h:n<k):seqIndex? (y_ n) k=f n:=by
 unfold seqIndex?;have N:¬ (y_ n<0):=by show ¬ ((n:G)<0);simp
 have L:(decide (0<=y_ n)&&decide (y_ n<(k:G)))=V:=by show(decide (0<=(n:G))&&decide ((n:G)<(k:G)))=V;simp;omega
 simp only[ak N,L,gv];rfl
theorem seqIndex_neg(h:n<k):seqIndex? (D? n) k=f (k-1-n):=by
 unfold seqIndex?;have N:D? n<0:=YY n;have h3:D? n+(k:G)=((k-1-n:a_):G):=by simp only[AW];exact MA h
 simp only[ai N,h3];have L:(decide (0<=((k-1-n:a_):G))&&decide (((k-1-n:a_):G)<(k:G)))=V:=by simp;omega
 simp only[L,gv];rfl
theorem Dy{Q:cP}(hl:s.heap.IsTuple l M.toArray)(r:aG J' s.heap D Z M)(hz:Z.length<=lim)(e:MF Z i=f z)(k:∀ v,bB J' s.heap D z v->Q v s):b_ (c_ H w) A (getItem (.ref l) (.int i t)) Q E s:=by
 have hlen:=r.length;dsimp only[lim]at hz;cases i with|ofNat n=>dsimp only[MF]at e;refine ah (r.get e) λv N L=>?_;have hn:n<M.length:=(mq.mp N).1;refine getItem_tuple hl (j:=n) (by show -(2^63)<=(n:G);simp) (by show(n:G)<2^63;lia) ?_ (by simpa using N) (k v L);exact J dZ (Bg hn)|negSucc n=>
  revert e;refine aZ (λhn e=>?_) nS;refine ah (r.get e) λv N L=>getItem_tuple hl (j:=Z.length-1-n) ?_ ?_ ?_ (by simpa using N) (k v L)
  .simp only[AW];lia
  .simp only[AW];lia
  .refine J dZ (J hlen ?_);exact seqIndex_neg hn
theorem V8{Q:cP}(hA:FL A)(I:Inv H w b s D Y)(rx:bB b.heap s.heap D x u)(ry:bB b.heap s.heap D y v)(e:ic Y x y=f z)(hs:isSlice slice=N')(k:fK H w b s D Y Y z Q):b_ (c_ H w) A (subscriptTail value slice u v) Q E s:=by
 delta ic at e;revert e;refine ZL (λZ i br bK e=>?_) (λn i br bK e=>?_) (λn kk br bK e=>?_);subst br;subst bK;rotate_left;subst br;subst bK;rotate_left;subst br;subst bK;rotate_left
 .revert e;refine aZ (λhz e=>?_) nS;refine aW (rx.bD) λa M aL N L=>?_;clear rx;subst aL;obtain⟨t,qA⟩:=ry.int_inv;clear ry;subst qA;exact wD (T:="tuple") (bZ N λo ho U' O=>⟨o,ho,U'⟩) H8.lookup (Dy N L hz e λv r=>k.here I r) (iR hs _ _)
 .revert e;refine lT (λZ ex=>aZ (λhz e=>?_) nS);refine bA (I.cW ex rx) λa M aL h0 N L=>?_;clear rx;subst aL;obtain⟨t,vF⟩:=ry.int_inv;clear ry;subst vF;exact wD (T:="list") N.isList.typeIs H7.lookup (wV N.isList L hz e λv r=>k.here I r) (iR hs _ _)
 .revert e;refine Io (λbJ ex=>fz (λks hk e=>?_));obtain rfl:=ie hk;refine bA (I.kI ex rx) λa Z aL h0 N L=>?_;clear rx;subst aL;refine ah (g8 (w:=w) ry) λc bK h3=>?_;clear ry;subst bK;rcases v5 L ks with ⟨q,_⟩|⟨x,p,h4,h5,h6⟩
  .rw[q]at e;exact nS e
  .rw[h4]at e;obtain rfl:=aw e;refine wD (T:="dict") N.typeIs F.slot_dict_getitem.lookup (wpAny_getItem_heap (mT hA) h3 N h5 ?_) (iR hs _ _);exact k.tok I h6
theorem zW{pos:Pos}{Q:cP}(h:b_ (c_ H w) A (B? (evalOpt l u')) (λlv cy=>b_ (c_ H w) A (B? (evalOpt u u')) (λuv oX=>
   Q (.ref oX.heap.objs.size) {oX with heap:=oX.heap.push {cls:=.type "slice",data:=.fields #[lv,uv,.none]}}) E cy) E s):b_ (c_ H w) A (J_ (.Slice l u R pos) u') Q E s:=by
 show b_ _ _ (do
  let l <-B? (evalOpt l u')
  let u <-v? [l] (B? (evalOpt u u'))
  let s <-v? [l,u] (B? (evalOpt R u'))
  newFields "slice" [l,u,s]) _ _ _
 refine aT (oy h (λlv cy su=>?_) λO O x=>x);refine aT (ox (oy su (λuv oX V9=>?_) λO O x=>x));exact aT (ox (cB (kX V9 (by show(3:a_)<=g?+2;decide +kernel))))
theorem JS(k n:a_)(h:k<=n):n? R (f (k:G)) 1 (n:G)=(0,(k:G)):=by
 unfold n?;have N:¬ ((1:G)<0):=by decide
 have L:¬ ((k:G)<0):=by simp
 simp only[N,L,kW];congr 1;grind
theorem vG{C:bU}{k n:a_}{u:Tok}{Q:G × G × a_->aJ->Prop}(hs:s.heap.IsSliceOf C .none (.int k u) .none)(B:k<=n)(h:Q (0,1,k) s) :
  b_ (c_ H w) A (Builtin.Slice.sliceApplied (.ref C) (pure (n:G))) Q E s:=by
 refine bZ (id hs) λos Z2 hcs Wa=>?_;delta Builtin.Slice.sliceApplied Builtin.Slice.sliceFields;refine aT (aT (qG Z2 Wa (x:=.none) X (aT (qG Z2 Wa (x:=.int k u) X (aT (qG Z2 Wa (x:=.none) X (cB (aT (slicePart_none ?_)))))))));refine J (ak (by decide)) (aT (slicePart_none (aT (slicePart_int (aT (cB ?_))))));show b_ _ _ (match n? R (f (k:G)) 1 (n:G) with|(lo,hi)=>pure (lo,(1:G),m? lo hi 1)) _ _ s;refine J (JS k n B) ?_;show b_ _ _ (pure ((0:G),(1:G),m? (0:G) (k:G) 1)) _ _ s
 have:m? (0:G) (k:G) 1=k:=by
  have:=places_from 0 k (ji k)
  simpa using this
 exact J this (cB h)
theorem Q0(Z:T_ aY)(k:a_)(h:k<=Z.size):((A_ k).filterMap λ(j:a_)=>Z[((0:G)+(j:G)*1).toNat]?).toArray=(Z.toList.take k).toArray:=by
 have e:(λ(j:a_)=>Z[((0:G)+(j:G)*1).toNat]?)=λj=>Z[0+j]?:=by
  funext j
  have:((0:G)+(j:G)*1).toNat=0+j:=by simp
  exact J this X
 refine J e ?_
 have:=pick_run Z 0 k
 rw[List.filterMap_map]at this;have e2:((λx=>Z[x]?) ∘ λx=>0+x)=λj=>Z[0+j]?:=X;rw[e2]at this;exact J this (J List.drop_zero X)
theorem tL{t C:bU}{k:a_}{u:Tok}{Q:cP}(ht:s.heap.IsTuple t B')(hs:s.heap.IsSliceOf C .none (.int k u) .none)(B:k<B'.size)(h:Q (.ref s.heap.objs.size) {s with heap:=s.heap.push {cls:=.type "tuple",data:=.seq (B'.toList.take k).toArray}})(Q4:B'.size<=g?):b_ (c_ H w) A (getItem (.ref t) (.ref C)) Q E s:=by
 have cq:sizeOk (.seq (B'.toList.take k).toArray):=by show(B'.toList.take k).toArray.size<=g?;refine J dZ (J U7 (J tT2 ?_));grind
 have hTt:s.TypeIs (.ref t) "tuple":=bZ ht λo ho U' O=>⟨o,ho,U'⟩;refine bZ (id hs) λos Z2 hcs Wa=>?_;unfold getItem
 try with_reducible refine ox ?_
 refine aT (wpAny_sequenceKey hTt (by decide) ?_)
 refine aT (uT (name:=Q_ "__getitem__") hTt H8
  (iH H8 hTt entry_tuple_getitem ?_ (args_tuple_getitem _ _)))
 show b_ _ _ (Builtin.Tuple.tupleItemsOf (.ref t) >>= _) _ _ s;refine aT (tupleItemsOf_ ht (aT (Ih (⟨os,Z2,hcs⟩:s.TypeIs (.ref C) "slice") (J (ai (by decide)) (aT (vG hs (kF B) ?_))))))
 have LV:¬ (((0:G)==0&&(1:G)==1&&k==B'.size)=V):=by
  have:(k==B'.size)=N':=by refine J (propext HS) ?_;lia
  refine J this ?_;trivial
 show b_ _ _ (if ((0:G)==0&&(1:G)==1&&k==B'.size)=V then _ else _) _ _ s;refine J (ak LV) (J (Q0 B' k (kF B)) ?_)
 first
  |exact aT (m:=S_ _) (kX (cB ⟨_,X,cB h⟩) cq)
  |exact aT (m:=S_ _) (kX (aT (cB (cB ⟨_,X,cB h⟩))) cq)
  |exact aT (aT (m:=S_ _) (kX (cB (cB ⟨_,X,cB h⟩)) cq))
  |exact aT (aT (m:=S_ _) (kX (cB ⟨_,X,cB h⟩) cq))
theorem wW(I:Inv H w b s D Y)(M:T_ aY):Inv H w b {s with heap:=s.heap.push {cls:=.type "slice",data:=.fields M}} D Y/\dD [] s {s with heap:=s.heap.push {cls:=.type "slice",data:=.fields M}} D D Y Y:=
 I.more (t:=s.toks) (λa o e=>kE _ e) (fL _ I.low)
theorem fK.after{Q:cP}(k:fK H w b s D Y T' z Q)(S:dD [] s cy D Nc Y ae):fK H w b cy Nc ae T' z Q:=
 λv s' ca I' S' r=>k v s' ca I' (S.trans S') r
theorem zX:∀{M:dI} {Z:aA} {J' h:cH},IntsAre M Z->aG J' h D (Z.map .int) M:=by intro w';induction w' with|nil=>(intro O O O r;cases r;exact aG.nil)|cons v M ih=>intro O O O r;cases r with|cons O O' q=>exact aG.cons (bB.int _ _) (ih q)
theorem eL:lim<=g?:=by refine J wB ?_;decide
theorem Q6{Q:cP}(hA:FL A)(I:Inv H w b s D Y)(rx:bB b.heap s.heap D x u)(ry:bB b.heap s.heap D y v)(e:tI Y x y=f (T',z))(k:fK H w b s D Y T' z Q):b_ (c_ H w) A (subscriptTail value (.Slice R (f up) R pos) u (.ref s.heap.objs.size)) Q E {s with heap:=s.heap.push {cls:=.type "slice",data:=.fields #[.none,v,.none]}}:=by
 have vs:=wW I #[.none,v,.none];have k':=k.after vs.2;have Uc:(s.heap.push {cls:=.type "slice",data:=.fields #[.none,v,.none]}).IsSliceOf s.heap.objs.size .none v .none:=Heap.IsSliceOf.new _ _ _ _;have Ub:=I.rep vs.2 aX.nil rx;have I':=vs.1;dsimp only[tI]at e;revert e;refine ZK (λZ n br bK e=>?_) (λZ n br bK e=>?_) (λi n br bK e=>?_);subst br;subst bK;rotate_left;subst br;subst bK;rotate_left;subst br;subst bK;rotate_left
 .revert e;refine aZ (λhz e=>?_) nS;revert k';refine gJ e ?_;intro k';refine aW (Ub.bD) λa M aL N L=>?_;clear rx;subst aL;obtain⟨t,rfl⟩:=ry.int_inv;refine wD (ops:=[.ref s.heap.objs.size,.ref a]) (T:="tuple") (bZ N λo ho U' O=>⟨o,ho,U'⟩) H8.lookup (tL (k:=n) (u:=t) N Uc ?_ ?_ ?_) X
  .exact J dZ (J L.length hz.1)
  .exact fK.tuple (s:={s with heap:=s.heap.push {cls:=.type "slice",data:=.fields #[.none,.int (y_ n) t,.none]}}) k' I' (by simpa using L.take n)
  ·(refine J dZ (J L.length ?_));exact aR hz.2 eL
 .revert e;refine aZ (λhz=>?_) nS;refine dx (λs' ep e=>?_);revert k';refine gJ e ?_;intro k';refine aW (Ub.zU) λa M aL N L=>?_;clear rx;subst aL;obtain⟨t,rfl⟩:=ry.int_inv;have hl:(s.heap.push {cls:=.type "slice",data:=.fields #[.none,.int (y_ n) t,.none]}).IsList a M.toArray:=by obtain⟨o,ho,U',m,hd⟩:=N;exact⟨o,I'.keep _ _ ho,U',m,hd⟩
  refine wD (ops:=[.ref s.heap.objs.size,.ref a]) (T:="list") hl.typeIs H7.lookup (Mp hl Uc .none (.int (n:G) t) .none (by trivial) ?_ ?_) X
  .refine J (slicePick_upto' _ _) (fK.mS (s:={s with heap:=s.heap.push {cls:=.type "slice",data:=.fields #[.none,.int (y_ n) t,.none]}}) ep k' I' ?_ X)
   have:=(zX (D:=D) (J':=b.heap) (h:=s.heap.push {cls:=.type "slice",data:=.fields #[.none,.int (y_ n) t,.none]}) L).take n
   simpa [Va]using this
  .have:=L.length
   refine J dZ ?_
   have:=eL
   lia
 .revert e;refine lT (λZ ex=>aZ (λhz=>?_) nS);refine dx (λs' ep e=>?_);revert k';refine gJ e ?_;intro k';refine bA (I'.cW ex Ub) λa M aL h0 N L=>?_;clear rx;subst aL;obtain⟨t,rfl⟩:=ry.int_inv;refine wD (ops:=[.ref s.heap.objs.size,.ref a]) (T:="list") N.isList.typeIs H7.lookup (Mp N.isList Uc .none (.int (n:G) t) .none (by trivial) ?_ ?_) X
  .exact J (slicePick_upto' _ _) (fK.mS (s:={s with heap:=s.heap.push {cls:=.type "slice",data:=.fields #[.none,.int (y_ n) t,.none]}}) ep k' I' (by simpa using L.take n) X)
  ·(refine J dZ (J L.length ?_));exact aR hz eL
theorem JT{value lo:av}{pos:Pos}{x y z:AV}{u v:aY}{Q:cP}(hA:FL A)(I:Inv H w b s D Y)(rx:bB b.heap s.heap D x u)(ry:bB b.heap s.heap D y v)(e:oQ Y x y=f (T',z))(k:fK H w b s D Y T' z Q):b_ (c_ H w) A (subscriptTail value (.Slice (f lo) R R pos) u (.ref s.heap.objs.size)) Q E {s with heap:=s.heap.push {cls:=.type "slice",data:=.fields #[v,.none,.none]}}:=by
 have vs:=wW I #[v,.none,.none];have k':=k.after vs.2;have Uc:(s.heap.push {cls:=.type "slice",data:=.fields #[v,.none,.none]}).IsSliceOf s.heap.objs.size v .none .none:=Heap.IsSliceOf.new _ _ _ _;have Ub:=I.rep vs.2 aX.nil rx;have I':=vs.1;dsimp only[oQ]at e;revert e;refine ZI (λi n br bK=>?_);subst br;subst bK;refine lT (λZ ex=>aZ (λhz=>?_) nS);refine dx (λs' ep e=>?_);revert k';refine gJ e ?_;intro k';refine bA (I'.cW ex Ub) λa M aL h0 N L=>?_;clear rx;subst aL;obtain⟨t,rfl⟩:=ry.int_inv;refine wD (ops:=[.ref s.heap.objs.size,.ref a]) (T:="list") N.isList.typeIs H7.lookup (Mp N.isList Uc (.int (n:G) t) .none .none (by trivial) ?_ ?_) X
 .exact J (slicePick_from' _ _) (fK.mS (s:={s with heap:=s.heap.push {cls:=.type "slice",data:=.fields #[.int (y_ n) t,.none,.none]}}) ep k' I' (by simpa using L.drop n) X)
 ·(refine J dZ (J L.length ?_));exact aR hz eL
end
section
variable{w:de}{s:aJ}{A:dd}{E:cP}
def gR(h:cH)(d:bU)(es:T_ V_)(ep:a_):Prop:=∃ o,h.get? d=f o/\o.ExactDict/\o.data=.dict es ep
theorem gR.at(x:gR h d es ep)(e:∀ o,h.get? d=f o->h'.get? d=f o):gR h' d es ep:=ah x λo ho r=>⟨o,e _ ho,r⟩
theorem gR.typeIs(x:gR s.heap d es ep):s.TypeIs (.ref d) "dict":=bZ x λo ho U' O=>⟨o,ho,U'.1⟩
theorem Nf{Q:cP}(hd:(d==i_)=N')(hm:gR s.heap d es ep)(hQ:Q (.ref s.heap.objs.size) {s with heap:=s.heap.push {cls:=.type "dict_keyiterator",data:=.fields #[.ref d,.int 0 0,.int es.size 0,.int ep 0]}}) :
  b_ (c_ H w) A (W_ (.ref d)) Q E s:=by
 have hT:=hm.typeIs;refine bZ (id hm) λo ho U' Q7=>wpAny_pyIter_slot hT UU (iH UU hT F.entry_dict_iter ?_ (F.args_dict_iter_1 _));unfold Builtin.«dict.__iter__»;refine aT ?_;unfold Builtin.Dict.dictSlotNone;refine aT (Ib hT ?_);show b_ _ _ (pure (H_ d)) _ _ s;refine cB ?_;show b_ _ _ (A? d >>= _) _ _ s;unfold A?;refine J (ak (by rw[hd];exact Tt)) ?_;refine aT (cB (aT (qF ho Q7 (aT (H9 ho Q7 (aT (kX (cB ⟨_,X,"dict_keyiterator",_,⟨_,j5 _ X,X⟩,L6.lookup,?_⟩))))))));simpa [M_]using hQ
theorem yR{Q:af aY->aJ->Prop}(j4:s.heap.IsKeyIter it d i es.size ep)(hm:gR s.heap d es ep)(adJ:i<es.size)(hQ:∀ h',h'.IsKeyIter it d (i+1) es.size ep->s_ it s.heap h'->Q (f es[i].key) {s with heap:=h'}) :
  b_ (c_ H w) A (N_ (.ref it)) Q E s:=by
 refine bZ (id j4) λo ho U' hd=>bZ (id hm) λod Qj Yz Ng=>?_;unfold N_
 refine aT (C9 (uT (name:=Q_ "__next__") j4.typeIs L6
  (iH L6 j4.typeIs YW ?_ (YU _))))
 refine aT (cB (aT (aT ?_)))
 first|refine aT (Ie j4.typeIs (cB ?_))|refine aT (Ig j4.typeIs (cB ?_))
 refine aT (wpAny_fieldsOf ho hd ?_);have yS:Builtin.Dict_items.ownsTuple "dict_keyiterator"=N':=by decide
 simp -iota only [yS,LR,kW];show b_ _ _ (if (H_ d==F_)=V then _ else _) _ _ s;refine J (ak (show ¬ ((H_ d==F_)=V) from Tt)) (aT (cB (aT (qF Qj Ng (J (ak (by simp)) (aT (cB (aT (H9 Qj Ng (J (ak (by simp)) (cB ?_)))))))))));simp only[show ¬ ((i:G)<0) from by simp,kW,CT,tT0 adJ];refine aT ?_
 first|refine aT (Ie j4.typeIs (cB ?_))|refine aT (Ig j4.typeIs (cB ?_))
 refine aT (wpAny_isOneOf_keyiter j4.typeIs ?_);show b_ _ _ (setField (.ref it) 1 (M_ ((i:G)+1)) >>= _) _ _ s;refine aT (Dc ho hd (by simp) ?_)
 have Bh:(s.heap.update it (Obj.mapFields (·.setIfInBounds 1 (M_ ((i:G)+1))))).IsKeyIter it d (i+1) es.size ep:=
  ⟨_,AU _ ho (Mg (zJ hd _)),(Mf ..).trans U',by refine J (zJ hd _) ?_;simp[M_]⟩
 refine aT (ox (aT (wpAny_isOneOf_keyiter (s:={s with heap:=s.heap.update it (Obj.mapFields (·.setIfInBounds 1 (M_ ((i:G)+1))))}) Bh.typeIs ?_)));exact cB (cB ⟨_,X,cB (hQ _ Bh (qZ ..))⟩)
theorem Bi{Q:af aY->aJ->Prop}(hh:A.handled=R)(j4:s.heap.IsKeyIter it d es.size es.size ep)(hm:gR s.heap d es ep)(hQ:∀ h',Z? it s.heap h'->Q R {s with heap:=h'}):b_ (c_ H w) A (N_ (.ref it)) Q E s:=by
 refine bZ (id j4) λo ho U' hd=>?_;refine bZ (id hm) λod Qj Yz Ng=>?_;unfold N_
 refine aT (C9 (uT (name:=Q_ "__next__") j4.typeIs L6
  (iH L6 j4.typeIs YW ?_ (YU _))))
 refine aT (cB ?_);refine aT ?_;refine aT ?_
 first|refine aT (Ie j4.typeIs (cB ?_))|refine aT (Ig j4.typeIs (cB ?_))
 refine aT (wpAny_fieldsOf ho hd ?_);have yS:Builtin.Dict_items.ownsTuple "dict_keyiterator"=N':=by decide
 simp -iota only [yS,LR,kW];show b_ _ _ (if (H_ d==F_)=V then _ else _) _ _ s;refine J (ak (show ¬ ((H_ d==F_)=V) from Tt)) ?_;refine aT (cB ?_);refine aT (qF Qj Ng ?_);refine J (ak (by simp)) ?_;refine aT (cB ?_);refine aT (H9 Qj Ng ?_);refine J (ak (by simp)) ?_;refine cB ?_;simp only[show ¬ (((es.size:a_):G)<0) from by simp,kW,CT,Array.getElem?_eq_none (c9 es.size)];refine aT ?_
 first|refine aT (Ie j4.typeIs (cB ?_))|refine aT (Ig j4.typeIs (cB ?_))
 show b_ _ _ (setField (.ref it) 0 .none >>= _) _ _ s;refine aT (Dc ho hd (by exact iG _) ?_);refine aT ?_;simp only[newExc,newTuple];refine aT (kX ?_ (by size_fits));refine aT (m:=X_ _ _) (r7 (a:=F_) (by first|rfl|((exact(X_).symm▸X);rfl)) ?_);refine kX ?_ (by size_fits);simp -iota only [raiseNew];refine aT (wpAny_handled ?_);refine J (show A.in1.handled=R from hh) ?_;refine aT (cB (wpAny_throw ?_));refine aT (wF (T:="StopIteration") (b:=V) ⟨_,j5 _ X,X⟩ isSubtype_stop ?_);exact cB (hQ _ (((qZ ..).extBut.push _).push _))
theorem Walks.Q8(hh:A.handled=R)(I d:bU)(ej:d≠I)(es:T_ V_)(ep:a_) :
  Walks H w A I [I,d] [I] es.size (λi v=>∃ h:i<es.size,v=es[i].key) (λi h=>h.IsKeyIter I d i es.size ep/\gR h d es ep) where
 sub:=λb hb=>by simp at hb;simp[hb]
 frame:=λO O O st hk=>⟨st.1.at λo e=>hk I (by exact aQ) o e,st.2.at λo e=>hk d (by exact bg _ aQ) o e⟩
 item:=λi s Q E hi st hQ=>by exact yR st.1 st.2 hi λh' Bh Fy=>hQ _ h' s.toks ⟨hi,X⟩ ⟨Bh,st.2.at λo e=>Fy.extBut d o ej e⟩ λb o hb e=>Fy.extBut b o (λh=>hb (by simp[h])) e
 done:=λs Q E st hQ=>Bi hh st.1 st.2 λh' QY=>hQ h' s.toks λb o hb e=>QY b o (λh=>hb (by simp[h])) e
 self:=λO O O O st hQ=>wpAny_pyIter_keyiter st.1 hQ
theorem Q9{Q:cP}(hd:(d==i_)=N')(hm:gR s.heap d es ep)(Wb:(es.size:G)<2^63)(h:∀ t tk,Q (.int es.size t) {s with toks:=tk}):b_ (c_ H w) A (call (.builtin "len") [.ref d]) Q E s:=by
 refine call_len_slot (n:=(es.size:G)) hm.typeIs F.slot_dict_len (λQ' yT=>?_) (by simp) (by lia) (h _ _);refine iH F.slot_dict_len hm.typeIs F.entry_dict_len ?_ (F.args_dict_len_1 _);refine bZ (id hm) λo ho U' Q7=>?_;show b_ _ _ (dictSize d >>= _) _ _ s;unfold dictSize;refine aT (aT (qF ho Q7 (cB ?_)));refine aT (wpAny_pendingCount_other hd (wpAny_ret_mkInt ?_));simpa using yT
end
section
variable{w:de}{K:Type}[DecidableEq K]{Bj:HeapKind H w K}{s:aJ}{A:dd}{E:cP}
noncomputable def Dz (Z:d_ (K × bU × aY)) (k:K):d_ (K × bU × aY):=Z.eraseP λx=>decide (x.1=k)
theorem JU{α:Type}(p:α->e_):∀(Z:d_ α) (j:a_) (x:α),Z[j]?=f x->p x=V->(∀ i y,i<j->Z[i]?=f y->p y=N')->Z.eraseP p=Z.eraseIdx j:=λw'=>by induction w' with|nil=>intro O O h O O;exact nS h|cons y Z ih=>intro z1;cases z1 with|zero=>intro x h hp O;simp at h;subst h;simp[hp]|succ j=>intro x h hp hl;refine J eraseP_cons (J (hl 0 y (by exact rX _ _) X) ?_);simp only[List.eraseIdx_cons_succ,HU];exact J (ih j x (by simpa using h) hp λi z hi hz=>hl (i+1) z (by lia) (by simpa using hz)) X
theorem yU{α β:Type}(K':α->β):∀(Z:d_ α) (j:a_),(Z.map K').eraseIdx j=(Z.eraseIdx j).map K':=λw'=>by induction w' with|nil=>intro O;exact X|cons x Z ih=>intro z1;cases z1 with|zero=>exact X|succ j=>simp[ih j]
theorem Bk{Q:af V_->aJ->Prop}(hu:Bj.room A)(wX:Bj.is s.heap k a)(hm:s.heap.DictOfH Bj d Z)(hp:f? Z k=f q)(Q4:Z.length<=g?)(hQ:∀ e h' tk,e.val=q.2->h'.DictOfH Bj d (Dz Z k)->s_ d s.heap h'->Q (f e) {s with heap:=h',toks:=tk}):b_ (c_ H w) A (P_ d (.ref a)) Q E s:=by
 obtain⟨o,es,ep,ho,U',hd,he,JV,hn⟩:=hm;unfold P_;refine ox (aT (Bj.pyHash hu wX (aT (wpAny_dictFind_heap (s:={s with toks:=s.toks+Bj.draws k}) hu wX ho hd he JV hn (λLV=>?_) λj p hj=>?_))))
 .rw[atKey_none_of_get LV]at hp;exact nS hp
 .have hq:=atKey_of_get hn hj;rw[hp]at hq;obtain rfl:=aw hq;have hej:es[j]?=f (w? Bj (k,q)):=J (entry_at he _) (J hj X);have ahb:j<es.size:=(tT1.mp hej).1;refine aT (qF (s:={s with toks:=s.toks+Bj.draws k}) ho hd (J hej ?_));have hel:(es.eraseIdxIfInBounds j).toList=es.toList.eraseIdx j:=by obtain⟨l⟩:=es;simp
  refine aT (wpAny_updateDictKeysTo (s:={s with toks:=s.toks+Bj.draws k}) ho hd ?_ ?_)
  .refine cB (hQ _ _ _ X ⟨_,_,ep+1,AU _ ho (Obj.isFreed_of_dict (HO hd _)),U'.mapDictKeys _,HO hd _,?_,?_,?_⟩ (qZ ..))
   .have hg:Dz Z k=Z.eraseIdx j:=by refine JU _ Z j (k,q) hj (by simp) λi y hi hy=>bT λe=>?_;obtain⟨y1,y2⟩:=y;simp only at e;clear wX hp hQ hej;subst e;exact g_ (idxH_unique hn hy hj) (by lia)
    simp only[hg,hel,he,yU]
   .intro x hx;exact Bj.keeps (JV x (List.mem_of_mem_eraseP hx)) ho hd (qZ ..)
   .exact hn.sublist ((List.eraseP_sublist).map _)
  .have N:(es.eraseIdxIfInBounds j).size<=es.size:=by refine dT tT2 (J hel (dT tT2 ?_));exact List.length_eraseIdx_le ..
   have L:=zN he;lia
theorem Bl{Q:af V_->aJ->Prop}(hu:Bj.room A)(wX:Bj.is s.heap k a)(hm:s.heap.DictOfH Bj d Z)(hp:f? Z k=R)(hQ:∀ tk,Q R {s with toks:=tk}):b_ (c_ H w) A (P_ d (.ref a)) Q E s:=by
 obtain⟨o,es,ep,ho,U',hd,he,JV,hn⟩:=hm;unfold P_;refine ox (aT (Bj.pyHash hu wX (aT (wpAny_dictFind_heap (s:={s with toks:=s.toks+Bj.draws k}) hu wX ho hd he JV hn (λLV=>?_) λj p hj=>?_))))
 .exact cB (hQ _)
 .rw[atKey_of_get hn hj]at hp;exact sN hp
theorem DA{Q:cP}(hu:Bj.room A.in1)(hdS:(d==i_)=N')(wX:Bj.is s.heap k a)(hm:s.heap.DictOfH Bj d Z)(Q4:Z.length<=g?)(U':more=[]/\(f? Z k).isSome=V\/∃ x,more=[x])(hQ:∀ v h' tk,h'.DictOfH Bj d (Dz Z k)->s_ d s.heap h'->Q v {s with heap:=h',toks:=tk}) (hQ0:∀ v tk,f? Z k=R->Q v {s with toks:=tk}) :
  b_ (c_ H w) A (call (.builtin "dict.pop") (.ref d::.ref a::more)) Q E s:=by
 have hT:=hm.typeIs
 have fin:∀ dflt:af aY,((f? Z k).isSome=V\/dflt.isSome=V)->b_ (c_ H w) A.in1 (do
   let empty <-if (keyPart (H_ a)).isSome then pure N' else do pure (<-dictEntries d).isEmpty
   let old <-if empty then rule "dict.pop.empty";pure R else P_ d (.ref a)
   if old.isNone then Builtin.Dict.missedRemoval d (.ref a)
   match old,dflt with|f e,O=>letGo [e.key] [e.val];ret e.val|R,f x=>rule "dict.pop.default";ret x|R,R=>rule "dict.pop.keyerror";raiseNew (<-newExc (.type "KeyError") [.ref a])) (λK' s'=>∃ v,K'=.done (.ret v)/\Q v s') (λe s'=>E e s') s:=by
  intro dflt Z3;refine zS (id hm) λo es ep ho hcc hd he JV hn=>?_;refine J (X:(keyPart (H_ a)).isSome=N') ?_;simp -iota only [LR,kW];refine aT (qF ho hd (aT (cB ?_)))
  have Ud:f? Z k=R->∀ s':aJ,(∀ v,Q v s')->b_ (c_ H w) A.in1 (do
    if (R:af V_).isNone then Builtin.Dict.missedRemoval d (.ref a)
    match (R:af V_),dflt with|f e,O=>letGo [e.key] [e.val];ret e.val|R,f x=>rule "dict.pop.default";ret x|R,R=>rule "dict.pop.keyerror";raiseNew (<-newExc (.type "KeyError") [.ref a])) (λK' s'=>∃ v,K'=.done (.ret v)/\Q v s') (λe s'=>E e s') s':=by
   intro LV s' hq
   have Wa:dflt.isSome=V:=by
    rcases Z3 with h|h
    .rw[LV]at h;exact fT h
    .exact h
   obtain⟨x,eG⟩:=wy.mp Wa;clear Z3 Wa;subst eG;simp only[Option.isNone_none,gv];exact aT (wpAny_missedRemoval_other hdS (aT (qH (cB ⟨x,X,hq x⟩))))
  cases adL:es.isEmpty with
  |true=>
   have hx:Z=[]:=by have h0:es=#[]:=Array.isEmpty_iff.mp adL;have N:=zN he;rw[h0]at N;exact List.length_eq_zero_iff.mp N.symm
   simp -iota only [gv];refine aT (aT (qH (cB (Ud (by exact J hx X) s λv=>?_))));exact hQ0 v s.toks (by exact J hx X)
  |false=>simp -iota only [LR,kW];cases Bd:f? Z k with|none=>exact aT (Bl hu wX hm Bd λtk=>Ud Bd _ λv=>hQ0 v tk Bd)|some q=>refine aT (Bk hu wX hm Bd Q4 λe h' tk aN u6 Fy=>?_);simp -iota only [Option.isNone_some,LR,kW];exact aT (wpAny_letGo (cB ⟨e.val,X,hQ _ _ _ u6 Fy⟩))
 rcases U' with ⟨rfl,hs⟩|⟨x,rfl⟩
 .refine iH Qu hT F.entry_dict_pop ?_ (F.args_dict_pop_2 _ _);unfold Builtin.«dict.pop»;refine aT ?_;unfold Builtin.Dict.keyAndDefault;refine aT (Ib hT ?_);exact cB (fin R (.inl hs))
 .refine iH Qu hT F.entry_dict_pop ?_ (F.args_dict_pop_3 _ _ _);unfold Builtin.«dict.pop»;refine aT ?_;unfold Builtin.Dict.keyAndDefault;refine aT (Ib hT ?_);exact cB (fin (f x) (.inr X))
end
noncomputable def keyHash (k:aA):G:=reduceHash (Builtin.Tuple.tupleHashOf (k.map hashInt))
noncomputable def IC:d_ (aA):=(A_ 6).flatMap λi=>(A_ 6).flatMap λj=>(A_ 6).map λk=>[.ofNat i,.ofNat j,.ofNat k]
noncomputable def Bm:aA->e_|[]=>V|x::Z=>Z.all (λy=>!decide (x=y))&&Bm Z
theorem JW:Bm (IC.map keyHash)=V:=by decide +kernel
theorem sv(h:smallKey k=V):k∈IC:=by dsimp only[smallKey]at h;revert h;refine ZM (λi j l br h=>?_);subst br;simp only[jc,Nat.blt_eq]at h;exact J (propext Vd) (aK i (Ve.mpr h.1.1) (J (propext Vd) (aK j (Ve.mpr h.1.2) (J (propext eT) (aK l (Ve.mpr h.2) X)))))
theorem JX{K':aA->G}:∀{l:d_ (aA)},Bm (l.map K')=V->∀{x y:aA},x∈l->y∈l->K' x=K' y->x=y:=by intro w';induction w' with|nil=>(intro O O O hx O O;exact nomatch hx)|cons z l ih=>
  intro h x y hx hy e;dsimp only[D_,Bm]at h;simp only[jc,mK]at h;rcases aV.mp hx with N|N
  .rcases aV.mp hy with L|L
   .exact N.trans L.symm
   .have:=h.1 (K' y) (eT.mpr ⟨y,L,X⟩)
    rw[<-N]at this;simp[e]at this
  .rcases aV.mp hy with L|L
   .have:=h.1 (K' x) (eT.mpr ⟨x,N,X⟩)
    rw[<-L]at this;simp[e]at this
   .exact ih h.2 N L e
theorem zY(hx:smallKey x=V)(hy:smallKey y=V)(e:keyHash x=keyHash y):x=y:=JX JW (sv hx) (sv hy) e
section
variable{w:de}{b s:aJ}{D F':cg}{Y T':St}{A:dd}{E:cP}
theorem Nh:∀(Z:d_ (aA × bU × aY)),(∀ x∈Z,smallKey x.1=V)->(Z.map (·.1)).Nodup->∀ k:aA,smallKey k=V->(Z.filter λx=>keyHash x.1==keyHash k).length<=1:=λw'=>by induction w' with|nil=>intro O O O O;exact ji _|cons x Z ih=>
  intro h hn k hk;rw[bW,gw]at hn;refine J U2 ?_;split
  .rename_i q
   have:Z.filter (λx=>keyHash x.1==keyHash k)=[]:=by refine J (propext List.filter_eq_nil_iff) ?_;intro y hy q2;exact hn.1 (eT.mpr ⟨y,hy,(zY (h y (bg _ hy)) hk (by simpa using q2)).trans (zY (h x aQ) hk (by simpa using q)).symm⟩)
   exact J this (iG _)
  .exact ih (λy hy=>h y (bg _ hy)) hn.2 k hk
theorem rf{id:String}{d:bU}{Z:d_ (aA × bU × aY)}{o:Obj}{es:T_ V_}{ep:a_}{Q:T_ V_->aJ->Prop}(ho:s.heap.get? d=f o)(hd:o.data=.dict es ep)(he:es.toList=Z.map (w? (tk H w)))(JV:∀ x∈Z,(tk H w).is s.heap x.1 x.2.1) (hn:(Z.map (·.1)).Nodup) (vH:∀ x∈Z,smallKey x.1=V) (h:Q es s) :
  b_ (c_ H w) A (Builtin.Dict.entriesForEmpty id d) Q E s:=by
 unfold Builtin.Dict.entriesForEmpty;refine aT (qF ho hd (aT (dT Array.forIn_toList (wpAny_forIn_list _ (λD' r s'=>s'=s/\∃ ys,D'=ys.map (w? (tk H w))/\∀ x∈ys,x∈Z) _ ?_ ?_ _ _ ⟨X,Z,he,λx hx=>hx⟩))))
 .rintro e D' r s' ⟨rfl,ys,hr,hy⟩;cases ys with|nil=>simp at hr|cons y ys=>
   rw[bW]at hr;injection hr with N L;subst N;have fD:=hy y aQ;show b_ _ _ (Builtin.Dict.quietEq (H_ y.2.1) >>= _) _ _ _;refine aT (aT (Mr (JV y fD).typeIs UY.lookup (cB (J (ai (by decide)) ?_))));have hle:(es.filter (·.hash==(w? (tk H w) y).hash)).size<=1:=by exact dT tT2 (J Array.toList_filter (J he (J List.filter_map (J (cz _) (Nh Z vH hn y.1 (vH y fD))))))
   exact J (ak (by omega)) (cB ⟨X,ys,L,λx hx=>hy x (bg _ hx)⟩)
 .rintro r s' ⟨rfl,_,_⟩;exact cB h
theorem nJ(h:cH):(h.push {cls:=.type "dict",data:=.dict #[]}).DictOfH (tk H w) h.objs.size []:=
 ⟨_,_,0,j5 _ X,⟨X,X,X⟩,X,X,(λO hx=>nomatch hx),r6⟩
theorem Bn{o:bU}{Z:d_ (aA × bU × aY)}{Q:cP}(hoS:(o==i_)=N')(ho:s.heap.DictOfH (tk H w) o Z)(Q4:Z.length<=g?)(vH:∀ x∈Z,smallKey x.1=V)(h:∀ h',h'.DictOfH (tk H w) s.heap.objs.size Z->(∀ c ob,s.heap.get? c=f ob->h'.get? c=f ob)->s.heap.objs.size<h'.objs.size->Q (.ref s.heap.objs.size) {s with heap:=h'}) :
  b_ (c_ H w) A (call (.type "dict") [.ref o]) Q E s:=by
 refine callType_codes (Q₁:=λobj cy=>obj=.ref s.heap.objs.size/\cy={s with heap:=s.heap.push {cls:=.type "dict",data:=.dict #[]}}) F.kt_called_dict (F.kt_typeCall_dict_1 _) F.entry_dict_init (kt_code_dict_new _ ⟨X,X⟩) ?_;rintro obj cy ⟨rfl,rfl⟩;have jr:(s.heap.push {cls:=.type "dict",data:=.dict #[]}).DictOfH (tk H w) s.heap.objs.size []:=nJ _;have hk:∀ c ob,s.heap.get? c=f ob->(s.heap.push {cls:=.type "dict",data:=.dict #[]}).get? c=f ob:=λc ob e=>kE _ e;refine zS (id ho) λoo Wc epo LX hco Ni Wd JV LV=>?_
 have qB:(s.heap.push {cls:=.type "dict",data:=.dict #[]}).DictOfH (tk H w) o Z:=
  ⟨oo,Wc,epo,hk _ _ LX,hco,Ni,Wd,λx hx=>jL (λa B' ⟨ob,N,L,n,h3⟩=>⟨ob,hk _ _ N,L,n,h3⟩) (JV x hx),LV⟩
 have Z4:∀ x∈Z,(tk H w).is (s.heap.push {cls:=.type "dict",data:=.dict #[]}) x.1 x.2.1:=λx hx=>jL (λa B' ⟨ob,N,L,n,h3⟩=>⟨ob,hk _ _ N,L,n,h3⟩) (JV x hx);have Rb:=hk _ _ LX;have hdo:s.heap.objs.size≠o:=λe=>g_ (mJ LX) (by exact J e (CY _));have hnt:Shared.TypeIs {s with heap:=s.heap.push {cls:=.type "dict",data:=.dict #[]}} (.ref s.heap.objs.size) "dict":=jr.typeIs (s:={s with heap:=s.heap.push {cls:=.type "dict",data:=.dict #[]}});have hot:Shared.TypeIs {s with heap:=s.heap.push {cls:=.type "dict",data:=.dict #[]}} (.ref o) "dict":=qB.typeIs (s:={s with heap:=s.heap.push {cls:=.type "dict",data:=.dict #[]}});refine⟨hnt,F.args_dict_init_2 _ _,?_⟩;unfold Builtin.«dict.__init__»;refine aT ?_;unfold Builtin.Dict.selfAndRest;refine aT (Ib hnt ?_);refine cB ?_;show b_ _ _ (Builtin.Dict.updateFrom "dict.__init__" s.heap.objs.size (.ref o) [] .none) _ _ _;unfold Builtin.Dict.updateFrom;refine aT (Ih hot (J (ak (by decide)) (aT ?_)));unfold Builtin.Dict.merge;refine aT ?_;unfold Builtin.Dict.readDirectly;refine aT (wF hot isSubtype_dict_dict ?_);simp -iota only [Bool.not_true,LR,kW];refine aT (Mr hot UU.lookup (cB ?_));simp -iota only [Mi,gv];refine aT (cB ?_);obtain⟨od,Qj,Yz,Ng⟩:∃ od,(s.heap.push {cls:=.type "dict",data:=.dict #[]}).get? s.heap.objs.size=f od/\od.ExactDict/\od.data=.dict #[] 0:=⟨_,j5 _ X,⟨X,X,X⟩,X⟩;unfold Builtin.Dict.mergeDict;refine J (ak (by simpa using hdo)) ?_;unfold A?;refine J (ak (by rw[hoS];exact Tt)) ?_;refine aT (cB (aT (qF (s:={s with heap:=s.heap.push {cls:=.type "dict",data:=.dict #[]}}) Rb Ni ?_)));have Rc:s.heap.objs.size<(s.heap.push {cls:=.type "dict",data:=.dict #[]}).objs.size:=J (yF _ _) (ky _)
 cases Z with
 |nil=>
  have h0:Wc=#[]:=by
   have:=zN Wd
   exact Array.eq_empty_of_size_eq_zero (by simpa using this)
  clear Wd;subst h0;exact J (ak (by simp)) (aT (H9 (s:={s with heap:=s.heap.push {cls:=.type "dict",data:=.dict #[]}}) Rb Ni (aT (qF (s:={s with heap:=s.heap.push {cls:=.type "dict",data:=.dict #[]}}) Rb Ni (aT (J (Std.Legacy.Range.forIn_eq_forIn_range' _ _ _) (cB (cB (aT (cB (cB ⟨X,h _ jr hk Rc⟩)))))))))))
 |cons x Z=>
  dsimp only;have hz:=zN Wd
  have adO:(decide (Wc.size<=8)&&Wc.all λe=>(keyPart e.key).isSome)=N':=by
   refine J (propext Bool.and_eq_false_iff) ?_;right;refine J (propext Array.all_eq_false) ⟨0,by refine J hz ?_;simp,?_⟩
   have:Wc[0]?=f (w? (tk H w) x):=J (entry_at Wd _) X
   rw[tT1]at this;obtain⟨N,L⟩:=this;exact J L Tt
  refine J adO (J (ai (by decide)) (aT (qF (s:={s with heap:=s.heap.push {cls:=.type "dict",data:=.dict #[]}}) Qj Ng (J (ai (show(#[]:T_ V_).isEmpty=V from X)) (aT (rf (s:={s with heap:=s.heap.push {cls:=.type "dict",data:=.dict #[]}}) Rb Ni Wd Z4 LV vH ?_))))))
  rw[ai (by
   cases he:Wc.isEmpty with|false=>rfl|true=>
    rw[Array.isEmpty_iff]at he;rw[he]at hz
    cases hz)]
  refine aT (wpAny_updateDictKeysTo (s:={s with heap:=s.heap.push {cls:=.type "dict",data:=.dict #[]}}) Qj Ng (cB ?_) (by refine J hz ?_;lia));have hs:s_ s.heap.objs.size (s.heap.push {cls:=.type "dict",data:=.dict #[]}) ((s.heap.push {cls:=.type "dict",data:=.dict #[]}).update s.heap.objs.size (Obj.mapDictKeys λO=>Wc)):=qZ ..;refine aT (cB (cB ⟨X,h _ ⟨_,_,0+1,AU _ Qj (Obj.isFreed_of_dict (HO Ng _)),Yz.mapDictKeys _,HO Ng _,Wd,λy hy=>?_,LV⟩ (λc ob e=>(hs.2 c λq=>?_).trans (hk c ob e)) (by exact J hs.1 Rc)⟩))
  .exact(tk H w).keeps (Z4 y hy) Qj Ng hs
  .subst q;exact g_ (mJ e) (CY _)
theorem cO.keys:∀{bJ:dc} {J' h:cH} {Z:d_ (aA × bU × aY)},cO J' h D bJ Z->Z.map (·.1)=bJ.map (·.1):=by intro w';cases w' with|nil=>intro O O O r;dsimp only[cO]at r;subst r;rfl|cons p bJ=>intro O O O r;dsimp only[cO]at r;obtain⟨a,v,Qh,rfl,_,qs⟩:=r;simp[qs.keys]
theorem cO.del:∀{bJ:dc} {J' h:cH} {Z:d_ (aA × bU × aY)},cO J' h D bJ Z->∀ k,cO J' h D (lM bJ k) (Dz Z k):=by intro w';cases w' with|nil=>intro O O O r k;dsimp only[cO]at r;subst r;rfl|cons p bJ=>
  intro O O O r k;dsimp only[cO]at r;obtain⟨a,v,Qh,rfl,q,qs⟩:=r;dsimp only[lM,Dz];by_cases e:p.1=k
  .simp[e,qs]
  .dsimp only[if_neg e,eraseP_cons,decide_eq_false e,cond_false,cO];simp only[ak e,eraseP_cons,bT e,HU];dsimp only[if_neg e,eraseP_cons,decide_eq_false e,cond_false,cO];exact Di a v _ X q (qs.del k)
theorem JY:∀{bJ:dc} {k:aA},jS bJ k=R->lM bJ k=bJ:=by intro w';induction w' with|nil=>intro O O;exact X|cons p bJ ih=>intro k h;dsimp only[jS]at h;dsimp only[lM];revert h;refine Dl sN λe h=>?_;exact J (ak e) (J (ih h) X)
theorem FT{k:aA}:f? (p::Z) k=if p.1=k then f p.2 else f? Z k:=by unfold f?;by_cases e:p.1=k<;>simp[e]
theorem Bo{k:aA}{a:bU}(hn:k∉Z.map (·.1)\/p.1≠k) :
  storedH (p::Z) k a v=if p.1=k then(p.1,p.2.1,v)::Z else p::storedH Z k a v:=by
 unfold storedH;refine J FT ?_;by_cases e:p.1=k
 .simp only[ai e,Mh,gv,bW];congr 1
  .simp[putAt,e]
  .rcases hn with hn|hn
   .rw[Y7 (g:=id)]
    .simp
    .intro x hx;unfold putAt;rw[ak]
     .rfl
     .intro q;exact hn (eT.mpr ⟨x,hx,q⟩)
   .exact g_ e hn
 .simp only[ak e];split
  .simp[putAt,e]
  .rfl
theorem cO.store:∀{bJ:dc} {J' h:cH} {Z:d_ (aA × bU × aY)},cO J' h D bJ Z->(Z.map (·.1)).Nodup->∀(k:aA) (a:bU) {x:AV} {v:aY},bB J' h D x v->cO J' h D (iK bJ k x) (storedH Z k a v):=by intro w';cases w' with|nil=>intro O O O r O k a x v rx;dsimp only[cO]at r;subst r;(dsimp only[iK,cO];simp only[storedH,f?,List.find?_nil,Option.map_none,Option.isSome_none]);exact Di a v ([]) X rx X|cons p bJ=>
  intro O O O r hn k a x v rx;dsimp only[cO]at r;obtain⟨c,u,Qh,rfl,q,qs⟩:=r;rw[bW,gw]at hn;rw[Bo]
  .unfold iK;by_cases e:p.1=k
   .dsimp only[if_pos e,cO];simp only[ai e];dsimp only[if_pos e,cO];exact Di c v Qh X rx qs
   .dsimp only[if_neg e,cO];simp only[ak e];dsimp only[if_neg e,cO];exact Di c u _ X q (qs.store hn.2 k a rx)
  .by_cases e:p.1=k
   .left;exact dT e hn.1
   .exact .inr e
theorem JZ{Q:cP}(hA:FL A)(I:Inv H w b s D Y)(ex:Y.get n=f (.dict bJ))(rx:bB b.heap s.heap D (.ref n) u)(Q4:bJ.length<=lim)(vH:bJ.all (λp=>smallKey p.1)=V)(hp:Y.push (.dict bJ)=f T') (k:fK H w b s D Y T' (.ref Y.n) Q):b_ (c_ H w) A (call (.type "dict") [u]) Q E s:=by
 refine bA (I.kI ex rx) λa Z aL N L h3=>?_;clear rx;subst aL;have hl:=h3.length;refine Bn ((I.fresh a (dX N)).2) L (by exact J hl (aR Q4 eL)) (λx hx=>?_) λh' hd hk Rc=>?_
 .have fD:x.1∈bJ.map (·.1):=dT h3.keys (eT.mpr ⟨x,hx,X⟩);exact ah (eT.mp fD) λy hy e=>dT e (mK.mp vH y hy)
 .refine zR (id hd) λo es ep ho U' hr=>?_;have vs:=I.alloc (t:=s.toks) hk (dM _) I.low (rY I.low Rc) ⟨o,ho,.inr U'.1⟩ hp λht hq=>⟨Z,hd,h3.mono ht hq⟩;exact k _ _ _ vs.1 vs.2.1 (bB.ref vs.2.2)
end
noncomputable def FU:d_ String:=["enumerate","zip","dict_itemiterator","dict_reverseitemiterator","odict_iterator","itertools.zip_longest","itertools.pairwise"]
structure Turn(H:B_)(w:de)(A:dd)(target:av)(it:bU)(fp wr:cg)(n:a_)(P:a_->aY->cH->Prop)(St:a_->cH->Prop):Prop where
 sub:∀ b∈wr,b∈fp
 frame:∀ i h h',St i h->(∀ b∈fp,∀ o,h.get? b=f o->h'.get? b=f o)->St i h'
 turn:∀ i (s:aJ) (Q:af aY->aJ->Prop) (E:cP),i<n->St i s.heap ->
  (∀ v cy,(∀(Q':l?->aJ->Prop) (E':cP),(∀ h' tk,P i v h'->St (i+1) h'->(∀ b o,b∉wr->s.heap.get? b=f o->h'.get? b=f o)->Q' () {s with heap:=h',toks:=tk}) ->
   b_ (c_ H w) A (u_ target (.ref it) v) Q' E' cy)->Q (f v) cy)->b_ (c_ H w) A (N_ (.ref it)) Q E s
 done:∀(s:aJ) (Q:af aY->aJ->Prop) (E:cP),St n s.heap ->
  (∀ h' tk,(∀ b o,b∉wr->s.heap.get? b=f o->h'.get? b=f o)->Q R {s with heap:=h',toks:=tk})->b_ (c_ H w) A (N_ (.ref it)) Q E s
 self:∀ i (s:aJ) (Q:cP) (E:cP),St i s.heap->Q (.ref it) s->b_ (c_ H w) A (W_ (.ref it)) Q E s
section
variable{w:de}{b s:aJ}{D F':cg}{Y T':St}{A:dd}{E:cP}
def p6(h:cH)(it:bU):Prop:=∃ o M T,h.get? it=f o/\o.cls=.type T/\o.data=.fields M/\FU.contains T=N'
theorem u7{Q:l?->aJ->Prop}(h:p6 s.heap it)(hQ:Q () s):b_ (c_ H w) A (u_ target (.ref it) v) Q E s:=by
 obtain⟨o,M,T,ho,U',hd,hn⟩:=h
 have core:∀ a:bU,b_ (c_ H w) A (do
   let o <-load it
   match o.cls,o.data with
   |.type n,.fields M=>
    if ["enumerate","zip","dict_itemiterator","dict_reverseitemiterator","odict_iterator","itertools.zip_longest","itertools.pairwise"].contains n&&M[0]?==f (M_ a) then
     rule "for.unpacks-the-owned-tuple"
     updateField it 0 .none
   |O,O'=>pure ()) Q E s:=λa=>by
  refine aT (wpAny_load ho ?_);refine J U' (J hd ?_);have hn':(["enumerate","zip","dict_itemiterator","dict_reverseitemiterator","odict_iterator","itertools.zip_longest","itertools.pairwise"].contains T)=N':=hn;dsimp only;refine J (ak (by rw[hn',tT6];exact Tt)) ?_;exact cB hQ
 cases target with|Tuple e c p=>(cases v with|ref a=>exact core a|_=>exact cB hQ)|List e p=>(cases v with|ref a=>exact core a|_=>exact cB hQ)|_=>exact cB hQ
theorem Walks.weaken{P P':a_->aY->Prop}{St:a_->cH->Prop}(W:Walks H w A I fp wr n P St)(h:∀ i v,P i v->P' i v):Walks H w A I fp wr n P' St where
 sub:=W.sub
 frame:=W.frame
 item:=λi s Q E hi st hQ=>W.item i s Q E hi st λv h' tk hp=>hQ v h' tk (h i v hp)
 done:=W.done
 self:=W.self
theorem Turn.ID{P:a_->aY->Prop}{P':a_->aY->cH->Prop}{St:a_->cH->Prop}(W:Walks H w A I fp wr n P St)(hq:∀ i h,St i h->p6 h I)(hP:∀ i v h,P i v->P' i v h) :
  Turn H w A target I fp wr n P' St where
 sub:=W.sub
 frame:=W.frame
 turn:=λi s Q E hi st hQ=>W.item i s Q E hi st λv h' tk hp oY hk=>hQ v _ λQ' E' yT=>u7 (hq _ _ oY) (yT h' tk (hP i v h' hp) oY hk)
 done:=W.done
 self:=W.self
theorem Turn.Nj{Pt:a_->T_ aY->Prop}{P':a_->aY->cH->Prop}{St:a_->cH->Prop}{Mid:a_->bU->cH->Prop}(W:WalksT H w A I fp wr n Pt St Mid)(hP:∀ i T vals h,Pt i vals->h.IsTuple T vals->P' i (.ref T) h):Turn H w A (.Tuple elts c pos) I fp wr n P' St where
 sub:=W.sub
 frame:=W.frame
 turn:=λi s Q E hi st hQ=>W.item i s Q E hi st λT vals h' tk hp O hT hm hk=>hQ (.ref T) _ λQ' E' yT=>W.go elts c pos i T _ Q' E' hm λh'' tM Z5=>
  yT h'' tk (hP i T vals h'' hp (hT.at λo e=>Z5 T o (W.apart i T _ hm) e)) tM λb o hb e=>Z5 b o hb (hk b o hb e)
 done:=W.done
 self:=W.self
def Bp(J' hs:cH)(D:cg)(h:cH)(z:AV)(v:aY):Prop:=bB J' hs D z v\/∃ T M zs,z=.tup zs/\v=.ref T/\h.IsTuple T M.toArray/\aG J' hs D zs M
theorem Bp.rep(x:Bp J' hs D h z v)(ht:∀ a B',hs.IsTuple a B'->h.IsTuple a B')(hp:D <+: ca):bB J' h ca z v:=by
 rcases x with r|⟨T,M,zs,rfl,rfl,t,r⟩
 .exact r.mono ht hp
 .exact bB.tup t (r.mono ht hp)
noncomputable def rg (e:av):e_:=f_ e.ctorIdx 25
structure k0(H:B_)(w:de)(tups:e_)(J' hs:cH)(D:cg)(lk:af a_)(Z:al)(it:bU)(N:cH):Prop where
 go:∃(fp wr:cg) (St:a_->cH->Prop),
  (∀(A:dd) (target:av),A.handled=R->(tups=V->rg target=V)->Turn H w A target it fp wr Z.length (λi v h=>∃ x,Z[i]?=f x/\Bp J' hs D h x v) St)/\St 0 N /\
  (∀ a∈wr,hs.get? a=R/\∃ o,N.get? a=f o)/\(∀ a∈fp,a∈wr\/(∃ B',hs.IsTuple a B')\/∃ n,lk=f n/\D[n]?=f a)/\(∀ i h,St i h->∀ a∈wr,∃ o M,h.get? a=f o/\o.data=.fields M)
 keep:∀ a o,hs.get? a=f o->N.get? a=f o
 low:i_<N.objs.size
theorem yV{J' h:cH}{d:bU}{bJ:dc}{Z:d_ (aA × bU × aY)}{es:T_ V_}(hm:h.DictOfH (tk H w) d Z)(r:cO J' h D bJ Z)(he:es.toList=Z.map (w? (tk H w))){i:a_}(hi:i<es.size) :
  ∃ x,(bJ.map λp=>iJ p.1)[i]?=f x/\bB J' h D x es[i].key:=by
 obtain⟨o,es',ep,_,_,_,_,JV,_⟩:=hm;have N:es[i]?=f es[i]:=tT0 hi;rw[entry_at he]at N;refine ah (zK.mp N) λy hy e=>dT e ?_;have hk:(Z.map (·.1))[i]?=f y.1:=by(refine J mL ?_;refine J hy ?_);rfl
 rw[r.keys,mL]at hk;refine ah (zK.mp hk) λq hq e2=>aK (iJ y.1) (by exact J mL (J hq (J (zL _ _) (J e2 X)))) ?_;exact FQ (JV y (dX hy))
structure WalkAt(H:B_)(w:de)(J' hs:cH)(D:cg)(lk:af a_)(Z:al)(it:bU)(N:cH):Prop where
 go:∃(fp wr:cg) (St:a_->cH->Prop),
  (∀ A:dd,A.handled=R->Walks H w A it fp wr Z.length (λi v=>∃ x,Z[i]?=f x/\bB J' hs D x v) St)/\St 0 N/\(∀ i h,St i h->∀ a∈it::wr,p6 h a) /\
  (∀ a∈wr,hs.get? a=R/\∃ o,N.get? a=f o)/\(∀ a∈fp,a∈wr\/(∃ B',hs.IsTuple a B')\/∃ n,lk=f n/\D[n]?=f a)/\(∀ a∈fp,a<N.objs.size)
 keep:∀ a o,hs.get? a=f o->N.get? a=f o
 low:i_<N.objs.size
theorem WalkAt.iter(x:WalkAt H w J' hs D lk Z it N):k0 H w N' J' hs D lk Z it N:=by obtain⟨⟨fp,wr,St,hW,h0,hq,tN,Rd,_⟩,hk,hl⟩:=x;exact⟨⟨fp,wr,St,λA target hh O=>Turn.ID (hW A hh) (λi h st=>hq i h st it aQ) λi v h ⟨x,N,L⟩=>⟨x,N,.inl L⟩,h0,tN,Rd,λi h st a B=>Ij (hq i h st a (bg _ B)) λo M O N O L O=>⟨o,M,N,L⟩⟩,hk,hl⟩
theorem wY(x:h.IsListIter I l i):p6 h I:=bZ x λo N L h3=>⟨o,_,_,N,L,h3,by decide⟩
theorem vI(x:h.IsTupleIter I l i):p6 h I:=bZ x λo N L h3=>⟨o,_,_,N,L,h3,by decide⟩
theorem yW(x:h.IsKeyIter I d i n ep):p6 h I:=bZ x λo N L h3=>⟨o,_,_,N,L,h3,by decide⟩
theorem J0{Q:cP}(iQ:i_<s.heap.objs.size)(hl:s.heap.IsList l M.toArray)(r:aG J' s.heap D Z M)(Rf:∃ n,lk=f n/\D[n]?=f l)(k:∀ N it,WalkAt H w J' s.heap D lk Z it N->Q (.ref it) {s with heap:=N}):b_ (c_ H w) A (W_ (.ref l)) Q E s:=by
 have iE:l<s.heap.objs.size:=ah hl λo ho O=>mJ ho;refine wpAny_pyIter_list hl (k _ _ ⟨⟨[s.heap.objs.size,l],[s.heap.objs.size],λi h=>h.IsListIter s.heap.objs.size l i/\h.IsList l M.toArray,λA hh=>?_,⟨⟨_,j5 _ X,X,X⟩,hl.at λo e=>kE _ e⟩,λi h st a B=>(show a=s.heap.objs.size by simpa using B)▸wY st.1,?_,?_,?_⟩,λa o e=>kE _ e,fL _ iQ⟩)
 .have W:=Walks.list (prog:=H) (w:=w) hh s.heap.objs.size l (jh iE) M.toArray;rw[show M.toArray.size=Z.length from dZ.trans r.length]at W;exact Walks.weaken W λi v e=>r.get' (by simpa using e)
 .intro a B;rw[az]at B;subst B;exact⟨dM _,_,j5 _ X⟩
 .intro a B;rcases aV.mp B with eG|B
  .clear B;subst eG;exact .inl (az.mpr X)
  .rw[az]at B;clear hl iE;subst B;exact .inr (.inr Rf)
 .intro a B;refine J (yF _ _) ?_;rcases aV.mp B with iC|B
  .clear B;subst iC;exact ky _
  .rw[az]at B;clear hl Rf;subst B;exact uK iE
theorem FV{Q:cP}(iQ:i_<s.heap.objs.size)(hl:s.heap.IsTuple l M.toArray)(r:aG J' s.heap D Z M)(k:∀ N it,WalkAt H w J' s.heap D lk Z it N->Q (.ref it) {s with heap:=N}):b_ (c_ H w) A (W_ (.ref l)) Q E s:=by
 have iE:l<s.heap.objs.size:=ah hl λo ho O=>mJ ho;refine wpAny_pyIter_tuple hl (k _ _ ⟨⟨[s.heap.objs.size,l],[s.heap.objs.size],λi h=>h.IsTupleIter s.heap.objs.size l i/\h.IsTuple l M.toArray,λA hh=>?_,⟨⟨_,j5 _ X,X,X⟩,hl.push _⟩,λi h st a B=>(show a=s.heap.objs.size by simpa using B)▸vI st.1,?_,?_,?_⟩,λa o e=>kE _ e,fL _ iQ⟩)
 .have W:=Walks.tuple (prog:=H) (w:=w) hh s.heap.objs.size l (jh iE) M.toArray;rw[show M.toArray.size=Z.length from dZ.trans r.length]at W;exact Walks.weaken W λi v e=>r.get' (by simpa using e)
 .intro a B;rw[az]at B;subst B;exact⟨dM _,_,j5 _ X⟩
 .intro a B;rcases aV.mp B with j6|B
  .clear B;subst j6;exact .inl (az.mpr X)
  .rw[az]at B;clear iE;subst B;exact .inr (.inl ⟨_,hl⟩)
 .intro a B;refine J (yF _ _) ?_;rcases aV.mp B with mr|B
  .clear B;subst mr;exact ky _
  .rw[az]at B;clear hl;subst B;exact uK iE
theorem J1{d:bU}{lk:af a_}{Q:cP}(iQ:i_<s.heap.objs.size)(hs:(d==i_)=N')(hm:s.heap.DictOfH (tk H w) d Z)(r:cO J' s.heap D bJ Z)(Rf:∃ n,lk=f n/\D[n]?=f d)(k:∀ N it,WalkAt H w J' s.heap D lk (bJ.map λp=>iJ p.1) it N->Q (.ref it) {s with heap:=N}):b_ (c_ H w) A (W_ (.ref d)) Q E s:=by
 refine zS (id hm) λo es ep ho hx hd he JV hn=>?_;have raw:gR s.heap d es ep:=⟨o,ho,hx,hd⟩;have iE:d<s.heap.objs.size:=mJ ho;refine Nf hs raw (k _ _ ⟨⟨[s.heap.objs.size,d],[s.heap.objs.size],λi h=>h.IsKeyIter s.heap.objs.size d i es.size ep/\gR h d es ep,λA hh=>?_,⟨⟨_,j5 _ X,X,X⟩,raw.at λo e=>kE _ e⟩,λi h st a B=>(show a=s.heap.objs.size by simpa using B)▸yW st.1,?_,?_,?_⟩,λa o e=>kE _ e,fL _ iQ⟩)
 .have W:=Walks.Q8 (w:=w) hh s.heap.objs.size d (jh iE) es ep;have W2:=Walks.weaken (P':=λi v=>∃ x,(bJ.map λp=>iJ p.1)[i]?=f x/\bB J' s.heap D x v) W λi v ⟨hi,e⟩=>by exact J e (yV hm r he hi)
  exact dT (by exact J (zN he) (J r.length (J (cz _) X)):es.size=(bJ.map λp=>iJ p.1).length) W2
 .intro a B;rw[az]at B;subst B;exact⟨dM _,_,j5 _ X⟩
 .intro a B;rcases aV.mp B with oU|B
  .clear B;subst oU;exact .inl (az.mpr X)
  .rw[az]at B;clear hs hm ho raw iE;subst B;exact .inr (.inr Rf)
 .intro a B;refine J (yF _ _) ?_;rcases aV.mp B with qA|B
  .clear B;subst qA;exact ky _
  .rw[az]at B;clear hs hm Rf ho raw;subst B;exact uK iE
theorem k8{Q:cP}(I:Inv H w b s D Y)(rx:bB b.heap s.heap D x v)(e:jd Y .plain x=f (Z,lk))(k:∀ N it,WalkAt H w b.heap s.heap D lk Z it N->Q (.ref it) {s with heap:=N}):b_ (c_ H w) A (W_ v) Q E s:=by
 cases x with
 |tup ys=>dsimp only[jd]at e;rw[dQ,rU]at e;obtain⟨vF,yI⟩:=e;subst vF;subst yI;refine aW (rx.bD) λa M aL t r=>?_;clear rx;subst aL;exact FV I.low t r k
 |ref n=>
  revert e;refine vX (λys ey e=>?_) (λys ey e=>?_)
  .revert k;refine gJ e ?_;intro k;refine bA (I.cW ey rx) λa M aL N L h3=>?_;clear rx;subst aL;exact J0 I.low L.isList h3 ⟨_,X,N⟩ k
  .revert k;refine gJ e ?_;intro k;refine bA (I.kI ey rx) λa M aL N L h3=>?_;clear rx;subst aL;exact J1 I.low (I.fresh a (dX N)).2 L h3 ⟨_,X,N⟩ k
 |_=>exact nS e
end
end Mine.Internal
end
section
open PySem PyProof.Rows
open AutoSeq1 (wpAny_loadPart')
set_option maxRecDepth 100000
namespace Mine.Internal
theorem Nk{vs:Model}{A:dd}{α:Type}{a:α}{Q:α->aJ->Prop}{E:cP}{s:aJ}(h:∀ b,Q b s):b_ vs A (pure a) Q E s:=cB (h a)
theorem wZ(l:bU)(B':T_ aY)(n:a_)(dct:af bU)(C:T_ (af aY)) :
  Meets (Builtin.«enumerate.__new__» ⟨[.type "enumerate",.ref l],[]⟩) (λO iv s=>s.heap.get? l=f {cls:=.type "tuple",dict:=dct,data:=.seq B' n,slots:=C} /\
   iv (.ok (.ret (.ref (s.heap.push {cls:=.type "tuple_iterator",data:=.fields #[.ref l,.int 0 0]}).objs.size)))
    {s with heap:=(s.heap.push {cls:=.type "tuple_iterator",data:=.fields #[.ref l,.int 0 0]}).push {cls:=.type "enumerate",data:=.fields #[.none,.bool N',.ref s.heap.objs.size,M_ 0,.none,.none]}}):=
 .of_wp λH w A iv s h=>by
  obtain⟨hp,g,d,tk,os⟩:=s;obtain⟨hl,h⟩:=h;have w0:=sub_enumerate;have hT:Heap.IsTuple (Shared.heap ⟨hp,g,d,tk,os⟩) l B':=⟨_,hl,X,n,X⟩
  wp_walk using TB hl
  refine wpAny_stack_any λst=>Nk λc=>?_;cases c <;>
  .wp_walk using TB hl,wpAny_pyIter_tuple hT
   exact aK _ X h
section
variable{w:de}{b s:aJ}{D F':cg}{Y T':St}{A:dd}{E:cP}
theorem vJ{Q:cP}(hL:s.heap.IsTuple l B')(h:∀ h',IsEnum h' (s.heap.objs.size+1) s.heap.objs.size 0 .none->h'.IsTupleIter s.heap.objs.size l 0->h'.objs.size=s.heap.objs.size+2 ->
   (∀ b o,s.heap.get? b=f o->h'.get? b=f o)->Q (.ref (s.heap.objs.size+1)) {s with heap:=h'}) :
  b_ (c_ H w) A (call (.type "enumerate") [.ref l]) Q E s:=by
 refine ib λGq zq=>?_;obtain⟨⟨c,dct,dt,C⟩,hl,U',n,hd⟩:=hL;replace U':c=.type "tuple":=U';replace hd:dt=.seq B' n:=hd;subst U' hd;refine zq ?_;clear zq
 refine callType_new F.called_enumerate (by decide) (F.typeCall_enumerate_1 _) (F.newCall_enumerate_1 _) (λobj=>F.args_object_init_2 obj _) F.entry_enumerate_new
  (wZ l B' n dct C) ⟨hl,?_⟩
 have hz:(s.heap.push {cls:=.type "tuple_iterator",data:=.fields #[.ref l,.int 0 0]}).objs.size=s.heap.objs.size+1:=yF ..;show _/\_;refine J hz ?_
 have he:IsEnum ((s.heap.push {cls:=.type "tuple_iterator",data:=.fields #[.ref l,.int 0 0]}).push
   {cls:=.type "enumerate",data:=.fields #[.none,.bool N',.ref s.heap.objs.size,M_ 0,.none,.none]}) (s.heap.objs.size+1) s.heap.objs.size 0 .none:=by
  have:=j5 (s.heap.push {cls:=.type "tuple_iterator",data:=.fields #[.ref l,.int 0 0]})
   (o:={cls:=.type "enumerate",data:=.fields #[.none,.bool N',.ref s.heap.objs.size,M_ 0,.none,.none]}) X
  rw[hz]at this;exact this
 exact⟨⟨_,he,X⟩,h _ he ⟨_,kE _ (j5 _ X),X,X⟩ (by exact J (yF _ _) (J hz X)) λb o x=>kE _ (kE _ x)⟩
theorem sx{Q:cP}(j4:s.heap.IsTupleIter it l i)(hl:s.heap.IsTuple l B')(hx:B'[i]?=f x)(hQ:∀ h',h'.IsTupleIter it l (i+1)->s_ it s.heap h'->Q x {s with heap:=h'}):b_ (c_ H w) A (R_ (.ref it)) Q E s:=by
 refine ib λGq zq=>bZ (id j4) λo ho U' hd=>?_;obtain⟨ol,Z6,_,nl,Z7⟩:=hl;refine zq ?_;clear zq;unfold R_
 refine aT (uT (name:=Q_ "__next__") j4.typeIs Qv
  (iH Qv j4.typeIs YX ?_ (YV _)))
 show b_ _ _ (field (.ref it) 0 >>= _) _ _ s;refine aT (qG ho hd (x:=.ref l) X ?_);refine J (ak (show ¬ ((H_ l==F_)=V) from Tt)) ?_;refine aT (qG ho hd (x:=.int i 0) X ?_);refine aT (Mq Z6 Z7 ?_);(refine J (CT _) ?_;try dsimp only;refine J hx ?_;try dsimp only);refine aT (Dc ho hd (by exact c9 _) (cB ⟨x,X,cB (hQ _ ?_ (qZ ..))⟩))
 exact⟨_,AU _ ho (Mg (zJ hd _)),(Mf ..).trans U',by
  refine J (zJ hd _) ?_;simp[M_]⟩
theorem tO{Q:cP}(hh:A.handled=R)(j4:s.heap.IsTupleIter it l i)(hl:s.heap.IsTuple l B')(hx:B'[i]?=R)(hE:∀ h' e,Z? it s.heap h'->(∃ o,h'.get? e=f o/\o.cls=.type "StopIteration")->E (.ref e) {s with heap:=h'}):b_ (c_ H w) A (R_ (.ref it)) Q E s:=by
 refine bZ (id j4) λo ho U' hd=>?_;obtain⟨ol,Z6,_,nl,Z7⟩:=hl;unfold R_
 refine aT (uT (name:=Q_ "__next__") j4.typeIs Qv
  (iH Qv j4.typeIs YX ?_ (YV _)))
 show b_ _ _ (field (.ref it) 0 >>= _) _ _ s;refine aT (qG ho hd (x:=.ref l) X ?_);refine J (ak (show ¬ ((H_ l==F_)=V) from Tt)) ?_;refine aT (qG ho hd (x:=.int i 0) X ?_);refine aT (Mq Z6 Z7 ?_);(refine J (CT _) ?_;try dsimp only;refine J hx ?_;try dsimp only);refine aT (qH (aT (Dc ho hd (by exact iG _) ?_)));refine aT ?_;simp only[newExc,newTuple];refine aT (kX ?_ (by size_fits));refine aT (m:=X_ _ _) (r7 (a:=F_) (by first|rfl|((rw[X_];try dsimp only);rfl)) (kX ?_ (by size_fits)));simp -iota only [raiseNew];refine aT (wpAny_handled ?_)
 first|rw[show A.in1.handled=R from hh]|rw[hh]
 exact aT (cB (wpAny_throw (hE _ _ (((qZ ..).extBut.push _).push _) ⟨_,j5 _ X,X⟩)))
theorem Draws.tuple(hh:A.handled=R)(it l:bU)(ej:l≠it)(B':T_ aY):Draws H w A it [it,l] B'.size (λi v=>B'[i]?=f v) (λi h=>h.IsTupleIter it l i/\h.IsTuple l B') where
 live:=λO O st=>ah st.1 λo ho O=>⟨o,ho⟩
 frame:=λO O O st hk=>⟨ah st.1 λo ho r=>⟨o,hk it (by exact aQ) o ho,r⟩,st.2.at λo e=>hk l (by exact bg _ aQ) o e⟩
 item:=λi s Q E hi st hQ=>sx st.1 st.2 (x:=B'[i]) (by simp[hi]) λh' Bh Fy=>hQ _ h' s.toks (by simp[hi]) ⟨Bh,st.2.extBut Fy.extBut ej⟩ Fy
 done:=λs Q E st hE=>tO hh st.1 st.2 (by simp) hE
theorem J2:∀(Z:al) (n i:a_) (x:AV),Z[i]?=f x->(qL n Z)[i]?=f (.tup [.int ((n+i:a_):G),x]):=λw'=>by induction w' with|nil=>intro O O O h;exact nS h|cons y Z ih=>intro n z2;cases z2 with|zero=>intro x h;simp at h;subst h;rfl|succ i=>intro x h;dsimp only[qL];simp -iota only [U3]at h ⊢;refine J (ih (n+1) i x h) ?_;congr 4;lia
theorem Bq:∀(Z:al) (n:a_),(qL n Z).length=Z.length:=λw'=>by induction w' with|nil=>intro O;exact X|cons O Z ih=>intro n;dsimp only[qL];simp only[fE,fE,ih]
theorem J3{Q:cP}(I:Inv H w b s D Y)(rx:bB b.heap s.heap D x v)(e:jd Y .enum x=f (Z,lk))(k:∀ N it,k0 H w V b.heap s.heap D lk Z it N->Q (.ref it) {s with heap:=N}):b_ (c_ H w) A (call (.type "enumerate") [v]) (λu cy=>b_ (c_ H w) A (W_ u) Q E cy) E s:=by
 have key:∀(l:bU) (M:dI) (ys:al) (h':cH) (St:a_->cH->Prop),aG b.heap s.heap D ys M->Z=qL 0 ys->l<s.heap.objs.size ->
   (∀ A':dd,A'.handled=R->Draws H w A' s.heap.objs.size [s.heap.objs.size,l] M.toArray.size (λi v=>M.toArray[i]?=f v) St)->St 0 h' ->
   IsEnum h' (s.heap.objs.size+1) s.heap.objs.size 0 .none->h'.objs.size=s.heap.objs.size+2->(∀ b o,s.heap.get? b=f o->h'.get? b=f o)->(∀ i h,St i h->∃ o M,h.get? s.heap.objs.size=f o/\o.data=.fields M)->(∃ o,h'.get? s.heap.objs.size=f o) ->
   ((∃ B',s.heap.IsTuple l B')\/∃ n,lk=f n/\D[n]?=f l)->k0 H w V b.heap s.heap D lk Z (s.heap.objs.size+1) h':=by
  intro l M ys h' St r hx iE ρ st he hz hk hf ho Rd;clear e k;subst hx;have hlen:M.toArray.size=(qL 0 ys).length:=J dZ (J r.length (J (Bq _ _) X));refine⟨⟨[s.heap.objs.size+1,s.heap.objs.size,l],[s.heap.objs.size+1,s.heap.objs.size],λi h=>(∃ old,IsEnum h (s.heap.objs.size+1) s.heap.objs.size i old)/\St i h,λA' target hh ht=>?_,⟨⟨_,he⟩,st⟩,?_,?_,?_⟩,hk,?_⟩
  .have W:=WalksT.enumerateD (A:=A') (ρ A'.in1 hh) (s.heap.objs.size+1) (rZ (ky _)) (by
    intro hm;rcases aV.mp hm with q|q
    .exact g_ q (rZ (ky _))
    .rw[az]at q
     exact g_ (q▸iE) (wu.mpr (CW _))) (by exact aQ)
   rw[hlen]at W;cases target with|Tuple elts c pos=>(refine Turn.Nj W ?_;rintro i T vals h ⟨t,x,hx,rfl⟩ hT;refine ah (r.get' (i:=i) (v:=x) (by simpa using hx)) λz Nl Nm=>aK _ (J2 _ 0 i z Nl) (.inr ⟨T,[.int i t,x],_,X,X,hT,aG.cons ?_ (aG.cons Nm aG.nil)⟩);exact J (wx _) (bB.int _ _))|_=>exact fT (ht X)
  .intro a B;rcases aV.mp B with eG|B
   .clear B;subst eG;refine⟨?_,_,he⟩;cases q:s.heap.get? (s.heap.objs.size+1) with|none=>rfl|some o=>exact g_ (mJ q) (wu.mpr (CW _))
   .rw[az]at B;subst B;exact⟨dM _,ho⟩
  .intro a B;rcases aV.mp B with iC|B
   .clear B;subst iC;exact .inl (by exact aQ)
   .rcases aV.mp B with j6|B
    .clear B;subst j6;exact .inl (by exact bg _ aQ)
    .rw[az]at B;clear iE ρ;subst B;exact .inr Rd
  .rintro i h ⟨⟨old,N⟩,L⟩ a B;rcases aV.mp B with mr|B
   .clear B;subst mr;exact uZ _ _ N X
   .rw[az]at B;subst B;exact hf i h L
  .exact J hz (rY I.low (by simp))
 cases x with|tup ys=>(dsimp only[jd]at e;rw[dQ,rU]at e;obtain⟨e1,oU⟩:=e;subst oU;refine aW (rx.bD) λa M aL t r=>?_;clear rx;subst aL;have iE:a<s.heap.objs.size:=ah t λo ho O=>mJ ho;refine vJ t λh' he j4 hz hk=>wpAny_pyIter_enum he (k h' _ (key a M ys h' _ r e1.symm iE (λA' hh=>Draws.tuple hh _ a (jh iE) M.toArray) ⟨j4,t.at λo e=>hk _ _ e⟩ he hz hk (λi h st=>bZ st.1 λo N O L=>⟨o,_,N,L⟩) (ah j4 λo ho O=>⟨o,ho⟩) (.inl ⟨_,t⟩))))|ref n=>(revert e;refine lT (λys ey e=>?_);simp only[dQ,rU]at e;obtain⟨e1,qA⟩:=e;subst qA;refine bA (I.cW ey rx) λa M aL N L h3=>?_;clear rx;subst aL;have iE:a<s.heap.objs.size:=cC L λO ho=>mJ ho;refine call_enumerate_list L.isList λh' he j4 hz hk=>wpAny_pyIter_enum he (k h' _ (key a M ys h' _ h3 e1.symm iE (λA' hh=>Draws.list hh _ a (jh iE) M.toArray) ⟨j4,L.isList.at λo e=>hk _ _ e⟩ he hz hk (λi h st=>bZ st.1 λo N O L=>⟨o,_,N,L⟩) (ah j4 λo ho O=>⟨o,ho⟩) (.inr ⟨_,X,N⟩))))|_=>exact nS e
theorem yX(n:G):(gZ n).length=n.toNat:=by(dsimp only[gZ];simp)
theorem FW(h:i<n.toNat):(gZ n)[i]?=f (.int i):=by dsimp only[gZ];(refine J mL ?_;refine J (Y3 h) ?_);rfl
theorem rangeSize_one(n:G):Builtin.Range.rangeSize 0 n 1=(n.toNat:G):=by unfold Builtin.Range.rangeSize;simp;grind
theorem FX{Q:cP}(I:Inv H w b s D Y)(rx:bB b.heap s.heap D x v)(e:jd Y .range x=f (Z,lk))(k:∀ N it t,k0 H w N' b.heap s.heap D lk Z it N->Q (.ref it) {s with heap:=N,toks:=t}):b_ (c_ H w) A (call (.type "range") [v]) (λu cy=>b_ (c_ H w) A (W_ u) Q E cy) E s:=by
 cases x with
 |int n=>
  revert e;refine aZ (λhn e=>?_) nS;revert k;refine gJ e ?_;intro k;obtain⟨t,vF⟩:=rx.int_inv;clear rx;subst vF;refine call_range_1 ?_;obtain⟨h0,N⟩:=hn;refine wpAny_pyIter_range (a:=0) (b:=n) (c:=1) (t:=s.toks) (u:=t) (v:=s.toks+1) (s:={s with heap:=_,toks:=_}) (j5 _ X) ?_ ?_
  .unfold Builtin.Range.small;refine J (rangeSize_one _) ?_
   have:(n.toNat:G)=n:=Int.toNat_of_nonneg h0
   refine J this ?_;simp[Builtin.Range.rangeFitsLong];grind
  .have hkp:∀ a o,s.heap.get? a=f o->(s.heap.push {cls:=.type "range",data:=.fields #[.int 0 s.toks,.int n t,.int 1 (s.toks+1)]}).get? a=f o:=λa o e=>kE _ e;have iQ:i_<(s.heap.push {cls:=.type "range",data:=.fields #[.int 0 s.toks,.int n t,.int 1 (s.toks+1)]}).objs.size:=fL _ I.low;show Q (.ref (s.heap.push {cls:=.type "range",data:=.fields #[.int 0 s.toks,.int n t,.int 1 (s.toks+1)]}).objs.size) {s with heap:=(s.heap.push {cls:=.type "range",data:=.fields #[.int 0 s.toks,.int n t,.int 1 (s.toks+1)]}).push _,toks:=s.toks+1+1};generalize s.heap.push {cls:=.type "range",data:=.fields #[.int 0 s.toks,.int n t,.int 1 (s.toks+1)]}=hp at hkp iQ ⊢;have jr:s.heap.get? hp.objs.size=R:=by cases q:s.heap.get? hp.objs.size with|none=>rfl|some o=>exact g_ (mJ (hkp _ _ q)) (CY _)
   refine k _ _ _ ⟨⟨[hp.objs.size],[hp.objs.size],λi h=>IsRangeIter h hp.objs.size (0+(i:a_)*1) ((n.toNat:G)-(i:a_)) 1,λA' target hh O=>?_,?_,?_,?_,?_⟩,λa o e=>kE _ (hkp a o e),fL _ iQ⟩
   .refine J (yX _) (Turn.ID (P:=λi v=>i<n.toNat/\∃ t,v=.int (0+i*1) t) ?_ (λi h st=>⟨_,_,"range_iterator",st,X,X,by decide⟩) λi v h ⟨hi,t,e⟩=>?_)
    .have W:=Walks.range (prog:=H) (w:=w) hh hp.objs.size 0 1 n.toNat;exact⟨W.sub,W.frame,λi s' Q' E' hi st yT=>W.item i s' Q' E' hi st λv h' tk hv=>yT v h' tk ⟨hi,hv⟩,W.done,W.self⟩
    .refine aK _ (FW hi) (.inl (J e ?_))
     have:(0+(i:G)*1)=(i:G):=by simp
     exact J this (bB.int _ _)
   .show IsRangeIter _ _ _ _ _;unfold IsRangeIter;refine J (j5 _ X) (J (rangeSize_one _) ?_);rfl
   .intro a B;rw[az]at B;subst B;exact⟨jr,_,j5 _ X⟩
   .intro a B;exact .inl B
   .intro i h st a B;rw[az]at B;subst B;exact uZ _ _ st X
 |_=>exact nS e
end
end Mine.Internal
end
section
open PySem PyProof.Rows
set_option maxRecDepth 100000
namespace Mine.Internal
noncomputable abbrev rh:String:="list_reverseiterator"
theorem zZ:Manifest.owners.lookup (String.ofList ['r','o','t','a','r','e','t','i','e','s','r','e','v','e','r','_','t','s','i','l'].reverse)=f Manifest.sig_list_reverseiterator:=by kernel_rfl
theorem gN:Slot rh "__next__" "list_reverseiterator.__next__":=
 .of (owner:=rh) (n:="__next__") (by refine J (Ml _ _) (J Mj ?_);kernel_rfl) (by decide +kernel) (by decide +kernel) (by decide +kernel) (.inl (by decide +kernel)) (by refine J (HY _ _) ?_;kernel_rfl)
theorem oZ:entryFor table "list_reverseiterator.__next__"=f Builtin.«list_reverseiterator.__next__»:=entryFor_of_tree (by kernel_rfl)
theorem qQ(a:aY):argsOk "list_reverseiterator.__next__" ⟨[a],[]⟩:=by unfold argsOk;refine J (signature?_of (id:="list_reverseiterator.__next__") (n:=['_','_','t','x','e','n','_','_']) (o:=['r','o','t','a','r','e','t','i','e','s','r','e','v','e','r','_','t','s','i','l']) (by kernel_rfl) zZ) ?_;kernel_rfl
theorem qR:Slot rh "__iter__" "list_reverseiterator.__iter__":=
 .of (owner:=rh) (n:="__iter__") (by refine J (Ml _ _) (J Mj ?_);kernel_rfl) (by decide +kernel) (by decide +kernel) (by decide +kernel) (.inl (by decide +kernel)) (by refine J (HY _ _) ?_;kernel_rfl)
theorem yY(a:aY):argsOk "list_reverseiterator.__iter__" ⟨[a],[]⟩:=by unfold argsOk;refine J (signature?_of (id:="list_reverseiterator.__iter__") (n:=['_','_','r','e','t','i','_','_']) (o:=['r','o','t','a','r','e','t','i','e','s','r','e','v','e','r','_','t','s','i','l']) (by kernel_rfl) zZ) ?_;kernel_rfl
theorem w4:entryFor table "list_reverseiterator.__iter__"=f Builtin.«dict_keyiterator.__iter__»:=
 entryFor_alias (id':="dict_keyiterator.__iter__") (by kernel_rfl) (by first|rfl|decide +kernel|(unfold String.splitOn;simp +decide [String.splitOnAux])) (by decide +kernel) (by kernel_rfl)
theorem IE:mroOf (.type "reversed")=pure [.type "reversed",.type "object"]:=by refine J (mroOf_type _) ?_;kernel_rfl
theorem Rg:typeLookup (.type "reversed") "__new__"=pure (f (.builtin "reversed.__new__")):=by refine J (Ml _ _) (J Mj ?_);kernel_rfl
theorem Nn:Bind.madeBy (.type "reversed")=pure (f "reversed.__new__"):=madeBy_type IE Rg (by decide +kernel)
theorem yZ:entryFor table "reversed.__new__"=f Builtin.«reversed.__new__»:=entryFor_of_tree (by kernel_rfl)
theorem za:plainId "reversed.__new__"=V:=by decide +kernel
theorem Rh:isSubtype (.type "reversed") (.type "reversed")=pure V:=by refine J (HY _ _) ?_;kernel_rfl
theorem DB:isSubtype (.type rh) (.type "reversed")=pure N':=by refine J (HY _ _) ?_;kernel_rfl
def u9(h:cH)(a l:bU)(i:G):Prop:=∃ o,h.get? a=f o/\o.cls=.type rh/\o.data=.fields #[.ref l,M_ i]
theorem u9.typeIs{s:aJ}{a l:bU}{i:G}(x:u9 s.heap a l i):s.TypeIs (.ref a) rh:=bZ x λo ho U' O=>⟨o,ho,U'⟩
section
variable{w:de}{b s:aJ}{D F':cg}{Y T':St}{A:dd}{E:cP}
theorem DC{Q:cP}(hl:s.heap.IsList l B')(h:Q (.ref s.heap.objs.size) {s with heap:=s.heap.push {cls:=.type rh,data:=.fields #[.ref l,M_ ((B'.size:G)-1)]}}) :
  b_ (c_ H w) A (call (.builtin "list.__reversed__") [.ref l]) Q E s:=by
 obtain⟨o,ho,U',n,hd⟩:=id hl;refine iH UX hl.typeIs F.entry_list_reversed ?_ (F.args_list_reversed_1 _);show b_ _ _ (u0 (.ref l) >>= _) _ _ s;exact aT (Ia ho hd (aT (kX (cB ⟨_,X,h⟩))))
theorem Br{Q₁:cP}(hl:s.heap.IsList l B')(h:Q₁ (.ref s.heap.objs.size) {s with heap:=s.heap.push {cls:=.type rh,data:=.fields #[.ref l,M_ ((B'.size:G)-1)]}}) :
  U_ (c_ H w) A (.call (.builtin "reversed.__new__") ⟨[.type "reversed",.ref l],[]⟩) (wants Q₁ E) s:=by
 refine codeAny_call_builtin za yZ (r7 (show checkBuiltinCall "reversed.__new__" ⟨[.type "reversed",.ref l],[]⟩=pure () by kernel_rfl) ?_);have w0:=Rh;have hnc:Builtin.SmallTypes.newClass "reversed" ⟨[.type "reversed",.ref l],[]⟩=pure (.type "reversed",[.ref l]):=by unfold Builtin.SmallTypes.newClass;rfl
 unfold Builtin.«reversed.__new__»;refine aT (r7 hnc ?_)
 try dsimp only
 refine aT (r7 (a:=()) (by first|rfl|kernel_rfl) (aT (r7 (a:=()) (by first|rfl|kernel_rfl) ?_)))
 try dsimp only
 refine aT (Mr hl.typeIs UX.lookup ?_);dsimp only;refine aT (r7 (UX.bind _) ?_);dsimp only;exact J (ak (show ¬ ((Value.builtin "list.__reversed__"==F_)=V) from by decide)) (aT (qH (aT (m:=runValue (.call (.builtin "list.__reversed__") ⟨[.ref l],[]⟩)) (show b_ _ _ (call (.builtin "list.__reversed__") [.ref l]) _ _ _ from DC hl (cB h)))))
theorem Np{Q:cP}(hl:s.heap.IsList l B')(h:Q (.ref s.heap.objs.size) {s with heap:=s.heap.push {cls:=.type rh,data:=.fields #[.ref l,M_ ((B'.size:G)-1)]}}) :
  b_ (c_ H w) A (call (.type "reversed") [.ref l]) Q E s:=by
 have ahi:=IE;have af4:=Nn;have w0:=DB;have hct:checkTypeCall "reversed" ⟨[.ref l],[]⟩=pure ():=by kernel_rfl
 have N:(y? "reversed"==y? "type")=N':=by decide +kernel
 have L:((Manifest.find? "reversed").bind (·.mro.findSome? λt=>(Manifest.find? t).bind λb=>if b.noNew then f V else if b.attrs.any (·.1=="__new__") then f N' else R)).getD N'=N':=by decide +kernel
 refine wpAny_call (codeAny_of_tree ?_);refine cB ⟨Code.quiet_builtin _ (by decide +kernel),codeAny_builtin F.entry_type_call ?_⟩;refine J (Around.under_plain (weight_type_call_type "reversed" [.ref l] []) X) ?_;have jr:=Br (w:=w) (A:=A.in1) (E:=E) (Q₁:=λobj cy=>obj=.ref s.heap.objs.size/\cy={s with heap:=s.heap.push {cls:=.type rh,data:=.fields #[.ref l,M_ ((B'.size:G)-1)]}}) hl ⟨X,X⟩
 repeat (any_goals (first|assumption|wp_step))
 refine codeAny_mono jr λr cy hr=>?_;cases r with|error e=>exact hr|ok fl=>
  cases fl with
  |ret obj=>
   obtain⟨eG,iC⟩:=hr;subst eG;subst iC;have hT:Shared.TypeIs {s with heap:=s.heap.push {cls:=.type rh,data:=.fields #[.ref l,M_ ((B'.size:G)-1)]}} (.ref s.heap.objs.size) rh:=⟨_,j5 _ X,X⟩
   repeat (any_goals (first|assumption|wp_step))
  |_=>exact hr.elim
theorem zc{it l:bU}{i:a_}{Q:af aY->aJ->Prop}(j4:u9 s.heap it l (i:G))(hl:s.heap.IsList l B')(hx:B'[i]?=f x)(hQ:∀ h',u9 h' it l ((i:G)-1)->s_ it s.heap h'->Q (f x) {s with heap:=h'}):b_ (c_ H w) A (N_ (.ref it)) Q E s:=by
 refine bZ (id j4) λo ho U' hd=>?_;obtain⟨ol,Z6,_,nl,Z7⟩:=hl;unfold N_;refine aT (C9 (uT (name:=Q_ "__next__") j4.typeIs gN (iH gN j4.typeIs oZ ?_ (qQ _))));show b_ _ _ (field (.ref it) 1 >>= _) _ _ s;refine aT (qG ho hd (x:=M_ (i:G)) X ?_);show b_ _ _ (if (i:G)<0 then _ else _) _ _ s;refine J (ak (by simp)) ?_;refine aT (qG ho hd (x:=.ref l) X ?_);refine aT (Mq Z6 Z7 ?_);(refine J (CT _) ?_;try dsimp only;refine J hx ?_;try dsimp only);refine aT (Dc ho hd (by exact c9 _) (aT (cB (cB ⟨x,X,cB (hQ _ ?_ (qZ ..))⟩))));exact kB _ (AU _ ho (Mg (zJ hd _))) ((Mf ..).trans U') (by exact J (zJ hd _) X)
theorem Bt{Q:af aY->aJ->Prop}(hh:A.handled=R)(j4:u9 s.heap it l (-1))(hQ:∀ h',Z? it s.heap h'->Q R {s with heap:=h'}) :
  b_ (c_ H w) A (N_ (.ref it)) Q E s:=by
 refine bZ (id j4) λo ho U' hd=>?_;unfold N_;refine aT (C9 (uT (name:=Q_ "__next__") j4.typeIs gN (iH gN j4.typeIs oZ ?_ (qQ _))));show b_ _ _ (field (.ref it) 1 >>= _) _ _ s;refine aT (qG ho hd (x:=M_ (-1)) X ?_);show b_ _ _ (if (-1:G)<0 then _ else _) _ _ s;refine J (ai (by decide)) ?_;refine aT (qH ?_);refine aT ?_;refine aT ?_;simp -iota only [newExc,newTuple];refine aT (kX ?_ (by size_fits));refine aT (m:=X_ _ _) (r7 (a:=F_) (by first|rfl|((exact(X_).symm▸X);rfl)) ?_);refine kX ?_ (by size_fits);simp -iota only [raiseNew];refine aT (wpAny_handled ?_)
 first|rw[show A.in1.handled=R from hh]|rw[hh]
 refine aT (cB (wpAny_throw ?_));refine aT (wF (T:="StopIteration") (b:=V) ⟨_,j5 _ X,X⟩ isSubtype_stop ?_);exact cB (hQ _ (((Heap.ExtBut.refl _ _).push _).push _))
theorem DD{Q:cP}(j4:u9 s.heap it l i)(h:Q (.ref it) s):b_ (c_ H w) A (W_ (.ref it)) Q E s:=by refine wpAny_pyIter_slot j4.typeIs qR (iH qR j4.typeIs w4 ?_ (yY _));exact cB ⟨_,X,rh,_,j4.typeIs,gN.lookup,h⟩
theorem Nq{Q:cP}(I:Inv H w b s D Y)(rx:bB b.heap s.heap D x v)(e:jd Y .rev x=f (Z,lk))(k:∀ N it,k0 H w N' b.heap s.heap D lk Z it N->Q (.ref it) {s with heap:=N}):b_ (c_ H w) A (call (.type "reversed") [v]) (λu cy=>b_ (c_ H w) A (W_ u) Q E cy) E s:=by
 cases x with
 |ref n=>
  revert e;refine lT (λys ey e=>?_);revert k;refine gJ e ?_;intro k;refine bA (I.cW ey rx) λl M aL N L h3=>?_;subst aL;have iE:l<s.heap.objs.size:=cC L λO ho=>mJ ho;have hlen:M.toArray.size=ys.length:=dZ.trans h3.length;refine Np L.isList ?_;have We:u9 (s.heap.push {cls:=.type rh,data:=.fields #[.ref l,M_ ((M.toArray.size:G)-1)]}) s.heap.objs.size l ((M.toArray.size:G)-1):=⟨_,j5 _ X,X,X⟩;refine DD (s:={s with heap:=_}) We (k _ _ ⟨⟨[s.heap.objs.size,l],[s.heap.objs.size],λi h=>i<=ys.length/\u9 h s.heap.objs.size l ((ys.length:G)-1-(i:G))/\h.IsList l M.toArray,λA' target hh O=>?_,?_,?_,?_,?_⟩,λa o e=>kE _ e,fL _ I.low⟩)
  .refine J uR ⟨λb hb=>by simp at hb;simp[hb],λi h h' st hk=>⟨st.1,?_,st.2.2.at λo e=>hk l (by exact bg _ aQ) o e⟩,λi s' Q' E' hi st yT=>?_,λs' Q' E' st yT=>?_,λi s' Q' E' st yT=>DD st.2.1 yT⟩
   .exact ah (st.2.1) λo ho r=>aK o (hk _ (by exact aQ) o ho) r
   .obtain⟨_,j4,hl⟩:=st;have hj:(ys.length:G)-1-(i:G)=((ys.length-1-i:a_):G):=Vr hi;rw[hj]at j4;have Z8:ys.length-1-i<ys.length:=My hi;refine ah (h3.get (i:=ys.length-1-i) (x:=ys[ys.length-1-i]) (lL Z8)) λv hv1 hv2=>?_;refine zc j4 hl (x:=v) (by simpa using hv1) λh' Bh Fy=>yT v _ λQ2 E2 Z9=>u7 ?_ (Z9 h' s'.toks ⟨_,?_,.inl hv2⟩ ⟨hi,?_,hl.extBut Fy.extBut (jh iE)⟩ λb o hb e=>Fy.extBut b o (λq=>hb (by simp[q])) e)
    .obtain⟨o,ho,U',hd⟩:=Bh;exact Dj o _ _ ho U' hd (by decide)
    .refine J (JJ hi) ?_;exact lL Z8
    .have:((ys.length-1-i:a_):G)-1=(ys.length:G)-1-((i+1:a_):G):=(cb (·-1) hj.symm).trans (Int.sub_sub _ _ _)
     exact dT this Bh
   .obtain⟨_,j4,hl⟩:=st;have hj:(ys.length:G)-1-(ys.length:G) = -1:=by lia
    rw[hj]at j4;exact Bt hh j4 λh' QY=>yT h' s'.toks λb o hb e=>QY b o (λq=>hb (by simp[q])) e
  .refine qM (ji _) ?_ (L.isList.at λo e=>kE _ e);refine dT hlen ?_
   have:((M.toArray.size:G)-1-((0:a_):G))=(M.toArray.size:G)-1:=by simp
   exact J this We
  .intro a B;rw[az]at B;subst B;exact⟨dM _,_,j5 _ X⟩
  .intro a B;rcases aV.mp B with rfl|B
   .exact .inl (by exact aQ)
   .rw[az]at B;clear L rx iE We;subst B;exact .inr (.inr ⟨_,X,N⟩)
  .intro i h st a B;rw[az]at B;subst B;refine bZ (st.2.1) λo g1 O g2=>?_;exact uZ o _ g1 g2
 |_=>exact nS e
end
theorem Bu(K':a_->G):∀ n,W? K' (n+1)=K' 0+W? (λi=>K' (i+1)) n:=λw'=>by induction w' with|zero=>simp[W?]|succ n ih=>simp -iota only [W?,ih,W?];lia
noncomputable def intAt (Z:al) (i:a_):G:=match Z[i]? with|f (.int z)=>z|_=>0
noncomputable def tP (Z:al) (i:a_):e_:=match Z[i]? with|f (.bool z)=>z|_=>N'
theorem nK(x:AV)(Z:al)(i:a_):intAt (x::Z) (i+1)=intAt Z i:=by rfl
theorem FY:∀(Z:al) (a z:G),sumInts Z a=f z->z=a+W? (intAt Z) Z.length/\∀(i:a_) x,Z[i]?=f x->x=.int (intAt Z i):=λw'=>by induction w' with|nil=>intro a z h;(dsimp only[sumInts]at h;rw[dQ]at h);subst h;exact⟨by simp[W?],λi x h=>by simp at h⟩|cons x Z ih=>
  intro a z h
  cases x with
  |int i=>
   dsimp only[sumInts]at h;refine cF (ih _ _ h) λN L=>?_;refine⟨?_,λj y hy=>?_⟩
   .refine J fE (J (Bu _ _) (J N ?_))
    have:(λj=>intAt (AV.int i::Z) (j+1))=intAt Z:=funext λj=>nK _ _ _
    refine J this ?_;dsimp only[intAt];simp only[QE];lia
   .cases j with|zero=>simp at hy;subst hy;rfl|succ j=>exact J (nK _ _ _) (L j y (by simpa using hy))
  |_=>exact nS h
theorem Bv:∀(Z:al) (a z:G),iN Z a=f z->∀(i:a_) x,Z[i]?=f x->x=.int (intAt Z i):=λw'=>by induction w' with|nil=>intro O O O i x h;exact nS h|cons x Z ih=>intro a z h i y hy;cases x with|int k=>(dsimp only[iN]at h;cases i with|zero=>simp at hy;subst hy;rfl|succ j=>exact J (nK _ _ _) (ih _ _ h j y (by simpa using hy)))|_=>exact nS h
theorem FZ(val:a_->G):∀(Z:al) (k:a_) (z:G),iN Z (val (H? (λi j=>decide (val i>val j)) k))=f z->(∀(i:a_) x,Z[i]?=f x->x=.int (val (k+1+i))) ->
  z=val (H? (λi j=>decide (val i>val j)) (k+Z.length)):=by
 intro w';induction w' with|nil=>intro k z h O;(dsimp only[iN]at h;rw[dQ]at h);simp[h]|cons x Z ih=>
  intro k z h hx;have e0:=hx 0 x X;subst e0;dsimp only[iN]at h
  have e1:(if val (H? (λi j=>decide (val i>val j)) k)<val (k+1+0) then val (k+1+0) else val (H? (λi j=>decide (val i>val j)) k))=val (H? (λi j=>decide (val i>val j)) (k+1)):=by
   simp only[H?,Nat.add_zero];by_cases q:val (H? (λi j=>decide (val i>val j)) k)<val (k+1)
   .simp[q]
   .simp[q]
  rw[e1]at h
  have:=ih (k+1) z h λi y hy=>by
   have:=hx (i+1) y (by simpa using hy)
   refine J this ?_;congr 2;lia
  refine J fE (J this ?_);congr 2;lia
theorem w5:∀(Z:al) (l:d_ e_),boolsOf Z=f l->l=(A_ Z.length).map (tP Z)/\∀(i:a_) x,Z[i]?=f x->x=.bool (tP Z i):=λw'=>by induction w' with|nil=>intro l h;(dsimp only[boolsOf]at h;rw[dQ]at h);subst h;exact⟨X,λi x h=>by simp at h⟩|cons x Z ih=>
  intro l h
  cases x with
  |bool c=>
   revert h;refine si (λl' hl h=>?_);simp only[dQ]at h;subst h;obtain⟨N,L⟩:=ih l' hl;refine⟨?_,λj y hy=>?_⟩
   .simp only[fE,List.range_succ_eq_map,bW,fG,N];congr 1
   .cases j with|zero=>simp at hy;subst hy;rfl|succ j=>exact L j y (by simpa using hy)
  |_=>exact nS h
theorem nL(e:jK Y x=f Z):∃ lk,jd Y .plain x=f (Z,lk):=by cases x with|tup ys=>(dsimp only[jK]at e;rw[dQ]at e);subst e;exact⟨_,X⟩|ref n=>(dsimp only[jK]at e;dsimp only[jd];cases q:Y.get n with|none=>rw[q]at e;exact nS e|some o=>rw[q]at e;(clear q;cases o)<;>exact⟨f n,cb (λx=>f (x,f n)) (aw e)⟩)|_=>exact nS e
noncomputable def k9:BI->aY
 | .abs=>.builtin "abs" | .len=>.builtin "len" | .list=>.type "list" | .tuple=>.type "tuple" | .dict=>.type "dict" | .sum=>.builtin "sum" | .yH=>.builtin "max" | .max2=>.builtin "max"
 | .min2=>.builtin "min" | .any=>.builtin "any" | .all=>.builtin "all" | .int=>.type "int"
section
variable{w:de}{b s:aJ}{D F':cg}{Y T':St}{A:dd}{E:cP}
theorem WalkAt.after(I:Inv H w b s D Y){N h':cH}{lk:af a_}{Z:al}{it:bU}{wr:cg}(tN:∀ a∈wr,s.heap.get? a=R/\∃ o,N.get? a=f o)(hk:∀ a o,s.heap.get? a=f o->N.get? a=f o)(Fz:∀ a o,a∉wr->N.get? a=f o->h'.get? a=f o):(∀ a o,s.heap.get? a=f o->h'.get? a=f o)/\i_<h'.objs.size:=by
 have h:∀ a o,s.heap.get? a=f o->h'.get? a=f o:=λa o e=>Fz a o (λm=>by rw[(tN a m).1]at e;exact nS e) (hk a o e);exact⟨h,I.g7 h⟩
theorem oB(r:aG J' h D [x] M):∃ v,M=[v]/\bB J' h D x v:=by dsimp only[aG]at r;obtain⟨v,r',eG,h,iC⟩:=r;subst eG;subst iC;exact aK v X h
theorem Ue(r:aG J' h D [x,y] M):∃ u v,M=[u,v]/\bB J' h D x u/\bB J' h D y v:=by refine Dh λGq kq=>?_;dsimp only[aG]at r;obtain⟨v,r',j6,h,u,r'',mr,L,oU⟩:=r;subst j6;subst mr;subst oU;exact kq v u X h L
theorem aaa{k:BI}{as:al}{M:dI}{z:AV}{Q:cP}(hA:FL A)(I:Inv H w b s D Y)(r:aG b.heap s.heap D as M)(e:je Y k as=f (T',z))(K:fK H w b s D Y T' z Q) :
  b_ (c_ H w) A (call (k9 k) M) Q E s:=by
 cases k with
 |abs=>dsimp only[je]at e;revert e;refine T1 (λO br e=>?_);subst br;revert K;refine gJ e ?_;intro K;refine ah (oB r) λv bK r1=>?_;subst bK;refine cC (r1.int_inv) λt aL=>?_;clear r1 r;subst aL;exact call_abs_int λu tk=>K.tok I (bB.int _ _)
 |int=>dsimp only[je]at e;revert e;refine T1 (λO br e=>?_);subst br;revert K;refine gJ e ?_;intro K;refine ah (oB r) λv bK r1=>?_;subst bK;refine cC (r1.int_inv) λt aL=>?_;clear r1 r;subst aL;exact call_int_int (K.here I (bB.int _ _))
 |len=>
  dsimp only[je]at e;revert e;refine ZN (λZ br e=>?_) (λn br e=>?_);subst br;rotate_left;subst br;rotate_left
  .revert e;refine aZ (λhz e=>?_) nS;revert K;refine gJ e ?_;intro K;refine ah (oB r) λv bK r1=>?_;subst bK;refine aW (r1.bD) λa us aL t q=>?_;clear r1 r;subst aL;have hl:us.toArray.size=Z.length:=dZ.trans q.length;refine len_tuple t (by refine J hl ?_;dsimp only[lim]at hz;lia) ?_;exact J hl (K.tok I (bB.int _ _))
  .revert e;refine vX (λZ ex e=>?_) (λZ ex e=>?_)
   .revert e;refine aZ (λhz e=>?_) nS;revert K;refine gJ e ?_;intro K;refine ah (oB r) λv bK r1=>?_;subst bK;refine bA (I.cW ex r1) λa us aL O t q=>?_;clear r1 r;subst aL;have hl:us.toArray.size=Z.length:=dZ.trans q.length;refine PySem.Calls.call_len_list t.isList (by refine J hl ?_;dsimp only[lim]at hz;omega) ?_;exact J hl (K.tok I (bB.int _ _))
   .revert e;refine aZ (λhz e=>?_) nS;revert K;refine gJ e ?_;intro K;refine ah (oB r) λv bK r1=>?_;subst bK;refine bA (I.kI ex r1) λa us aL hm t q=>?_;clear r1 r;subst aL;obtain⟨o,es,ep,ho,hx,hd,he,_⟩:=t;have hl:es.size=Z.length:=(zN he).trans q.length;refine Q9 (I.fresh a (dX hm)).2 ⟨o,ho,hx,hd⟩ (by refine J hl ?_;dsimp only[lim]at hz;lia) λt tk=>?_;exact J hl (K.tok I (bB.int _ _))
 |list=>
  dsimp only[je]at e;revert e;refine MK (λn br=>?_);subst br;refine lT (λZ ex=>aZ (λhz=>?_) nS);refine dx (λs' ep e=>?_);revert K;refine gJ e ?_;intro K;refine ah (oB r) λv bK r1=>?_;subst bK;obtain⟨a,us,rfl,_,⟨n1,t⟩,q⟩:=I.cW ex r1;refine call_list_seq a (.inl X) t X X (λh' c' hk hn=>?_) ?_
  .exact fK.list (t:=s.toks) ep K I q hk (dM _) I.low (I.g7 hk) ⟨_,hn⟩
  .refine J dZ (J q.length ?_);exact aR hz eL
 |tuple=>
  dsimp only[je]at e;revert e;refine MK (λn br=>?_);subst br;refine lT (λZ ex=>aZ (λhz e=>?_) nS);revert K;refine gJ e ?_;intro K;refine ah (oB r) λv bK r1=>?_;subst bK;refine bA (I.cW ex r1) λa us aL O t q=>?_;clear r1 r;subst aL;refine call_tuple_list t.isList (λh' hk=>?_) ?_
  .have vs:=I.more (t:=s.toks) hk (I.g7 hk);have Wf:∀ a o,s.heap.get? a=f o->(h'.push {cls:=.type "tuple",data:=.seq us.toArray}).get? a=f o:=λa o e=>kE _ (hk a o e);have M2:=I.more (t:=s.toks) Wf (I.g7 Wf);exact K _ _ _ M2.1 M2.2 (bB.tup (wO us) (I.FK M2.2 aX.nil q))
  .refine J dZ (J q.length ?_);exact aR hz eL
 |dict=>dsimp only[je]at e;revert e;refine MK (λn br=>?_);subst br;refine Io (λZ ex=>aZ (λhz=>?_) nS);refine dx (λs' ep e=>?_);revert K;refine gJ e ?_;intro K;refine ah (oB r) λv bK r1=>?_;clear r;subst bK;exact JZ hA I ex r1 hz.1 hz.2 ep K
 |sum=>
  dsimp only[je]at e;revert e;refine Ip (λx br=>?_);subst br;refine d0 (λZ ex=>gQ (λz' ez e=>?_));revert K;refine gJ e ?_;intro K;refine ah (oB r) λv bK r1=>?_;clear r;subst bK;obtain⟨lk,el⟩:=nL ex;refine cF (FY Z 0 z' ez) λhz hint=>?_;refine call_sum_walkG (k8 I r1 el λN it W=>?_);obtain⟨⟨fp,wr,St,hW,h0,hq,tN,Rd,iE⟩,hk,hl⟩:=W;refine TY it fp wr Z.length _ St (intAt Z) X (hW A.in1 hA.hh) h0 iE (λi v ⟨x,hx,rv⟩=>?_) (λh' tk t' Fz=>?_)
  .rw[hint i x hx]at rv;exact rv.int_inv
  .refine cF (WalkAt.after (Z:=Z) (lk:=lk) (it:=it) I tN hk Fz) λa1 a2=>?_
   have:W? (intAt Z) Z.length=z':=by refine J hz ?_;simp
   exact J this (K.more I a1 a2 (bB.int _ _))
 |yH=>
  dsimp only[je]at e;revert e;refine Ip (λx br=>?_);subst br;refine T3 (λi Z ex=>gQ (λz' ez e=>?_));revert K;refine gJ e ?_;intro K;refine ah (oB r) λv bK r1=>?_;clear r;subst bK;obtain⟨lk,el⟩:=nL ex;have hint:∀(j:a_) y,(AV.int i::Z)[j]?=f y->y=.int (intAt (AV.int i::Z) j):=λj y hy=>by cases j with|zero=>simp at hy;subst hy;rfl|succ j=>exact J (nK _ _ _) (Bv Z _ _ ez j y (by simpa using hy))
  have hz:z'=intAt (AV.int i::Z) (H? (λp q=>decide (intAt (AV.int i::Z) p>intAt (AV.int i::Z) q)) Z.length):=by
   have:=FZ (intAt (AV.int i::Z)) Z 0 z' ez λj y hy=>by exact J (show 0+1+j=j+1 by lia) (hint (j+1) y (by simpa using hy))
   rw[wx]at this;exact this
  refine call_max_walk (k8 I r1 el λN it W=>?_);obtain⟨⟨fp,wr,St,hW,h0,hq,tN,Rd,iE⟩,hk,hl⟩:=W;refine Zx it fp wr ((AV.int i::Z).length) _ St (λp q=>decide (intAt (AV.int i::Z) p>intAt (AV.int i::Z) q)) X (hW A.in1 hA.hh) h0 iE (by exact iG _) (CmpOf.ints_gt (intAt (AV.int i::Z)) λj v ⟨x,hx,rv⟩=>?_) (λv h' tk hP Fz=>?_)
  .rw[hint j x hx]at rv;exact rv.int_inv
  .refine cF (WalkAt.after (Z:=Z) (lk:=lk) (it:=it) I tN hk Fz) λa1 a2=>?_;obtain⟨x,hx,rv⟩:=hP;rw[hint _ x hx,fE,Nat.add_sub_cancel,<-hz]at rv;obtain⟨t,rfl⟩:=rv.int_inv;exact K.more I a1 a2 (bB.int _ _)
 |max2=>
  dsimp only[je]at e;revert e;refine T4 (λx y br e=>?_);subst br;revert K;refine gJ e ?_;intro K;refine aW (Ue r) λu v aL r1 r2=>?_;subst aL;obtain⟨t,rfl⟩:=r1.int_inv;refine cC (r2.int_inv) λt' aL=>?_;clear r2 r;subst aL;refine max_two_ints hA.hh λh' tk hk=>?_;split
  .rename_i U';simp only[ai U']at K;exact K.more I hk (I.g7 hk) (bB.int _ _)
  .rename_i U';simp only[ak U']at K;exact K.more I hk (I.g7 hk) (bB.int _ _)
 |min2=>
  dsimp only[je]at e;revert e;refine T4 (λx y br e=>?_);subst br;revert K;refine gJ e ?_;intro K;refine aW (Ue r) λu v aL r1 r2=>?_;subst aL;obtain⟨t,rfl⟩:=r1.int_inv;refine cC (r2.int_inv) λt' aL=>?_;clear r2 r;subst aL;refine min_two_ints hA.hh λh' tk hk=>?_;split
  .rename_i U';simp only[ai U']at K;exact K.more I hk (I.g7 hk) (bB.int _ _)
  .rename_i U';simp only[ak U']at K;exact K.more I hk (I.g7 hk) (bB.int _ _)
 |any=>
  dsimp only[je]at e;revert e;refine Ip (λx br=>?_);subst br;refine d0 (λZ ex=>si (λl el e=>?_));revert K;refine gJ e ?_;intro K;refine ah (oB r) λv bK r1=>?_;clear r;subst bK;obtain⟨lk,ei⟩:=nL ex;refine cF (w5 Z l el) λhz hb=>?_;refine call_any_walk (k8 I r1 ei λN it W=>?_);obtain⟨⟨fp,wr,St,hW,h0,hq,tN,Rd,iE⟩,hk,hl⟩:=W;refine TX it fp wr Z.length _ St (tP Z) X (hW A.in1 hA.hh) h0 (λi v s' Q' E' ⟨x,hx,rv⟩ yT=>?_) (λh' tk Fz=>?_)
  .rw[hb i x hx]at rv;refine(rv.bool_inv).symm▸?_;exact qI yT
  .refine cF (WalkAt.after (Z:=Z) (lk:=lk) (it:=it) I tN hk Fz) λa1 a2=>?_
   have:(A_ Z.length).any (tP Z)=l.any id:=by rw[hz,List.any_map];rfl
   refine(this).symm▸?_;exact K.more I a1 a2 (bB.bool _)
 |all=>
  dsimp only[je]at e;revert e;refine Ip (λx br=>?_);subst br;refine d0 (λZ ex=>si (λl el e=>?_));revert K;refine gJ e ?_;intro K;refine ah (oB r) λv bK r1=>?_;clear r;subst bK;obtain⟨lk,ei⟩:=nL ex;refine cF (w5 Z l el) λhz hb=>?_;refine call_all_walk (k8 I r1 ei λN it W=>?_);obtain⟨⟨fp,wr,St,hW,h0,hq,tN,Rd,iE⟩,hk,hl⟩:=W;refine TX it fp wr Z.length _ St (tP Z) X (hW A.in1 hA.hh) h0 (λi v s' Q' E' ⟨x,hx,rv⟩ yT=>?_) (λh' tk Fz=>?_)
  .rw[hb i x hx]at rv;refine(rv.bool_inv).symm▸?_;exact qI yT
  .refine cF (WalkAt.after (Z:=Z) (lk:=lk) (it:=it) I tN hk Fz) λa1 a2=>?_
   have:(A_ Z.length).all (tP Z)=l.all id:=by rw[hz,List.all_map];rfl
   refine(this).symm▸?_;exact K.more I a1 a2 (bB.bool _)
end
def w6(s:St)(l:a_)(v:AV):af St:=match s.getM l with|f (.list Z)=>if Z.length<=lim then s.set l (.list (Z++[v])) else .none|_=>R
def xa(s:St)(l:a_)(v:AV):af St:=match s.getM l with|f (.list Z)=>(match v with|.ref m=>(match s.get m with|f (.list ys)=>if m≠l/\Z.length<=lim/\ys.length<=lim then s.set l (.list (Z++ys)) else .none|_=>R)|_=>R)|_=>R
def z0(two:e_)(s:St)(d:a_)(k:AV):af St:=match s.getM d with|f (.dict bJ)=>(match k with|.tup k=>(match keyOf k with|f k=>(if bJ.length<=lim then match two||(jS bJ k).isSome with|V=>s.set d (.dict (lM bJ k))|N'=>R else .none)|R=>R)|_=>R)|_=>R
section
variable{w:de}{b s:aJ}{D F':cg}{Y T':St}{A:dd}{E:cP}
theorem aab{Q:cP}(hA:FL A)(I:Inv H w b s D Y)(rx:bB b.heap s.heap D x u)(rc:bB b.heap s.heap D c v)(e:FG Y x c=f r)(K:∀ t,Q (.bool (r==y)) {s with toks:=t}) :
  b_ (c_ H w) A (G? (if y then .In else .NotIn) u v) Q E s:=by
 have hu:A.in1.units+3<oL:=by
  have:=hA.un
  show A.units+1+3<oL;lia
 cases c with
 |tup Z=>dsimp only[FG]at e;refine aW (rc.bD) λa M aL t q=>?_;clear rc;subst aL;refine ah (Dx hu rx Z r M e q) λK' N L=>?_;have h3:M.toArray.any K'=r:=J List.any_toArray L;cases y with|true=>exact PySem.SeqAt.in_tupleAt K' t (λy hy=>N y (by simpa using hy)) (by refine J h3 ?_;simpa using K s.toks)|false=>exact PySem.SeqAt.notIn_tupleAt K' t (λy hy=>N y (by simpa using hy)) (by refine J h3 ?_;simpa using K s.toks)
 |ref n=>
  revert e;refine vX (λZ ex e=>?_) (λbJ ex e=>?_)
  .refine bA (I.cW ex rc) λa M aL O t q=>?_;clear rc;subst aL;refine ah (Dx hu rx Z r M e q) λK' N L=>?_;have h3:M.toArray.any K'=r:=J List.any_toArray L;cases y with|true=>exact PySem.SeqAt.in_listAt K' t.isList (λy hy=>N y (by simpa using hy)) (by refine J h3 ?_;simpa using K s.toks)|false=>exact PySem.SeqAt.notIn_listAt K' t.isList (λy hy=>N y (by simpa using hy)) (by refine J h3 ?_;simpa using K s.toks)
  .revert e;refine u5 (λk br=>?_);subst br;refine fz (λks ek e=>?_);simp only[dQ]at e;refine bA (I.kI ex rc) λd Z aL hm t q=>?_;clear rc;subst aL;rw[ie ek]at rx;refine ah (g8 (w:=w) rx) λa bK hk=>?_;clear rx;subst bK;have hd:=(I.fresh d (dX hm)).2
   have hr:(f? Z ks).isSome=r:=by
    rcases v5 q ks with ⟨N,L⟩|⟨x,p,N,L,_⟩
    .exact J L (dT e (J N X))
    .exact J L (dT e (J N X))
   cases y with|true=>exact wpAny_in_heap (mT hA) hk hd t (by refine J hr ?_;simpa using K _)|false=>exact wpAny_notIn_heap (mT hA) hk hd t (by refine J hr ?_;simpa using K _)
 |_=>exact nS e
theorem zd{B':T_ aY}{n:a_}{k:G}{t:Tok}{v:aY}{Q:l?->aJ->Prop}(hl:s.heap.get? l=f {cls:=.type "list",data:=.seq B' n})(h0:0<=k)(Wb:k<2^63)(hn:k<B'.size)(hQ:∀ h',h'.PlainList l (B'.setIfInBounds k.toNat v)->s_ l s.heap h'->Q () {s with heap:=h'}):b_ (c_ H w) A (setItem (.ref l) (.int k t) v) Q E s:=by
 have hT:s.TypeIs (.ref l) "list":=⟨_,hl,X⟩;unfold setItem;refine ox (aT (wpAny_sequenceKey hT (by decide) (aT (uT (name:=Q_ "__setitem__") hT F.slot_list_setitem (iH F.slot_list_setitem hT F.entry_list_setitem ?_ (F.args_list_setitem_3 _ _ _))))));show b_ _ _ (Builtin.List.listSubscript? (.int k t) >>= _) _ _ s;refine aT (wpAny_listSubscript_int (fitsIndex_of h0 Wb) ?_);clear Wb;refine cC (Int.eq_ofNat_of_zero_le h0) λj aL=>?_;clear h0;subst aL;have hj:j<B'.size:=by lia
 have hx':B'[j]?=f B'[j]:=tT0 hj;refine aT (aT (wpAny_seqItemAt hl X (cB (J hx' ?_))));refine aT (wpAny_setSeqItemAt hl X ?_);have hp:(s.heap.update l (z_ (·.setIfInBounds j v))).PlainList l (B'.setIfInBounds j v):=⟨_,AU _ hl X⟩
 first
  |exact aT (cB (cB ⟨.none,X,cB (hQ _ hp (qZ ..))⟩))
  |exact cB ⟨.none,X,cB (hQ _ hp (qZ ..))⟩
theorem PlainList.cls{h:cH}{a:bU}{B':T_ aY}(x:h.PlainList a B'):∃ ob,h.get? a=f ob/\(ob.cls=.type "list"\/ob.cls=.type "dict"):=cC x λn hn=>⟨_,hn,.inl X⟩
theorem DictOfH.cls{h:cH}{a:bU}{Z:d_ (aA × bU × aY)}(x:h.DictOfH (tk H w) a Z):∃ ob,h.get? a=f ob/\(ob.cls=.type "list"\/ob.cls=.type "dict"):=zR x λo O O N L O=>⟨_,N,.inr L.1⟩
theorem DF{a:a_}{M' v:AV}{o i u:aY}{Q:l?->aJ->Prop}(hA:FL A)(I:Inv H w b s D Y)(ra:bB b.heap s.heap D (.ref a) o)(ri:bB b.heap s.heap D M' i)(rv:bB b.heap s.heap D v u)(e:uX Y a M' v=f T')(K:so H w b s D Y T' (Q ())):b_ (c_ H w) A (setItem o i u) Q E s:=by
 revert e;refine vX (λZ ex e=>?_) (λbJ ex e=>?_)
 .revert e;refine T5 (λj br=>?_);subst br;refine aZ (λhj e=>?_) nS;obtain⟨l,M,eG,hm,⟨n,t⟩,q⟩:=I.cW (mR ex) ra;clear ra;subst eG;obtain⟨t',iC⟩:=ri.int_inv;clear ri;subst iC;refine zd t (k:=y_ j) (Qz j) ?_ ?_ λh' hp hs=>?_
  .have N:=hj.1;have L:=hj.2;dsimp only[lim]at L;show(j:G)<_;lia
  .refine J dZ (J q.length ?_);exact QB.mpr hj.1
  .have vs:=I.upd (t:=s.toks) hm ex hs (PlainList.cls hp) e λht=>⟨M.set j u,by simpa using hp,(q.set j rv).mono ht eU⟩;exact K _ _ vs.1 vs.2
 .revert e;refine u5 (λk br=>?_);subst br;refine fz (λks ek=>aZ (λhz e=>?_) nS);refine bA (I.kI (mR ex) ra) λd Z aL hm t q=>?_;clear ra;subst aL;rw[ie ek]at ri;refine ah (g8 (w:=w) ri) λc bK hk=>?_;clear ri;subst bK;have hn:(Z.map (·.1)).Nodup:=zS t λO O O O O O O O h=>h;refine wpAny_setItem_heap (mT hA) hk t (λh' hd hs=>?_) (by exact J q.length (aR hz eL));have vs:=I.upd (t:=s.toks+(tk H w).draws ks) hm ex hs (DictOfH.cls hd) e λht=>⟨_,hd,(q.store hn ks c rv).mono ht eU⟩;exact K _ _ vs.1 vs.2
theorem J4{l:a_}{v:AV}{o u:aY}{Q:cP}(I:Inv H w b s D Y)(ra:bB b.heap s.heap D (.ref l) o)(rv:bB b.heap s.heap D v u)(e:w6 Y l v=f T')(K:so H w b s D Y T' (Q .none)) :
  b_ (c_ H w) A (call (.builtin "list.append") [o,u]) Q E s:=by
 refine ib λGq zq=>?_;revert e;refine lT (λZ ex=>aZ (λhz e=>?_) nS);obtain⟨a,M,j6,hm,⟨n,t⟩,q⟩:=I.cW (mR ex) ra;clear ra;subst j6;refine zq ?_;clear zq;refine C2 UW ⟨_,t,X⟩ F.entry_list_append (F.args_list_append_2 _ _) (list_append a M.toArray n u (by(refine J dZ (J q.length ?_));exact aR hz eL)) ⟨t,?_⟩;have hp:(s.heap.update a (z_ λx=>x.push u)).PlainList a (M++[u]).toArray:=⟨_,by refine J (AU _ t X) ?_;simp[z_];rfl⟩;have vs:=I.upd (t:=s.toks) hm ex (qZ ..) (PlainList.cls hp) e λht=>⟨_,hp,(q.append (aG.cons rv aG.nil)).mono ht eU⟩;exact K _ _ vs.1 vs.2
theorem J5{l:a_}{v:AV}{o u:aY}{Q:cP}(I:Inv H w b s D Y)(ra:bB b.heap s.heap D (.ref l) o)(rv:bB b.heap s.heap D v u)(e:xa Y l v=f T')(K:so H w b s D Y T' (Q .none)) :
  b_ (c_ H w) A (call (.builtin "list.extend") [o,u]) Q E s:=by
 refine ib λGq zq=>?_;revert e;refine lT (λZ ex=>ZO (λm br=>?_));subst br;refine lT (λys ey=>aZ (λhz e=>?_) nS);obtain⟨h0,N,L⟩:=hz;obtain⟨a,M,mr,hm,⟨n,t⟩,q⟩:=I.cW (mR ex) ra;clear ra;subst mr;obtain⟨c,us,oU,YA,⟨n2,t2⟩,q2⟩:=I.cW ey rv;clear rv;subst oU;have J6:M.toArray.size=Z.length:=dZ.trans q.length;have hs2:us.toArray.size=ys.length:=dZ.trans q2.length;have hl:=eL;have mU:=wB;refine zq ?_;clear zq;refine C2 F.slot_list_extend ⟨_,t,X⟩ F.entry_list_extend (F.args_list_extend_2 _ _) (AutoSeq1.list_extend_list_list_0 a M.toArray n c us.toArray n2 ?_ ?_ ?_) ⟨t,t2,?_⟩
 .refine J J6 (J hs2 ?_);simp[Builtin.List.listTooLong,g?];unfold lim at *;lia
 .exact J J6 (aR ‹_› ‹_›)
 .refine J J6 (J hs2 ?_);unfold lim at *;lia
 .have hp:(s.heap.update a (z_ λx=>x++us.toArray)).PlainList a (M++us).toArray:=⟨_,by refine J (AU _ t X) ?_;simp[z_];rfl⟩;have vs:=I.upd (t:=s.toks) hm ex (qZ ..) (PlainList.cls hp) e λht=>⟨_,hp,(q.append q2).mono ht eU⟩;exact K _ _ vs.1 vs.2
theorem Nr{two:e_}{d:a_}{k:AV}{o u:aY}{more:dI}{Q:cP}(hA:FL A)(I:Inv H w b s D Y)(ra:bB b.heap s.heap D (.ref d) o)(rk:bB b.heap s.heap D k u)(Ug:if two then more=[.none] else more=[])(e:z0 two Y d k=f T')(K:∀ v,so H w b s D Y T' (Q v)):b_ (c_ H w) A (call (.builtin "dict.pop") (o::u::more)) Q E s:=by
 refine ib λGq zq=>?_;revert e;refine Io (λbJ ex=>u5 (λk br=>?_));subst br;refine fz (λks ek=>aZ (λhz=>?_) nS);refine cA (λU' e=>?_);refine bA (I.kI (mR ex) ra) λa Z aL hm t q=>?_;clear ra;subst aL;rw[ie ek]at rk;refine ah (g8 (w:=w) rk) λc bK hk=>?_;clear rk;subst bK;refine zq ?_;clear zq;have hn:(Z.map (·.1)).Nodup:=zS t λO O O O O O O O h=>h
 have Nt:(f? Z ks).isSome=(jS bJ ks).isSome:=by
  rcases v5 q ks with ⟨N,L⟩|⟨x,p,N,L,_⟩
  ·(refine J N (J L ?_));rfl
  ·(refine J N (J L ?_));rfl
 refine DA (mT hA) (I.fresh a (dX hm)).2 hk t (by exact J q.length (aR hz eL)) ?_ (λv h' tk' hd hs=>?_) λv tk' LV=>?_
 .cases two with|true=>exact .inr ⟨_,Ug⟩|false=>exact .inl ⟨Ug,by refine J Nt ?_;simpa using U'⟩
 .have vs:=I.upd (t:=tk') hm ex hs (DictOfH.cls hd) e λht=>⟨_,hd,(q.del ks).mono ht eU⟩;exact K v _ _ vs.1 vs.2
 .have hd0:jS bJ ks=R:=by rw[LV]at Nt;exact Tx.mp (by simpa using Nt.symm)
  rw[JY hd0]at e;have hs0:s_ a s.heap s.heap:=Heap.SameBut.refl _ _;have vs:=I.upd (t:=tk') hm ex hs0 (DictOfH.cls t) e λht=>⟨_,t,q⟩;exact K v _ _ vs.1 vs.2
end
end Mine.Internal
end
section
open PySem PyProof.Rows PySem.SeqAt
set_option maxRecDepth 100000
namespace Mine.Internal
def xb:al->e_|[]=>N'|x::r=>match x with|.tup (p::O)=>(match r with|[]=>V|.tup (q::O)::O'=>(match fq 3 q p,kY N' 3 q p with|f N',f V=>V|_,_=>N')&&xb r|_=>N')|_=>N'
noncomputable def sy:al->e_|[]=>V|x::r=>match x with|.tup (.tup O::O')=>sy r|_=>N'
def IF(s:St)(l:a_):af St:=match s.getM l with|f (.list Z)=>(if 2<=Z.length/\Z.length<64 then match xb Z&&sy Z with|V=>s.set l (.list Z.reverse)|N'=>R else .none)|_=>R
section
variable{w:de}{A:dd}{E:cP}{s:aJ}
theorem vK{st:SortSt}{n:a_}(L:2<=n)(lt:∀ i,i+1<n->∀ Q:af e_->SortSt->Prop,Q (f V) st->wpS (c_ H w) A E s (ltAt' (i+1) i) Q st){Q:af a_->SortSt->Prop}(h:Q (f n) (setArr st (mirror (E_ st) 0 n ((n-0)/2)))):wpS (c_ H w) A E s (countRun' 0 n) Q st:=by
 refine J (countRun0_eq _) (iI ?_)
 .unfold ascLoop;refine Dd (I:=λx c oY=>x=1/\c=(R,1)/\oY=st) ?_ ?_ ⟨X,X,X⟩
  .rintro i c oY hi Qk ⟨rfl,rfl,rfl⟩;refine iI (lt 0 (by omega) _ ?_);dsimp only[if_true];simp -iota only [gv];refine qJ ?_;show wpS _ _ _ _ _ Q oY;dsimp only;refine J (ak (by simp;lia)) (J (ak (by decide)) ?_);unfold descPart;refine iI (wpS_lift (qH ⟨X,?_⟩));refine iI ?_;unfold descLoop;refine Dd (I:=λx c tM=>c=(R,x,0)/\tM=oY) ?_ ?_ ⟨X,X⟩
   .rintro i c tM hi Qk ⟨rfl,rfl⟩;obtain⟨j,rfl⟩:∃ j,i=j+1:=⟨i-1,by lia⟩;refine iI (lt j (by omega) _ ?_);simp only[gv];exact J (ak (by decide)) (qJ ⟨X,X⟩)
   .rintro c tM ⟨rfl,rfl⟩;dsimp only;refine J (ak (by decide)) (J (show max (1+1) n=n by lia) ?_);unfold tail3;refine iI (wpS_reverse (iI ?_));unfold ascLoop;refine Dd (I:=λx c st3=>c=(R,n)/\st3=setArr tM (mirror (E_ tM) 0 n ((n-0)/2))) ?_ ?_ ⟨X,X⟩
    .intro i c st3 N L;grind
    .rintro c st3 ⟨rfl,rfl⟩;exact qJ h
  .rintro c oY ⟨hx,_,_⟩;omega
theorem xc{st:SortSt}(L:2<=(E_ st).size)(h64:(E_ st).size<64)(hp:pendingOf st=#[])(lt:∀ i,i+1<(E_ st).size->∀ Q:af e_->SortSt->Prop,Q (f V) st->wpS (c_ H w) A E s (ltAt' (i+1) i) Q st){Q:l?->SortSt->Prop}(h:∀ oY,E_ oY=mirror (E_ st) 0 (E_ st).size (((E_ st).size-0)/2)->failedOf oY=failedOf st->Q () oY):wpS (c_ H w) A E s sortRuns' Q st:=by
 refine J sortRuns'_eq (iI (wpS_get ?_));dsimp only
 have hmr:minRun' (E_ st).size (E_ st).size 0=(E_ st).size:=by
  obtain⟨K',hf⟩:∃ K',(E_ st).size=K'+1:=⟨(E_ st).size-1,by lia⟩
  have:minRun' (K'+1) (E_ st).size 0=(E_ st).size:=J (minRun'_succ _ _ _) (J (ai h64) X)
  rwa [<-hf]at this
 refine J hmr ?_
 refine iI (wpS_mono (Dd
  (I:=λx c oY=>(x=0/\c=(R,0)/\oY=st)\/(1<=x/\c=(R,(E_ st).size)/\oY=setPending (setArr st (mirror (E_ st) 0 (E_ st).size (((E_ st).size-0)/2))) #[(0,(E_ st).size,0)]))
  (Q:=λc oY=>c=(R,(E_ st).size)/\oY=setPending (setArr st (mirror (E_ st) 0 (E_ st).size (((E_ st).size-0)/2))) #[(0,(E_ st).size,0)]) ?step ?fin (.inl ⟨X,X,X⟩)) ?post)
 case fin=>
  rintro c oY (⟨hx,_,_⟩|⟨_,U',hD⟩)
  .lia
  .exact⟨U',hD⟩
 case step=>
  rintro x c oY _ hx (⟨rfl,rfl,rfl⟩|⟨hx1,rfl,hD⟩)
  .dsimp only;refine J (ak (by lia)) ?_;simp -iota only [Nat.sub_zero,wx];refine iI (vK L lt ?_);dsimp only;refine J (ak (by simp)) (iI (wpS_get ?_));have hb:(pendingOf (setArr oY (mirror (E_ oY) 0 (E_ oY).size (((E_ oY).size-0)/2)))).back?=R:=by exact J hp X
   refine J hb ?_;refine iI (wpS_modify (qJ (.inr ⟨by exact rX _ _,X,?_⟩)));exact J hp X
  .exact J (ai (c9 _)) (qJ ⟨X,hD⟩)
 case post=>
  rintro c oY ⟨rfl,hD⟩;refine iI (wpS_mono (Dd (I:=λO c tM=>tM=oY/\c=(R,())) (Q:=λc tM=>tM=oY/\c=(R,())) ?_ (λO O hh=>hh) ⟨X,X⟩) ?_)
  .rintro x c tM _ _ ⟨rfl,rfl⟩;refine iI (wpS_get ?_);refine J (ai (by rw[hD];exact c9 1)) ?_;exact qJ ⟨X,X⟩
  .rintro c tM ⟨rfl,rfl⟩;refine qJ (h _ ?_ ?_)
   .exact J hD X
   .exact J hD X
theorem Bw(x y:aY):keyLt' (tuples' N') x y=(do
  let Z <-u0 x;let ys <-u0 y
  for ((p,q),i) in (Z.toList.zip ys.toList).zipIdx do
   if !(<-eqBool p q) then return <-oneLt' (N'&&i==0) p q
  return Z.size<ys.size):=rfl
theorem DG{Q:e_->aJ->Prop}(B:s.heap.IsTuple a (p::Z).toArray)(U':s.heap.IsTuple c (q::ys).toArray)(he:EqAt A s p q N')(hl:jW .Lt A s p q V)(h:Q V s) :
  b_ (c_ H w) A (keyLt' (tuples' N') (.ref a) (.ref c)) Q E s:=by
 refine ib λGq zq=>?_;obtain⟨oa,N,_,n1,d1⟩:=B;obtain⟨oc,h3,_,n3,d3⟩:=U';refine zq ?_;clear zq;refine J (Bw _ _) (aT (Ia N d1 (aT (Ia h3 d3 (aT ?_)))));simp -iota only [List.toList_toArray,uV,List.zipIdx_cons];refine J (C5 _ _ _ _) (aT ?_);refine aT (he _ _ _ _ ?_);simp -iota only [US,gv];refine aT (J (oneLt'_eq _ _ _) ?_);simp -iota only [tT6,LR,kW];exact aT (hl _ _ _ _ (qI (cB (cB (cB h)))))
theorem Bx{st:SortSt}{i j:a_}{x y p q:aY}{Q:af e_->SortSt->Prop}(hk:kindOf st=tuples' N')(hi:(E_ st)[i]?=f (x,p))(hj:(E_ st)[j]?=f (y,q))(hl:∀ Q:e_->aJ->Prop,∀ E,Q V s->b_ (c_ H w) A (keyLt' (tuples' N') x y) Q E s) (h:Q (f V) st):wpS (c_ H w) A E s (ltAt' i j) Q st:=by
 refine J (ltAt'_eq _ _) (iI (wpS_get ?_));show wpS _ _ _ _ (do let x <-elem' (E_ st) i;let y <-elem' (E_ st) j;lt' x y) Q st;simp only[elem'_eq,elem'_eq,hi,hj];refine iI (qJ (iI (qJ (J (lt'_eq _ _) (iI (wpS_get (J hk (iI (wpS_lift (C9 (hl _ _ ⟨X,?_⟩)))))))))));exact qJ h
def F5(h:cH)(v:aY):Prop:=∃ a p Z,v=.ref a/\h.IsTuple a (p::Z).toArray/\∃ c B',p=.ref c/\h.IsTuple c B'
theorem J7:∀(M:dI) {Q:d_ (af aY)->aJ->Prop},(∀ v∈M,F5 s.heap v)->(∀ fs:d_ (af aY),fs.length=M.length->(∀ K'∈fs,∃ c B',K'=f (.ref c)/\s.heap.IsTuple c B')->Q fs s) ->
  b_ (c_ H w) A (M.mapM firstOfTuple') Q E s:=by
 intro w';induction w' with|nil=>intro Q O h;simp only[List.mapM_nil];exact cB (h [] X λO m=>nomatch m)|cons v M ih=>
  intro Q hv h;refine J List.mapM_cons ?_;obtain⟨a,p,Z,eG,ht,c,B',iC,U'⟩:=hv v aQ;subst eG;subst iC;refine aT ?_
  show b_ _ _ (do
   if (<-typeOf (H_ a)) != .type "tuple" then return R
   return (<-u0 (H_ a))[0]?) _ _ s
  refine aT (Ih ht.typeIs (J (ak (by decide)) ?_));obtain⟨o,ho,_,n,hd⟩:=ht;refine aT (Ia ho hd (cB (aT (ih (λu hu=>hv u (bg _ hu)) λfs hl hf=>cB (h _ (by simp[hl]) λK' hm=>?_)))));rcases aV.mp hm with j6|hm
  .clear hm;subst j6;exact uZ c B' (by rfl) U'
  .exact hf K' hm
theorem Nu:∀(M:dI) {Q:dI->aJ->Prop},(∀ v∈M,∃ c B',v=.ref c/\s.heap.IsTuple c B')->(∀ fs:dI,fs.length=M.length->(∀ K'∈fs,K'=.type "tuple")->Q fs s) ->
  b_ (c_ H w) A (M.mapM typeOf) Q E s:=by
 intro w';induction w' with|nil=>intro Q O h;simp only[List.mapM_nil];exact cB (h [] X λO m=>nomatch m)|cons v M ih=>
  intro Q hv h;refine J List.mapM_cons ?_;refine eF (hv v aQ) λc B' fJ U'=>?_;subst fJ;refine aT (Ih U'.typeIs (aT (ih (λu hu=>hv u (bg _ hu)) λfs hl hf=>cB (h _ (by simp[hl]) λK' hm=>?_))));rcases aV.mp hm with mr|hm
  .clear hm;subst mr;rfl
  .exact hf K' hm
theorem F6{M:dI}{Q:SortKind->aJ->Prop}(ej:0<M.length)(hv:∀ v∈M,F5 s.heap v)(h:Q (tuples' N') s):b_ (c_ H w) A (keyKind' M.toArray) Q E s:=by
 refine J (keyKind'_eq _) (J List.mapM_toArray (aT (J (map_eq_pure_bind _ _) (aT (J7 M hv λfs hl hf=>cB ?_)))));have adV:(fs.toArray.all (·.isSome))=V:=by refine J List.all_toArray (J (propext mK) ?_);intro K' hm;refine eF (hf K' hm) λc B' aL O=>?_;clear hm;subst aL;rfl
 refine J (ai adV) (aT (qH (aT ?_)));have hfm:∀ v∈fs.filterMap id,∃ c B',v=.ref c/\s.heap.IsTuple c B':=λv hm=>by refine ah (Vc.mp hm) λK' N L=>?_;refine eF (hf K' N) λc B' fJ h3=>?_;clear N;subst fJ;simp at L;exact uZ c B' L.symm h3
 have e1:fs.toArray.filterMap id=(fs.filterMap id).toArray:=by simp
 refine J e1 (J (oneTypeOnly'_eq _) (J List.mapM_toArray (aT (J (map_eq_pure_bind _ _) (aT (Nu _ hfm λts J8 ht=>cB ?_))))));cases ts with|nil=>exact cB (cB (by simpa using h))|cons t ts=>
  have e0:t=.type "tuple":=ht t aQ;clear J8;subst e0;have e9:(y? "tuple"::ts).toArray[0]?=f (y? "tuple"):=X;refine J e9 ?_;dsimp only
  rw[ai (by
   rw[List.all_toArray,mK];intro K' hm;rw[ht K' hm]
   decide)]
  refine cB (cB ?_)
  have:(Option.any (λx=>x != y? "tuple") (f (y? "tuple")))=N':=by decide
  exact J this h
theorem Nv{α:Type}:∀ M:d_ α,M.zip M=M.map λv=>(v,v):=λw'=>by induction w' with|nil=>exact X|cons v M ih=>exact J uV (J ih X)
theorem J9{P:Fin->aJ->Prop}(ho:s.heap.get? a=f (k? "list" M.toArray n))(L:2<=M.length)(h64:M.length<64)(hT:∀ h':cH,(∀ c B',s.heap.IsTuple c B'->h'.IsTuple c B')->(∀ v∈M,F5 h' v)/\∀ i x y,M[i]?=f x->M[i+1]?=f y->∀(Q:e_->aJ->Prop) (E:cP),Q V {s with heap:=h'}->b_ (c_ H w) A (keyLt' (tuples' N') y x) Q E {s with heap:=h'})(h:P (.done (.ret .none)) {s with heap:=sortedHeap s.heap a M M.reverse.toArray}):b_ (c_ H w) A (Builtin.«list.sort» ⟨[.ref a],[]⟩) P E s:=by
 refine J (list_sort_plain _) ?_;have B:a<s.heap.objs.size:=mJ ho;have mU:=wB;refine aT (listItems_at ho X (aT (listUpdate_at ho X ?_ (by refine J dZ ?_;lia))));obtain⟨e1,ho1⟩:∃ e1,(s.heap.update a (z_ λO=>#[])).get? a=f (k? "list" #[] e1):=⟨_,get?_update_seq ho (λO=>#[])⟩;refine aT (seqEpoch_at ho1 X (aT (wpAny_newTuple (aT (wpAny_newList (ox ?_))))));have YB:(((s.heap.update a (z_ λO=>#[])).push (k? "tuple" M.toArray 0)).push (k? "list" #[] 0)).get? a=f (k? "list" #[] e1):=by refine J (JH _ _ _ (by rw[size_push',Qw];exact jh (uK B))) (J (JH _ _ _ (by rw[Qw];exact jh B)) ?_);exact ho1
 have DH:∀ c B',s.heap.IsTuple c B'->(((s.heap.update a (z_ λO=>#[])).push (k? "tuple" M.toArray 0)).push (k? "list" #[] 0)).IsTuple c B':=λc B' ht=>by
  have ej:c≠a:=λq=>by obtain⟨o,N,L,_⟩:=ht;rw[q,ho]at N;injection N with N;rw[<-N]at L;exact g_ (HQ L) (by decide)
  refine Heap.IsTuple.push (Heap.IsTuple.push ?_ _) _;obtain⟨o,N,L⟩:=ht;exact aK o ((Heap.get?_update_ne _ _ _ _ ej).trans N) L
 refine cF (hT _ DH) λht1 ht2=>?_;show b_ (c_ H w) A _ P E {s with heap:=((s.heap.update a (z_ λO=>#[])).push (k? "tuple" M.toArray 0)).push (k? "list" #[] 0)};dsimp only;have Q4:M.toArray.size=M.length:=by rfl
 refine J (ak (by rw[Q4];lia)) (J (ak (by rw[Q4];omega)) ?_);refine J (by exact J (List.zip_toArray _ _) (J (Nv _) X):M.toArray.zip M.toArray=(M.map λv=>(v,v)).toArray) ?_;have hps:(M.map λv=>(v,v)).toArray.size=M.length:=by simp
 have Ri:∀ i:a_,(M.map λv=>(v,v)).toArray[i]?=(M[i]?).map λv=>(v,v):=λi=>by simp
 refine aT (F6 (by exact kF ‹_›) ht1 ?_)
 refine aT (oy (xc (st:=SortSt.mk' (tuples' N') (M.map λv=>(v,v)).toArray #[] 7 R)
  (Q:=λO oY=>E_ oY=mirror (M.map λv=>(v,v)).toArray 0 M.length ((M.length-0)/2)/\failedOf oY=R) (by show 2<=(M.map λv=>(v,v)).toArray.size;lia) (by show(M.map λv=>(v,v)).toArray.size<64;lia) X (λi hi Q' yT=>?_) λoY a1 a2=>⟨?_,a2⟩) ?_ λO O e=>e)
 .replace hi:i+1<(M.map λv=>(v,v)).toArray.size:=hi;rw[hps]at hi;have g1:M[i]?=f M[i]:=lL (by exact kF ‹_›);have g2:M[i+1]?=f M[i+1]:=lL hi
  exact Bx (x:=M[i+1]) (p:=M[i+1]) (y:=M[i]) (q:=M[i]) X (by exact J (Ri _) (J g2 X)) (by exact J (Ri _) (J g1 X))
   (λQ2 E2 Z9=>ht2 i _ _ g1 g2 Q2 E2 Z9) yT
 .refine J a1 ?_;exact J hps X
 .rintro⟨⟨⟩,oY⟩ s' ⟨rfl,hp,hf⟩;dsimp only
  have lg:(E_ oY).map (·.2)=M.reverse.toArray:=by
   refine J hp (Array.ext_getElem? λk=>J Array.getElem?_map (J (getElem?_mirror_all (by simp) _) ?_));by_cases hk:k<M.length
   .refine J (ai ⟨ji _,hk⟩) (J (Ri _) (J (show 0+M.length-1-k=M.length-1-k by simp) (J Y4 (J (JJ hk) ?_))));cases M[M.length-1-k]?<;>rfl
   .refine J (ak (by lia)) (J (Ri _) (J Y4 (J (L9 (by lia)) (J (L9 (by rw[uR];omega)) ?_))));rfl
  refine aT (seqEpoch_at YB X (J lg (aT (listUpdate_at YB X ?_ (hsz2:=by(refine J dZ (J uR ?_));lia)))));refine J hf ?_;simp only[bne_self_eq_false,LR,kW];exact cB h
end
section
variable{w:de}{b s:aJ}{D F':cg}{Y T':St}{A:dd}{E:cP}
theorem Nw:∀(Z:al),xb Z=V->(∀ x∈Z,∃ p r,x=.tup (p::r))/\∀(i:a_) x y,Z[i]?=f x->Z[i+1]?=f y->∃ p r q t,x=.tup (p::r)/\y=.tup (q::t)/\fq 3 q p=f N'/\kY N' 3 q p=f V:=λw'=>by induction w' with|nil=>intro h;exact fT h|cons x Z ih=>
  intro h;rcases x with _|_|_|_|_|(_|⟨p,r⟩)|_|_<;>first|exact fT h|skip
  dsimp only[xb]at h;revert h;refine ZR (λbr h=>?_) (λq t xd br h=>?_);clear ih;subst br;rotate_left;subst br;rotate_left
  .refine⟨λx hx=>?_,λi x y N L=>?_⟩
   .rw[az]at hx;exact uY _ _ hx
   .exact nS L
  .refine Il h λN L=>cF (ih L) λf1 f2=>⟨λx hx=>?_,λi x y g1 g2=>?_⟩
   .rcases aV.mp hx with oU|hx
    .clear hx;subst oU;exact uY _ _ X
    .exact f1 x hx
   .cases i with|zero=>simp at g1 g2;subst g1 g2;refine gE _ _ _ _ X X ?_;revert N;exact ZQ (λe1 e2 N=>⟨e1,e2⟩)|succ i=>exact f2 i x y (by simpa using g1) (by simpa using g2)
theorem F7:∀(Z:al),sy Z=V->∀ x∈Z,∃ k r,x=.tup (.tup k::r):=λw'=>by induction w' with|nil=>(intro O O hx;exact nomatch hx)|cons x Z ih=>
  intro h y hy;rcases x with _|_|_|_|_|(_|⟨_|_|_|_|_|k|_|_,r⟩)|_|_<;>first|exact fT h|skip
  .rcases aV.mp hy with qA|hy
   .clear hy;subst qA;exact uY _ _ X
   .exact ih h y hy
theorem SameBut.Uh(o:Obj)(ho:o.isFreed=N')(x:s_ a h h'):s_ a (h.push o) (h'.push o):=by
 refine⟨by exact J (yF _ _) (J (yF _ _) (J x.1 X)),λc U'=>?_⟩;by_cases e:c=h.objs.size
 .refine J e (J (j5 _ ho) ?_);exact dT x.1 (J (j5 _ ho) X)
 .refine J (JH _ _ _ e) ?_;(refine J (JH _ _ _ (by rw[x.1];exact e)) ?_);exact J (x.2 c U') X
theorem Rj{Q:cP}(hA:FL A)(I:Inv H w b s D Y)(ra:bB b.heap s.heap D (.ref l) o)(e:IF Y l=f T')(K:so H w b s D Y T' (Q .none)) :
  b_ (c_ H w) A (call (.builtin "list.sort") [o]) Q E s:=by
 refine ib λGq zq=>?_;revert e;refine lT (λZ ex=>aZ (λhz=>?_) nS);refine cA (λhf e=>Il hf λhf1 hf2=>?_);obtain⟨a,M,vF,hm,⟨n,t⟩,q⟩:=I.cW (mR ex) ra;clear ra;subst vF;have hlen:=q.length;refine cF (Nw Z hf1) λg1 g2=>?_;have g3:=F7 Z hf2;refine zq ?_;clear zq
 have hu:A.in1.units+3<oL:=by
  have:=hA.un
  show A.units+1+3<oL;lia
 refine iH F.slot_list_sort ⟨_,t,X⟩ F.entry_list_sort (J9 t (by lia) (by lia) (λh' ht=>?_) ?_) (F.args_list_sort_1 _)
 .have q':aG b.heap h' D Z M:=q.mono ht eU;refine⟨λv hv=>?_,λi x y hx hy Q2 E2 Z9=>?_⟩
  .refine cC (Ma hv) λi hi=>?_;refine ah (q'.get' hi) λz Nl Nm=>?_;refine gy (g3 z (dX Nl)) λk r fJ=>?_;clear Nl;subst fJ;refine aW (Nm.bD) λc us aL ht1 ht2=>?_;clear hv hi Nm;subst aL;dsimp only[aG]at ht2;obtain⟨p,us',yI,hp,_⟩:=ht2;subst yI;refine aW (hp.bD) λd ws aL hd O=>?_;clear hp;subst aL;exact⟨c,_,us',X,ht1,d,_,X,hd⟩
  .refine ib λGq zq=>ah (q'.get' hx) λz1 Nl rz1=>ah (q'.get' hy) λz2 Nm rz2=>?_;refine wH (g2 i z1 z2 Nl Nm) λp r p2 r2 aL Ka e1 e2=>?_;clear Nl;subst aL;clear Nm;subst Ka;refine aW (rz1.bD) λc1 us1 aL t1 u1=>?_;clear hx rz1;subst aL;refine aW (rz2.bD) λc2 us2 aL t2 u2=>?_;clear hy rz2;subst aL;dsimp only[aG]at u1 u2;obtain⟨v1,aho,Dp,rv1,_⟩:=u1;subst Dp;obtain⟨v2,ahp,wM,rv2,_⟩:=u2;subst wM;refine zq ?_;clear zq;exact DG (s:={s with heap:=h'}) t2 t1 (sr (s:={s with heap:=h'}) 3 p2 p N' v2 v1 e1 rv2 rv1 hu) (FO (s:={s with heap:=h'}) N' X 3 p2 p V v2 v1 e2 rv2 rv1 hu) Z9
 .refine aK .none X ?_;have hk:∀ c ob,s.heap.get? c=f ob->((s.heap.push (k? "tuple" M.toArray 0)).push (k? "list" #[] 0)).get? c=f ob:=λc ob e=>kE _ (kE _ e);have M1:=I.more (t:=s.toks) hk (I.g7 hk)
  have hs:s_ a ((s.heap.push (k? "tuple" M.toArray 0)).push (k? "list" #[] 0)) (sortedHeap s.heap a M M.reverse.toArray):=
   Heap.SameBut.trans (SameBut.Uh _ X (SameBut.Uh _ X (qZ ..))) (qZ ..)
  have B:a<s.heap.objs.size:=mJ t;have YB:∃ e1,(((s.heap.update a (z_ λO=>#[])).push (k? "tuple" M.toArray 0)).push (k? "list" #[] 0)).get? a=f (k? "list" #[] e1):=by refine⟨if (#[]:T_ aY).size==M.toArray.size then n else n+1,?_⟩;refine J (JH _ _ _ (by rw[size_push',Qw];exact jh (uK B))) (J (JH _ _ _ (by rw[Qw];exact jh B)) ?_);exact get?_update_seq t (λO=>#[])
  obtain⟨e1,YB⟩:=YB;have hp:(sortedHeap s.heap a M M.reverse.toArray).PlainList a M.reverse.toArray:=⟨_,get?_update_seq YB λO=>M.reverse.toArray⟩;have M2:=M1.1.upd (t:=s.toks) hm ex hs (PlainList.cls hp) e λht=>⟨_,hp,(I.FK M1.2 aX.nil q.reverse).mono ht eU⟩;exact K _ _ M2.1 (M1.2.trans M2.2)
end
end Mine.Internal
end
section
open PySem PyProof.Rows
namespace Mine.Internal
noncomputable def rj (K':St->AV->af (St × al)):al->St->af (St × al)|[],s=>f (s,[])|x::Z,s=>match K' s x with|f (s1,ys)=>(match rj K' Z s1 with|f (s2,zs)=>f (s2,ys++zs)|R=>R)|R=>R
def By(K':St->AV->af (St × aA × AV)):al->St->dc->af (St × dc)|[],s,G'=>f (s,G')|x::Z,s,G'=>match K' s x with|f (s1,k,v)=>By K' Z s1 (iK G' k v)|R=>R
noncomputable def lU (K':AV->St->al->af (St × al × Fl)):al->St->al->af (St × al × Fl)|[],s,C=>f (s,C,.next)|x::Z,s,C=>match K' x s C with|f (s1,lh,.ret v)=>f (s1,lh,.ret v)|f (s1,lh,O)=>lU K' Z s1 lh|R=>R
noncomputable def eZ (t:St->al->jq) (K':St->al->af (St × al × Fl)):a_->St->al->af (St × al × Fl)|0,O,O'=>R|n+1,s,C=>match t s C with|f (s1,.bool V)=>(match K' s1 C with|f (s2,eH,.ret v)=>f (s2,eH,.ret v)|f (s2,eH,O)=>eZ t K' n s2 eH|R=>R)|f (s1,.bool N')=>f (s1,C,.next)|_=>R
def j7{α:Type}(s:St)(lk:af a_)(K':St->af (St × α)):af (St × α):=
 match lS s lk with|f s1=>(match K' s1 with|f (s2,a)=>(match iM s2 (sd s lk) lk with|f s3=>f (s3,a)|R=>R)|R=>R)|R=>R
def Nx(r:af (St × dc)):jq:=match r with|f (s1,bJ)=>if bJ.length<=lim then jl s1 (.dict bJ) else .none|R=>R
def Ny(r:af (St × al)):jq:=match r with|f (s1,Z)=>jl s1 (.list Z)|R=>R
noncomputable abbrev EvF:=St->al->jq
def lV(r:jq)(ik:tG)(K':St->AV->af (St × al)):jq:=match r with|f (s1,v)=>(match jd s1 ik v with|f (Z,lk)=>Ny (match j7 s1 lk (rj K' Z) with|f (s9,ys)=>if ys.length<=lim then f (s9,ys) else .none|R=>R)|R=>R)|R=>R
def one(g:EvF)(C':cj)(C:al)(s:St)(x:AV):af (St × al):=match dw C' x C with|f eH=>(match g s eH with|f (s4,y)=>f (s4,[y])|R=>R)|R=>R
def z6(c g:EvF)(C':cj)(C:al)(s:St)(x:AV):af (St × al):=match dw C' x C with|f eH=>(match c s eH with|f (s3,.bool V)=>(match g s3 eH with|f (s4,y)=>f (s4,[y])|R=>R)|f (s3,.bool N')=>f (s3,[])|_=>R)|R=>R
def dU:cj->al->al|[],C=>C|i::is,C=>aE (dU is C) i .ub
def two(qK:EvF)(tH:tG)(g:EvF)(C' tgt2:cj)(C:al)(s:St)(x:AV):af (St × al):=match dw C' x (dU tgt2 C) with|f eH=>(match qK s eH with|f (s3,v2)=>(match jd s3 tH v2 with|f (Ql,Rk)=>j7 s3 Rk (rj (one g tgt2 eH) Ql)|R=>R)|R=>R)|R=>R
def DI(r:jq)(ik:tG)(K':St->AV->af (St × aA × AV)):jq:=match r with|f (s1,v)=>(match jd s1 ik v with|f (Z,lk)=>if Z.length<=lim then Nx (j7 s1 lk (λs0=>By K' Z s0 [])) else .none|R=>R)|R=>R
def Rl(k g:EvF)(C':cj)(C:al)(s:St)(x:AV):af (St × aA × AV):=match dw C' x C with|f eH=>(match k s eH with|f (s3,.tup kt)=>(match g s3 eH with|f (s4,y)=>(match keyOf kt with|f ks=>f (s4,ks,y)|R=>R)|R=>R)|_=>R)|R=>R
def ev:CE->St->al->jq|.k v,s,O=>f (s,v)|.glob O v,s,O'=>f (s,v)|.var i,s,C=>(match ao C i with|.ub=>R|v=>f (s,v))|.bin o a b,s,C=>(match ev a s C with|f (s1,x)=>(match ev b s1 C with|f (s2,y)=>oA s2 o x y|R=>R)|R=>R)|.neg a,s,C=>(match ev a s C with|f (s1,.int i)=>f (s1,.int (-i))|_=>R)|.cmp o a b,s,C=>(match ev a s C with|f (s1,x)=>(match ev b s1 C with|f (s2,y)=>(match fy s2 o x y with|f r=>f (s2,.bool r)|R=>R)|R=>R)|R=>R)|.isNone y a,s,C=>(match ev a s C with|f (s1,x)=>f (s1,.bool (x.isNone==y))|R=>R)|.isin y a b,s,C=>(match ev a s C with|f (s1,x)=>(match ev b s1 C with|f (s2,c)=>(match FG s2 x c with|f r=>f (s2,.bool (r==y))|R=>R)|R=>R)|R=>R)|.and a b,s,C=>(match ev a s C with|f (s1,.bool V)=>ev b s1 C|f (s1,.bool N')=>f (s1,.bool N')|_=>R)|.or a b,s,C=>(match ev a s C with|f (s1,.bool N')=>ev b s1 C|f (s1,.bool V)=>f (s1,.bool V)|_=>R)|.not a,s,C=>(match ev a s C with|f (s1,.bool b)=>f (s1,.bool (!b))|_=>R)|.ite t a b,s,C=>(match ev t s C with|f (s1,.bool V)=>ev a s1 C|f (s1,.bool N')=>ev b s1 C|_=>R)|.call O F O' as,s,C=>(match ev as s C with|f (s1,.tup Z)=>F s1 Z|_=>R)|.bi b as,s,C=>(match ev as s C with|f (s1,.tup Z)=>je s1 b Z|_=>R)|.idx a i,s,C=>(match ev a s C with|f (s1,x)=>(match ev i s1 C with|f (s2,y)=>(match ic s2 x y with|f z=>f (s2,z)|R=>R)|R=>R)|R=>R)|.gK a k,s,C=>(match ev a s C with|f (s1,x)=>(match ev k s1 C with|f (s2,y)=>tI s2 x y|R=>R)|R=>R)|.fu a k,s,C=>(match ev a s C with|f (s1,x)=>(match ev k s1 C with|f (s2,y)=>oQ s2 x y|R=>R)|R=>R)|.bc as,s,C=>(match ev as s C with|f (s1,.tup Z)=>f (s1,.tup Z)|_=>R)|.lst as,s,C=>(match ev as s C with|f (s1,.tup Z)=>jl s1 (.list Z)|_=>R)|.gA,s,O=>jl s (.dict [])|.kZ k v,s,C=>(match ev k s C with|f (s1,.tup kt)=>(match ev v s1 C with|f (s2,y)=>(match keyOf kt with|f ks=>jl s2 (.dict [(ks,y)])|R=>R)|R=>R)|_=>R)|.bq e C' ik it,s,C=>lV (ev it s C) ik (one (ev e) C' C)|.bR e C' ik it c,s,C=>lV (ev it s C) ik (z6 (ev c) (ev e) C' C)|.dJ e C' ik it tgt2 tH qK,s,C=>lV (ev it s C) ik (two (ev qK) tH (ev e) C' tgt2 C)|.jU k e C' ik it,s,C=>DI (ev it s C) ik (Rl (ev k) (ev e) C' C)|.bad,O,O'=>R|.nil,s,O=>f (s,.tup [])|.cons e r,s,C=>match ev e s C with|f (s1,x)=>(match ev r s1 C with|f (s2,.tup Z)=>f (s2,.tup (x::Z))|_=>R)|R=>R
noncomputable def iS (r:af St) (C:al):af (St × al × Fl):=match r with|f s=>f (s,C,.next)|R=>R
def Kc(r:jq)(ik:tG)(K':AV->St->al->af (St × al × Fl))(C:al):af (St × al × Fl):=match r with|f (s1,v)=>(match jd s1 ik v with|f (Z,lk)=>j7 s1 lk (λs2=>lU K' Z s2 C)|R=>R)|R=>R
def oE(g:St->al->af (St × al × Fl))(C':cj)(x:AV)(s:St)(C:al):af (St × al × Fl):=match dw C' x C with|f Rm=>g s Rm|R=>R
def Qm(s:St)(a:a_):e_:=match s.get a with|f (.list O)=>V|_=>N'
def Qn(s:St)(a:a_):e_:=match s.get a with|f (.dict O)=>V|_=>N'
def ex:CS->St->al->af (St × al × Fl)|.assign i e,s,C=>(match ev e s C with|f (s1,v)=>f (s1,aE C i v,.next)|R=>R)|.bj is e,s,C=>(match ev e s C with|f (s1,.tup Z)=>(match bindL is Z C with|f lh=>f (s1,lh,.next)|R=>R)|_=>R)|.dh o i e,s,C=>(match ev e s C with|f (s1,v)=>(match ev (.var o) s1 C with|f (s2,.ref a)=>(match ev i s2 C with|f (s3,M')=>iS (uX s3 a M' v) C|R=>R)|_=>R)|R=>R)|.aug k i e,s,C=>(match ao C i with|.int x=>(match ev e s C with|f (s1,.int y)=>(match cX k x y with|f z=>f (s1,aE C i (.int z),.next)|R=>R)|_=>R)|_=>R)|.iL k o i e,s,C=>(match ev (.var o) s C with|f (s1,.ref a)=>(match ev i s1 C with|f (s2,M')=>(match ic s2 (.ref a) M' with|f (.int x)=>(match ev e s2 C with|f (s3,.int y)=>(match cX k x y with|f z=>iS (uX s3 a M' (.int z)) C|R=>R)|_=>R)|_=>R)|R=>R)|_=>R)|.ret e,s,C=>(match ev e s C with|f (s1,v)=>f (s1,C,.ret v)|R=>R)|.iff t a b,s,C=>(match ev t s C with|f (s1,.bool V)=>ex a s1 C|f (s1,.bool N')=>ex b s1 C|_=>R)|.kH t b,s,C=>eZ (ev t) (ex b) 100000 s C|.gF C' ik it b,s,C=>Kc (ev it s C) ik (oE (ex b) C') C|.cont,s,C=>f (s,C,.cont)|.qy d k,s,C=>(match ev (.var d) s C with|f (s1,.ref a)=>(if Qn s1 a then match ev k s1 C with|f (s2,kv)=>iS (z0 V s2 a kv) C|R=>R else .none)|_=>R)|.qz d k,s,C=>(match ev (.var d) s C with|f (s1,.ref a)=>(if Qn s1 a then match ev k s1 C with|f (s2,kv)=>iS (z0 N' s2 a kv) C|R=>R else .none)|_=>R)|.append l e,s,C=>(match ev (.var l) s C with|f (s1,.ref a)=>(if Qm s1 a then match ev e s1 C with|f (s2,v)=>iS (w6 s2 a v) C|R=>R else .none)|_=>R)|.extend l e,s,C=>(match ev (.var l) s C with|f (s1,.ref a)=>(if Qm s1 a then match ev e s1 C with|f (s2,v)=>iS (xa s2 a v) C|R=>R else .none)|_=>R)|.sort l,s,C=>(match ev (.var l) s C with|f (s1,.ref a)=>if Qm s1 a then iS (IF s1 a) C else .none|_=>R)|.expr e,s,C=>(match ev e s C with|f (s1,O)=>f (s1,C,.next)|R=>R)|.raise,O,O'=>R|.skip,s,C=>f (s,C,.next)|.seq a b,s,C=>match ex a s C with|f (s1,lh,.next)=>ex b s1 lh|r=>r
noncomputable def rl:a_->al|0=>[]|n+1=>.ub::rl n
def bt(np more:a_)(body:CS):Fn:=λs as=>if as.length=np then match ex body s (as++rl more) with|f (s1,O,.ret v)=>f (s1,v)|f (s1,O,.next)=>f (s1,.none)|_=>R else .none
theorem Nz:ev (.ite t a b) s C=(match ev t s C with|f (s1,.bool V)=>ev a s1 C|f (s1,.bool N')=>ev b s1 C|_=>R):=rfl
theorem Kd:ev (.call K' F P as) s C=(match ev as s C with|f (s1,.tup Z)=>F s1 Z|_=>R):=rfl
theorem mV:ev (.bin o a b) s C=(match ev a s C with|f (s1,x)=>(match ev b s1 C with|f (s2,y)=>oA s2 o x y|R=>R)|R=>R):=rfl
theorem NA:ev (.cmp o a b) s C=(match ev a s C with|f (s1,x)=>(match ev b s1 C with|f (s2,y)=>(match fy s2 o x y with|f r=>f (s2,.bool r)|R=>R)|R=>R)|R=>R):=rfl
theorem IG:ev (.bi b as) s C=(match ev as s C with|f (s1,.tup Z)=>je s1 b Z|_=>R):=rfl
theorem xe:ev (.idx a i) s C=(match ev a s C with|f (s1,x)=>(match ev i s1 C with|f (s2,y)=>(match ic s2 x y with|f z=>f (s2,z)|R=>R)|R=>R)|R=>R):=rfl
theorem Ke:ev (.bc as) s C=(match ev as s C with|f (s1,.tup Z)=>f (s1,.tup Z)|_=>R):=rfl
theorem NB:ev (.lst as) s C=(match ev as s C with|f (s1,.tup Z)=>jl s1 (.list Z)|_=>R):=rfl
theorem F8:ev (.bq e C' ik it) s C=(lV (ev it s C) ik (one (ev e) C' C)):=rfl
theorem p7:ev (.cons e r) s C=(match ev e s C with|f (s1,x)=>(match ev r s1 C with|f (s2,.tup Z)=>f (s2,.tup (x::Z))|_=>R)|R=>R):=rfl
theorem DJ:ex (.assign i e) s C=(match ev e s C with|f (s1,v)=>f (s1,aE C i v,.next)|R=>R):=rfl
theorem DK:ex (.ret e) s C=(match ev e s C with|f (s1,v)=>f (s1,C,.ret v)|R=>R):=rfl
theorem Kf:ex .skip s C=(f (s,C,.next)):=rfl
theorem sz:ex (.seq a b) s C=(match ex a s C with|f (s1,lh,.next)=>ex b s1 lh|r=>r):=rfl
noncomputable def AV.DL:AV->e_|.ub=>V|_=>N'
theorem dj:∀(C:al) (i j:a_) (v:AV),ao (aE C i v) j=if i=j then(if i<C.length then v else .ub) else ao C j:=λw'=>by induction w' with|nil=>intro i j v;dsimp only[aE,ao];simp|cons x C ih=>intro z1;cases z1 with|zero=>(intro z2;cases z2 with|zero=>intro v;rfl|succ j=>intro v;rfl)|succ i=>intro z2;cases z2 with|zero=>intro v;rfl|succ j=>intro v;dsimp only[aE,ao];simp[ih i j v]
structure ER(b:aJ)(u':t?)(sc:d_ (o_ × a_))(C:al)(s:aJ)(D:cg):Prop where
 kind:u'.scope.kind=.function
 glob:u'.globals=p_
 bi:u'.builtins=K_
 ns:∃ m,s.heap.Ns u'.locals m/\∀ x i,(x,i)∈sc->u'.kindOf x=f .local->(ao C i).DL=N'->∃ u,m x=f u/\bB b.heap s.heap D (ao C i) u
 cells:∀ x c,u'.cells.lookup x=f c->∃ u,s.heap.IsCell c u/\∀ i,(x,i)∈sc->u'.kindOf x=f .cell->(ao C i).DL=N'->∃ w,u=f w/\bB b.heap s.heap D (ao C i) w
 kinds:∀ x i,(x,i)∈sc->u'.kindOf x=f .local\/(u'.kindOf x=f .cell/\∃ c,u'.cells.lookup x=f c)
 nM:u'.locals∉D/\b.heap.get? u'.locals=R
 rm:∀ x c,u'.cells.lookup x=f c->c∉D/\b.heap.get? c=R/\c≠u'.locals
 apart:∀ x y c,u'.cells.lookup x=f c->u'.cells.lookup y=f c->x=y
 slots:∀ x y i,(x,i)∈sc->(y,i)∈sc->x=y
 names:∀ x i j,(x,i)∈sc->(x,j)∈sc->i=j
 debug:∀ x i,(x,i)∈sc->(x==("__debug__":o_))=N'
theorem dD.weaken(S:dD F' s s' D ca Y T')(h:∀ a∈F',a∈NC)(hr:∀ a∈NC,a∉D):dD NC s s' D ca Y T':=
 ⟨S.pre,S.new,λa o N L h3=>S.fr a o N (λm=>L (h a m)) h3,S.flags,S.lock,λa B o ho=>by
  classical
  by_cases m:a∈F'
  .exact S.Dq a m o ho
  .exact⟨o,S.fr a o (hr a B) m ho⟩⟩
theorem dD.forget(S:dD F' s s' D ca Y T')(h:∀ a∈F',s.heap.get? a=R):dD [] s s' D ca Y T':=
 ⟨S.pre,S.new,λa o N O h3=>S.fr a o N (λm=>by rw[h a m]at h3;exact nS h3) h3,S.flags,S.lock,λO m=>nomatch m⟩
section
variable{w:de}{b s s':aJ}{D ca F':cg}{Y T':St}{A:dd}{E:cP}{u':t?}{sc:d_ (o_ × a_)}{C:al}
theorem ER.vb(iv:ER b u' sc C s D):∃ o,s.heap.get? u'.locals=f o/\∀ Z n,o.data≠.seq Z n:=by refine Df λGq kq=>?_;obtain⟨m,⟨o,es,ep,ho,hd,_⟩,_⟩:=iv.ns;exact kq o ho (λZ n e=>by rw[hd]at e;cases e)
theorem ER.qS(iv:ER b u' sc C s D)(h:u'.cells.lookup x=f c):∃ o,s.heap.get? c=f o/\∀ Z n,o.data≠.seq Z n:=by refine Df λGq kq=>?_;obtain⟨u,⟨o,ho,hd⟩,_⟩:=iv.cells x c h;exact kq o ho (λZ n e=>by rw[hd]at e;cases e)
theorem Ns.kept{h h':cH}{a:bU}{m:pY}(x:h.Ns a m)(e:∀ o,h.get? a=f o->h'.get? a=f o):h'.Ns a m:=uW x λo es ep ho r=>⟨o,es,ep,e _ ho,r⟩
theorem IsCell.kept{h h':cH}{c:bU}{u:af aY}(x:h.IsCell c u)(e:∀ o,h.get? c=f o->h'.get? c=f o):h'.IsCell c u:=ah x λo ho r=>⟨o,e _ ho,r⟩
theorem jM(S:dD F' s s' D ca Y T')(N:a∉D)(L:s.heap.get? a=f o):a∉ca:=λm=>by
 rcases S.new a m with q|q
 .exact N q
 .rw[L]at q;exact sN q
theorem ER.step(iv:ER b u' sc C s D)(I:Inv H w b s D Y)(S:dD F' s s' D ca Y T')(ok:aX F' s.heap)(hL:u'.locals∉F')(hC:∀ x c,u'.cells.lookup x=f c->c∉F'):ER b u' sc C s' ca where
 kind:=iv.kind
 glob:=iv.glob
 bi:=iv.bi
 ns:=by refine ah (iv.ns) λm hm h=>?_;refine aK m (Ns.kept hm λo e=>S.fr _ o iv.nM.1 hL e) (λx i N L h3=>?_);exact ah (h x i N L h3) λu h4 h5=>aK u h4 (I.rep S ok h5)
 cells:=λx c U'=>by refine ah (iv.cells x c U') λu hu h=>?_;refine aK u (IsCell.kept hu λo e=>S.fr _ o (iv.rm x c U').1 (hC x c U') e) (λi N L h3=>?_);exact ah (h i N L h3) λw h4 h5=>aK w h4 (I.rep S ok h5)
 kinds:=iv.kinds
 nM:=ah iv.vb λo ho O=>⟨jM S iv.nM.1 ho,iv.nM.2⟩
 rm:=λx c U'=>ah (iv.qS U') λo ho O=>⟨jM S (iv.rm x c U').1 ho,(iv.rm x c U').2⟩
 apart:=iv.apart
 slots:=iv.slots
 names:=iv.names
 debug:=iv.debug
theorem ER.bl(iv:ER b u' sc C s D)(I:Inv H w b s D Y)(S:dD [] s s' D ca Y T'):ER b u' sc C s' ca:=iv.step I S aX.nil (λm=>nomatch m) λO O O m=>nomatch m
theorem ER.load(iv:ER b u' sc C s D)(hx:(x,i)∈sc)(hu:(ao C i).DL=N'){Q:cP}(k:∀ u,bB b.heap s.heap D (ao C i) u->Q u s) :
  b_ (c_ H w) A (J_ (.Name x pos) u') Q E s:=by
 refine wpAny_Name ?_ (iv.debug x i hx);rcases iv.kinds x i hx with h|⟨h,c,U'⟩
 .exact ah (iv.ns) λm hm hr=>ah (hr x i hx h hu) λu N L=>wpAny_loadName_local iv.kind h hm N (k u L)
 .refine ah (iv.cells x c U') λu N L=>?_;refine ah (L i hx h hu) λv bK h3=>?_;clear L;subst bK;exact wpAny_loadName_cell iv.kind h U' N (k v h3)
theorem F9(h:u'.scope.kind=.function):(u'.scope.kind==.class||(u'.scope.kind==.module&&u'.locals != u'.globals))=N':=J h X
theorem ER.store(iv:ER b u' sc C s D)(I:Inv H w b s D Y){x:o_}{i:a_}{v:AV}{u:aY}(hx:(x,i)∈sc)(rv:bB b.heap s.heap D v u)(yS:u'.locals∈F')(DM:u'.kindOf x=f .cell->∀ c,u'.cells.lookup x=f c->c∈F')(Z3:∀ a∈F',a∉D){Q:l?->aJ->Prop} (k:∀ s',Inv H w b s' D Y->ER b u' sc (aE C i v) s' D->dD F' s s' D D Y Y->(∀ a o,a∉F'->s.heap.get? a=f o->s'.heap.get? a=f o)->Q () s'):b_ (c_ H w) A (storeName u' x u) Q E s:=by
 refine ah (iv.ns) λm hm hr=>ah (iv.vb) λoL hoL hnL=>?_;have slot:∀ y j,(y,j)∈sc->y≠x->ao (aE C i v) j=ao C j:=λy j hy ej=>by rw[dj,ak];intro q;subst q;exact ej (iv.slots y x _ hy hx)
 have II:∀ j,(x,j)∈sc->(ao (aE C i v) j).DL=N'->ao (aE C i v) j=v:=λj hj hu=>by
  obtain rfl:=iv.names x i j hx hj;rw[dj,ai X]at hu ⊢;split at hu
  rename_i q2
  rotate_left;exact tF hu;exact ai q2
 rcases iv.kinds x i hx with h|⟨h,c,U'⟩
 .refine wpAny_storeName_local h hm (λh' hn hs=>?_) (F9 iv.kind);have iQ:i_<h'.objs.size:=J hs.1 I.low;have Kg:aX [u'.locals] s.heap:=aX.of λa B o ho Z n=>by rw[az]at B;subst B;rw[hoL]at ho;obtain rfl:=aw ho;exact hnL Z n
  have vs:=I.quiet (F':=[u'.locals]) (h':=h') (t:=s.toks+1) (λa o N L=>(hs.2 a λq=>N (by simp[q])).trans L) Kg (λa B=>by rw[az]at B;subst B;exact iv.nM.1)
   (λa B=>by rw[az]at B;subst B;exact iv.nM.2) (λa B o O=>by
    rw[az]at B;subst B;obtain⟨o',_,_,qB,_⟩:=hn
    exact⟨o',qB⟩) iQ
  refine k _ vs.1 ⟨iv.kind,iv.glob,iv.bi,⟨_,hn,λy j hy hk hu=>?_⟩,λy d hd=>?_,iv.kinds,iv.nM,iv.rm,iv.apart,iv.slots,iv.names,iv.debug⟩ (vs.2.weaken (λa B=>by rw[az]at B;subst B;exact yS) Z3) λa o N L=>(hs.2 a λq=>N (q▸yS)).trans L
  .by_cases q:y=x
   .clear hx DM slot h hn;subst q;exact aK u (by simp) (J (II j hy hu) (I.rep vs.2 Kg rv))
   .rw[slot y j hy q]at hu ⊢;exact ah (hr y j hy hk hu) λz N L=>aK z (by simpa [q]using N) (I.rep vs.2 Kg L)
  .refine ah (iv.cells y d hd) λz hz L=>?_;refine aK z (IsCell.kept hz λo e=>(hs.2 d (iv.rm y d hd).2.2).trans e) (λj hy hk hu=>?_);have q:y≠x:=λq=>by clear hx DM slot II hn;subst q;rw[h]at hk;cases hk
   rw[slot y j hy q]at hu ⊢;exact ah (L j hy hk hu) λz h3 h4=>aK z h3 (I.rep vs.2 Kg h4)
 .refine ah (iv.cells x c U') λz hz O=>?_;refine ah (iv.qS U') λoC Rn hnC=>wpAny_storeName_cell iv.kind h U' hz λh' hn hs=>?_;have iQ:i_<h'.objs.size:=J hs.1 I.low;have Kg:aX [c] s.heap:=aX.of λa B o ho Z n=>by rw[az]at B;clear U' hz hn hs;subst B;rw[Rn]at ho;obtain rfl:=aw ho;exact hnC Z n
  have vs:=I.quiet (F':=[c]) (h':=h') (t:=s.toks) (λa o N L=>(hs.2 a λq=>N (by simp[q])).trans L) Kg (λa B=>by rw[az]at B;clear hz Rn hn hs Kg;subst B;exact(iv.rm x _ U').1)
   (λa B=>by rw[az]at B;clear hz Rn hn hs Kg;subst B;exact(iv.rm x _ U').2.1) (λa B o O=>by
    rw[az]at B;clear U' hz Rn hs Kg;subst B;obtain⟨o',qB,_⟩:=hn
    exact⟨o',qB⟩) iQ
  have Wg:=DM h c U';refine k _ vs.1 ⟨iv.kind,iv.glob,iv.bi,⟨m,Ns.kept hm λo e=>(hs.2 _ (kz (iv.rm x c U').2.2)).trans e,λy j hy hk hu=>?_⟩,λy d hd=>?_,iv.kinds,iv.nM,iv.rm,iv.apart,iv.slots,iv.names,iv.debug⟩ (vs.2.weaken (λa B=>by rw[az]at B;clear U' hz Rn hn hs Kg vs;subst B;exact Wg) Z3) λa o N L=>(hs.2 a λq=>N (q▸Wg)).trans L
  .have q:y≠x:=λq=>by clear hx DM slot II U';subst q;rw[h]at hk;cases hk
   rw[slot y j hy q]at hu ⊢;exact ah (hr y j hy hk hu) λz h3 h4=>aK z h3 (I.rep vs.2 Kg h4)
  .by_cases q:y=x
   .clear hx DM slot h;subst q;rw[U']at hd;obtain rfl:=aw hd;refine aK (f u) hn (λj hy hk hu=>⟨u,X,?_⟩);exact J (II j hy hu) (I.rep vs.2 Kg rv)
   .refine ah (iv.cells y d hd) λz hz L=>?_;have hdc:d≠c:=λe=>q (iv.apart y x c (e▸hd) U');refine aK z (IsCell.kept hz λo e=>(hs.2 d hdc).trans e) (λj hy hk hu=>?_);rw[slot y j hy q]at hu ⊢;exact ah (L j hy hk hu) λz h3 h4=>aK z h3 (I.rep vs.2 Kg h4)
end
set_option backward.match.sparseCases false
theorem vL{α:Type _}{P:α->Prop}{o:af {x // P x}}{x:α}(h:o.map m_=f x):P x:=by cases o with|none=>exact nS h|some y=>exact aw h▸y.2
theorem aae{P:Prop}{o:af {_x:l? // P}}(h:o.isSome=V):P:=by cases o with|none=>exact fT h|some y=>exact y.2
noncomputable def Ro (e:av):af {x:Const // ∃ k p,e=.Constant x k p}:=match e with|.Constant c k p=>f ⟨c,k,p,X⟩|_=>R
def Bz(e:av):af (Const):=(Ro e).map m_
noncomputable def Wh (e:av):af {x:o_ // ∃ p,e=.Name x p}:=match e with|.Name x p=>f ⟨x,p,X⟩|_=>R
def vc(e:av):af (o_):=(Wh e).map m_
noncomputable def aaf (e:av):af {x:av × C? × av // ∃ p,e=.BinOp x.1 x.2.1 x.2.2 p}:=match e with|.BinOp l o r p=>f ⟨(l,o,r),p,X⟩|_=>R
def aag(e:av):af (av × C? × av):=(aaf e).map m_
noncomputable def adY (e:av):af {x:UnaryOp × av // ∃ p,e=.UnaryOp x.1 x.2 p}:=match e with|.UnaryOp o x p=>f ⟨(o,x),p,X⟩|_=>R
def vUn(e:av):af (UnaryOp × av):=(adY e).map m_
noncomputable def aah (e:av):af {x:av × CmpOp × av // ∃ p,e=.Compare x.1 [x.2.1] [x.2.2] p}:=match e with|.Compare l [o] [r] p=>f ⟨(l,o,r),p,X⟩|_=>R
def Rp(e:av):af (av × CmpOp × av):=(aah e).map m_
noncomputable def Wi (e:av):af {x:BoolOp × dF × Pos // e=.BoolOp x.1 x.2.1 x.2.2}:=match e with|.BoolOp o M p=>f ⟨(o,M,p),X⟩|_=>R
def vBool(e:av):af (BoolOp × dF × Pos):=(Wi e).map m_
noncomputable def ad0 (e:av):af {x:av × av × av // ∃ p,e=.IfExp x.1 x.2.1 x.2.2 p}:=match e with|.IfExp t a b p=>f ⟨(t,a,b),p,X⟩|_=>R
def vIf(e:av):af (av × av × av):=(ad0 e).map m_
noncomputable def Wj (e:av):af {x:o_ × dF // ∃ np p a r,x.2=a::r/\e=.Call (.Name x.1 np) (a::r) [] p}:=match e with|.Call (.Name K' np) (a::r) [] p=>f ⟨(K',a::r),np,p,a,r,X,X⟩|_=>R
def IJ(e:av):af (o_ × dF):=(Wj e).map m_
noncomputable def aai (e:av):af {x:av × av // ∃ p,e=.Subscript x.1 x.2 p}:=match e with|.Subscript v i p=>f ⟨(v,i),p,X⟩|_=>R
def Kh(e:av):af (av × av):=(aai e).map m_
noncomputable def aaj (e:av):af {x:dF // ∃ k p,e=.Tuple x k p}:=match e with|.Tuple es k p=>f ⟨es,k,p,X⟩|_=>R
def Rq(e:av):af (dF):=(aaj e).map m_
noncomputable def aak (e:av):af {x:dF // ∃ p,e=.List x p}:=match e with|.List es p=>f ⟨es,p,X⟩|_=>R
def aal(e:av):af (dF):=(aak e).map m_
noncomputable def Rr (e:av):af {x:l? // ∃ p,e=.Dict [] [] p}:=match e with|.Dict [] [] p=>f ⟨(),p,X⟩|_=>R
def ND(e:av):e_:=(Rr e).isSome
noncomputable def Rt (e:av):af {x:av × av // ∃ p,e=.Dict [f x.1] [x.2] p}:=match e with|.Dict [f k] [v] p=>f ⟨(k,v),p,X⟩|_=>R
def NF(e:av):af (av × av):=(Rt e).map m_
noncomputable def ad1 (e:av):af {x:av // ∃ p,e=.Slice .none (f x) .none p}:=match e with|.Slice .none (f u) .none p=>f ⟨u,p,X⟩|_=>R
def vTo(e:av):af (av):=(ad1 e).map m_
noncomputable def Wk (e:av):af {x:av // ∃ p,e=.Slice (f x) .none .none p}:=match e with|.Slice (f u) .none .none p=>f ⟨u,p,X⟩|_=>R
def Ui(e:av):af (av):=(Wk e).map m_
noncomputable def ad2 (e:av):af {x:av × av × av × dF × L_ // ∃ p,e=.ListComp x.1 [⟨x.2.1,x.2.2.1,x.2.2.2.1,0⟩] x.2.2.2.2 p}:=match e with|.ListComp x [⟨t,i,ifs,a⟩] sc p=>if q:a=0 then f ⟨(x,t,i,ifs,sc),p,by rw[q]⟩ else .none|_=>R
def vLC(e:av):af (av × av × av × dF × L_):=(ad2 e).map m_
noncomputable def aam (e:av):af {x:av × av × av × av × av × L_ // ∃ p,e=.ListComp x.1 [⟨x.2.1,x.2.2.1,[],0⟩,⟨x.2.2.2.1,x.2.2.2.2.1,[],0⟩] x.2.2.2.2.2 p}:=match e with|.ListComp x [⟨t,i,[],a⟩,⟨t2,i2,[],a2⟩] sc p=>if q:a=0/\a2=0 then f ⟨(x,t,i,t2,i2,sc),p,by rw[q.1,q.2]⟩ else .none|_=>R
def aan(e:av):af (av × av × av × av × av × L_):=(aam e).map m_
noncomputable def ad4 (e:av):af {x:av × av × av × av × L_ // ∃ p,e=.DictComp x.1 x.2.1 [⟨x.2.2.1,x.2.2.2.1,[],0⟩] x.2.2.2.2 p}:=match e with|.DictComp k v [⟨t,i,[],a⟩] sc p=>if q:a=0 then f ⟨(k,v,t,i,sc),p,by rw[q]⟩ else .none|_=>R
def vDC(e:av):af (av × av × av × av × L_):=(ad4 e).map m_
noncomputable def gS (e:av):e_:=!(f_ e.ctorIdx 22)
def xf(e:av):e_:=!(isSlice e)
theorem tQ(h:Bz e=f c):∃ k p,e=.Constant c k p:=(vL h :)
theorem lj(h:vc e=f x):∃ p,e=.Name x p:=(vL h :)
theorem Ru(h:aag e=f (l,o,r)):∃ p,e=.BinOp l o r p:=(vL h :)
theorem NG(h:vUn e=f (o,x)):∃ p,e=.UnaryOp o x p:=(vL h :)
theorem BA(h:Rp e=f (l,o,r)):∃ p,e=.Compare l [o] [r] p:=(vL h :)
theorem DN(h:vBool e=f (o,M,p)):e=.BoolOp o M p:=(vL h :)
theorem Wl(h:vIf e=f (t,a,b)):∃ p,e=.IfExp t a b p:=(vL h :)
theorem xg(h:IJ e=f (K',es)):∃ np p a r,es=a::r/\e=.Call (.Name K' np) (a::r) [] p:=(vL h :)
theorem sA(h:Kh e=f (v,i)):∃ p,e=.Subscript v i p:=(vL h :)
theorem IK(h:Rq e=f es):∃ k p,e=.Tuple es k p:=(vL h :)
theorem Rv(h:aal e=f es):∃ p,e=.List es p:=(vL h :)
theorem Ki(h:ND e=V):∃ p,e=.Dict [] [] p:=(aae h :)
theorem Kj(h:NF e=f (k,v)):∃ p,e=.Dict [f k] [v] p:=(vL h :)
theorem Wm(h:vTo e=f u):∃ p,e=.Slice .none (f u) .none p:=(vL h :)
theorem NH(h:Ui e=f u):∃ p,e=.Slice (f u) .none .none p:=(vL h :)
theorem BB(h:vLC e=f (x,t,i,ifs,sc)):∃ p,e=.ListComp x [⟨t,i,ifs,0⟩] sc p:=(vL h :)
theorem IL(h:aan e=f (x,t,i,t2,i2,sc)):∃ p,e=.ListComp x [⟨t,i,[],0⟩,⟨t2,i2,[],0⟩] sc p:=(vL h :)
theorem Wn(h:vDC e=f (k,v,t,i,sc)):∃ p,e=.DictComp k v [⟨t,i,[],0⟩] sc p:=(vL h :)
noncomputable abbrev NM:=d_ (o_ × u?)
noncomputable abbrev SC:=d_ (o_ × a_)
set_option backward.match.sparseCases true
def namesOf:dF->af (d_ o_)
 |[]=>f []
 |e::es=>match vc e with
  |f x=>match namesOf es with|f r=>f (x::r) |R=>R
  |R=>R
def eM(e:av):af (d_ o_):=match vc e with|f x=>f [x]|R=>match Rq e with|f es=>if 2<=es.length then namesOf es else .none|R=>R
noncomputable def iU (sn nm:NM):NM:=sn.map λp=>if p.2==.free&&nm.lookup p.1==f .cell then(p.1,.cell) else p
noncomputable def j8 {α:Type} [DecidableEq α]:d_ α->e_|[]=>V|x::Z=>!(Z.any λy=>decide (x=y))&&j8 Z
def p8(scope:L_)(nm:NM)(sc:SC)(tn:d_ o_):e_:=
 decide (scope.kind=.function)&&scope.names.all (λp=>decide (p.2≠.cell))&&scope.names.all (λp=>!(decide (p.2=.local))||decide (scope.names.lookup p.1=f .local)) &&
 tn.all (λx=>decide (scope.names.lookup x=f .local))&&j8 tn&&j8 (scope.names.map (·.1))&&scope.names.all (λp=>!(decide (p.2=.free))||decide (nm.lookup p.1=f .cell))&&tn.all (λx=>!(x==("__debug__":o_)))&&scope.names.all (λp=>!(decide (p.2=.free))||sc.any λq=>decide (q.1=p.1))
noncomputable def iV (scope:L_) (sc:SC) (tn:d_ o_) (C':cj):SC:=tn.zip C'++sc.filter (λp=>decide (scope.names.lookup p.1=f .free))
def z8(tn:d_ o_)(C':cj)(sc:SC):e_:=decide (tn.length=C'.length)&&j8 C'&&C'.all (λi=>sc.all λp=>!(decide (p.2=i)))
noncomputable def Ga:tG->af o_|.plain=>R| .range=>f "range" | .enum=>f "enumerate" | .rev=>f "reversed"
noncomputable def BC:BI->o_| .abs=>"abs" | .len=>"len" | .list=>"list" | .tuple=>"tuple" | .dict=>"dict" | .sum=>"sum" | .yH=>"max" | .max2=>"max" | .min2=>"min" | .any=>"any" | .all=>"all" | .int=>"int"
noncomputable def o1 (nm:NM) (x:o_):e_:=decide (nm.lookup x=f .globalImplicit)&&!(x==("__debug__":o_))
def IM(v:AV)(c:Const):e_:=match v,c with|.none,.none=>V|.bool a,.bool b=>decide (a=b)|.int a,.int b=>decide (a=b)|.str n,.str x=>t_ n 3&&decide (strTab n=x)|O,O'=>N'
def nN(nm:NM)(ik:tG)(e:av):af av:=match Ga ik with|R=>f e|f K'=>match IJ e with|f (g,[a])=>if g==K'&&o1 nm K'&&gS a then f a else .none|_=>R
def vd(ik:tG)(t:av):e_:=match ik with|.enum=>rg t|_=>V
noncomputable def fM (e:av):e_:=!(f_ e.ctorIdx 7)
def eJ:CE->NM->SC->av ⊕ dF->e_
 |.k v,O,O',q=>match q with|.inr _=>N' | .inl e=>match Bz e with|f c=>IM v c|R=>N'
 |.glob x O,nm,O',q=>match q with|.inr _=>N' | .inl e=>match vc e with|f y=>decide (x=y)&&o1 nm x|R=>N'
 |.var i,O,sc,q=>match q with|.inr _=>N' | .inl e=>match vc e with|f y=>sc.any λp=>decide (p=(y,i))|R=>N'
 |.bin o a b,nm,sc,q=>match q with|.inr _=>N' | .inl e=>match aag e with|f (l,op,r)=>decide (op=binOp o)&&eJ a nm sc (.inl l)&&eJ b nm sc (.inl r)|R=>N'
 |.neg a,nm,sc,q=>match q with|.inr _=>N' | .inl e=>match vUn e with|f (o,x)=>decide (o=.USub)&&eJ a nm sc (.inl x)|R=>N'
 |.not a,nm,sc,q=>match q with|.inr _=>N' | .inl e=>match vUn e with|f (o,x)=>decide (o=.Not)&&eJ a nm sc (.inl x)|R=>N'
 |.cmp o a b,nm,sc,q=>match q with|.inr _=>N' | .inl e=>match Rp e with|f (l,op,r)=>decide (op=Na o)&&fM r&&eJ a nm sc (.inl l)&&eJ b nm sc (.inl r)|R=>N'
 |.isNone y a,nm,sc,q=>match q with|.inr _=>N' | .inl e=>match Rp e with|f (l,op,r)=>decide (op=if y then .Is else .IsNot)&&decide (Bz r=f .none)&&eJ a nm sc (.inl l)|R=>N'
 |.isin y a b,nm,sc,q=>match q with|.inr _=>N' | .inl e=>match Rp e with|f (l,op,r)=>decide (op=if y then .In else .NotIn)&&fM r&&eJ a nm sc (.inl l)&&eJ b nm sc (.inl r)|R=>N'
 |.and a b,nm,sc,q=>match q with|.inr _=>N' | .inl e=>match vBool e with|f (.And,v1::v2::r,p)=>eJ a nm sc (.inl v1)&&(match r with|[]=>eJ b nm sc (.inl v2)|v3::r=>eJ b nm sc (.inl (.BoolOp .And (v2::v3::r) p)))|_=>N'
 |.or a b,nm,sc,q=>match q with|.inr _=>N' | .inl e=>match vBool e with|f (.Or,v1::v2::r,p)=>eJ a nm sc (.inl v1)&&(match r with|[]=>eJ b nm sc (.inl v2)|v3::r=>eJ b nm sc (.inl (.BoolOp .Or (v2::v3::r) p)))|_=>N'
 |.ite t a b,nm,sc,q=>match q with|.inr _=>N' | .inl e=>match vIf e with|f (x,y,z)=>eJ t nm sc (.inl x)&&eJ a nm sc (.inl y)&&eJ b nm sc (.inl z)|R=>N'
 |.call K' O O' as,nm,sc,q=>match q with|.inr _=>N' | .inl e=>match IJ e with|f (g,es)=>decide (K'=g)&&o1 nm K'&&eJ as nm sc (.inr es)|R=>N'
 |.bi k as,nm,sc,q=>match q with|.inr _=>N' | .inl e=>match IJ e with|f (g,es)=>decide (BC k=g)&&o1 nm (BC k)&&eJ as nm sc (.inr es)|R=>N'
 |.idx a i,nm,sc,q=>match q with|.inr _=>N' | .inl e=>match Kh e with|f (v,s)=>xf s&&eJ a nm sc (.inl v)&&eJ i nm sc (.inl s)|R=>N'
 |.gK a k,nm,sc,q=>match q with|.inr _=>N' | .inl e=>match Kh e with|f (v,s)=>(match vTo s with|f u=>eJ a nm sc (.inl v)&&eJ k nm sc (.inl u)|R=>N')|R=>N'
 |.fu a k,nm,sc,q=>match q with|.inr _=>N' | .inl e=>match Kh e with|f (v,s)=>(match Ui s with|f u=>eJ a nm sc (.inl v)&&eJ k nm sc (.inl u)|R=>N')|R=>N'
 |.bc as,nm,sc,q=>match q with|.inr _=>N' | .inl e=>match Rq e with|f es=>k_ es.length 1000&&eJ as nm sc (.inr es)|R=>N'
 |.lst as,nm,sc,q=>match q with|.inr _=>N' | .inl e=>match aal e with|f es=>k_ es.length 1000&&eJ as nm sc (.inr es)|R=>N'
 |.gA,O,O',q=>match q with|.inr _=>N' | .inl e=>ND e
 |.kZ k v,nm,sc,q=>match q with|.inr _=>N' | .inl e=>match NF e with|f (a,b)=>eJ k nm sc (.inl a)&&eJ v nm sc (.inl b)|R=>N'
 |.bq x C' ik it,nm,sc,q=>match q with|.inr _=>N' | .inl e=>match vLC e with|f (el,t,i,[],scope)=>(match eM t with|f tn=>(match nN nm ik i with|f i'=>fM i&&vd ik t&&p8 scope nm sc tn&&z8 tn C' sc&&eJ it nm sc (.inl i')&&eJ x (iU scope.names nm) (iV scope sc tn C') (.inl el)|R=>N')|R=>N')|_=>N'
 |.bR x C' ik it c,nm,sc,q=>match q with|.inr _=>N' | .inl e=>match vLC e with|f (el,t,i,[q],scope)=>(match eM t with|f tn=>(match nN nm ik i with|f i'=>fM i&&vd ik t&&p8 scope nm sc tn&&z8 tn C' sc&&eJ it nm sc (.inl i')&&eJ x (iU scope.names nm) (iV scope sc tn C') (.inl el)&&eJ c (iU scope.names nm) (iV scope sc tn C') (.inl q)|R=>N')|R=>N')|_=>N'
 |.dJ x C' ik it tgt2 tH qK,nm,sc,q=>match q with|.inr _=>N' | .inl e=>match aan e with
  |f (el,t,i,t2,i2,scope)=>match eM t with
   |f tn=>match nN nm ik i with
    |f i'=>match eM t2 with
     |f tn2=>match nN (iU scope.names nm) tH i2 with
      |f i2'=>fM i&&fM i2&&vd ik t&&vd tH t2&&p8 scope nm sc (tn++tn2)&&z8 (tn++tn2) (C'++tgt2) sc&&decide (tn.length=C'.length)&&eJ it nm sc (.inl i') &&
        eJ qK (iU scope.names nm) (iV scope sc (tn++tn2) (C'++tgt2)) (.inl i2')&&eJ x (iU scope.names nm) (iV scope sc (tn++tn2) (C'++tgt2)) (.inl el)
      |R=>N'
     |R=>N'
    |R=>N'
   |R=>N'
  |R=>N'
 |.jU k v C' ik it,nm,sc,q=>match q with|.inr _=>N' | .inl e=>match vDC e with|f (ke,ve,t,i,scope)=>(match eM t with|f tn=>(match nN nm ik i with|f i'=>fM i&&vd ik t&&p8 scope nm sc tn&&z8 tn C' sc&&eJ it nm sc (.inl i')&&eJ k (iU scope.names nm) (iV scope sc tn C') (.inl ke)&&eJ v (iU scope.names nm) (iV scope sc tn C') (.inl ve)|R=>N')|R=>N')|R=>N'
 |.bad,O,O',q=>match q with|.inr _=>N' | .inl _=>V
 |.nil,O,O',q=>match q with|.inl _=>N' | .inr es=>es.isEmpty
 |.cons x r,nm,sc,q=>match q with|.inl _=>N' | .inr es=>match es with|e::es=>gS e&&eJ x nm sc (.inl e)&&eJ r nm sc (.inr es)|[]=>N'
end Mine.Internal
end
section
open PySem PyProof.Rows
namespace Mine.Internal
structure DO(n:a_)(A:dd):Prop where
 hh:A.handled=R
 un:A.units+200+20*n<oL
 dp:A.depth+n<recursionLimit
theorem DO.a(h:DO n A):FL A:=⟨h.hh,by have:=h.un;lia⟩
theorem DO.mono(h:DO n A)(hm:m<=n):DO m A:=⟨h.hh,by have:=h.un;lia,by have:=h.dp;lia⟩
section
variable(H:B_)(w:de)(b:aJ)(mg mb:pY)
def gh(n:a_)(K':o_)(F:Fn):Prop:=∃ a o fd,mg K'=f (.ref a)/\b.heap.get? a=f o/\o.data=.func fd /\
 ∀(A:dd) (E:cP) (s:aJ) (D:cg) (Y T':St) (as:al) (M:dI) (z:AV) (Q:cP),DO n A->Inv H w b s D Y->aG b.heap s.heap D as M->F Y as=f (T',z) ->
  fK H w b s D Y T' z Q->b_ (c_ H w) A (call (.ref a) M) Q E s
def DP(x:o_)(v:aY):Prop:=mg x=R/\mb x=f v
def vf(x:o_)(v:AV):Prop:=∃ u,mg x=f u/\∀ D,bB b.heap b.heap D v u
noncomputable def aao:tG->aY|.plain=>F_| .range=>.type "range" | .enum=>.type "enumerate" | .rev=>.type "reversed"
def sB(k:tG):Prop:=match Ga k with|R=>j?|f K'=>DP mg mb K' (aao k)
def Ok(n:a_):CE->Prop|.k O=>j?|.glob x v=>vf b mg x v|.var O=>j?|.bin O a c=>Ok n a/\Ok n c|.neg a=>Ok n a|.not a=>Ok n a|.cmp O a c=>Ok n a/\Ok n c|.isNone O a=>Ok n a|.isin O a c=>Ok n a/\Ok n c|.and a c=>Ok n a/\Ok n c|.or a c=>Ok n a/\Ok n c|.ite t a c=>Ok n t/\Ok n a/\Ok n c|.call K' F O as=>gh H w b mg n K' F/\Ok n as|.bi k as=>DP mg mb (BC k) (k9 k)/\Ok n as|.idx a i=>Ok n a/\Ok n i|.gK a i=>Ok n a/\Ok n i|.fu a i=>Ok n a/\Ok n i|.bc as=>Ok n as|.lst as=>Ok n as|.gA=>j?|.kZ a c=>Ok n a/\Ok n c|.bq e O ik it=>Ok n e/\sB mg mb ik/\Ok n it|.bR e O ik it c=>Ok n e/\sB mg mb ik/\Ok n it/\Ok n c|.dJ e O ik it O' tH qK=>Ok n e/\sB mg mb ik/\Ok n it/\sB mg mb tH/\Ok n qK|.jU k v O ik it=>Ok n k/\Ok n v/\sB mg mb ik/\Ok n it|.bad=>j?|.nil=>j?|.cons e r=>Ok n e/\Ok n r
structure Gx:Prop where
 g:b.heap.Ns p_ mg
 bu:b.heap.Ns K_ mb
 nl:b.heap.NoLimit
def VS(n:a_)(u':t?)(sc:SC)(c:CE)(e:av):Prop:=
 ∀(A:dd) (E:cP) (s:aJ) (D:cg) (Y T':St) (C:al) (z:AV) (Q:cP),DO n A->Inv H w b s D Y->ER b u' sc C s D->ev c Y C=f (T',z) ->
  fK H w b s D Y T' z Q->b_ (c_ H w) A (J_ e u') Q E s
def TS(n:a_)(u':t?)(sc:SC)(c:CE)(e:av):Prop:=
 ∀(A:dd) (E:cP) (s:aJ) (D:cg) (Y T':St) (C:al) (t:e_) (Q:e_->aJ->Prop),DO n A->Inv H w b s D Y->ER b u' sc C s D->ev c Y C=f (T',.bool t) ->
  so H w b s D Y T' (Q t)->b_ (c_ H w) A (O_ e u' (J_ e u')) Q E s
def LS(n:a_)(u':t?)(sc:SC)(c:CE)(es:dF):Prop:=
 ∀(A:dd) (E:cP) (s:aJ) (D:cg) (Y T':St) (C:al) (Z:al) (pos:Pos) (Q:dI->aJ->Prop),DO n A->Inv H w b s D Y->ER b u' sc C s D->ev c Y C=f (T',.tup Z) ->
  (∀ M s' ca,Inv H w b s' ca T'->dD [] s s' D ca Y T'->aG b.heap s'.heap ca Z M->Q M s')->b_ (c_ H w) A (spliced (X? pos (Gq es u'))) Q E s
def Sound(n:a_)(c:CE):Prop:=∀(u':t?) (nm:NM) (sc:SC) (arg:av ⊕ dF),eJ c nm sc arg=V->Ok H w b mg mb n c->(∀ x,u'.kindOf x=nm.lookup x)->u'.scope.kind=.function->u'.globals=p_->u'.builtins=K_->match arg with|.inl e=>VS H w b n u' sc c e/\TS H w b n u' sc c e|.inr es=>LS H w b n u' sc c es
end
section
variable{w:de}{b s s':aJ}{mg mb:pY}{D ca F':cg}{Y T' ae:St}{A:dd}{E:cP}{u':t?}{nm:NM}{sc:SC}{C:al}{n:a_}
theorem Sound.inl{c:CE}(h:∀(u':t?) (nm:NM) (sc:SC) (e:av),eJ c nm sc (.inl e)=V->Ok H w b mg mb n c->(∀ x,u'.kindOf x=nm.lookup x)->u'.scope.kind=.function->u'.globals=p_->u'.builtins=K_->VS H w b n u' sc c e/\TS H w b n u' sc c e)(hr:∀ nm sc es,eJ c nm sc (.inr es)=N'):Sound H w b mg mb n c:=λu' nm sc arg=>match arg with|.inl e=>h u' nm sc e|.inr es=>λU'=>fT ((hr nm sc es).symm.trans U')
theorem so.after{Q:aJ->Prop}(k:so H w b s D Y T' Q)(S:dD [] s cy D Nc Y ae):so H w b cy Nc ae T' Q:=
 λs' ca I S'=>k s' ca I (S.trans S')
theorem Inv.ns(I:Inv H w b s D Y){m:pY}(h:b.heap.Ns a m):s.heap.Ns a m:=Ns.kept h λo e=>I.keep a o e
theorem NI(I:Inv H w b s D Y)(h:∀ D,bB b.heap b.heap D v u):bB b.heap s.heap D v u:=
 (h D).mono (λa B' ⟨o,N,L⟩=>⟨o,I.keep a o N,L⟩) eU
theorem IP(Y':Gx b mg mb)(hk:u'.scope.kind=.function)(hg:u'.globals=p_)(I:Inv H w b s D Y)(hx:o1 nm x=V)(bV:∀ x,u'.kindOf x=nm.lookup x)(hv:mg x=f v){Q:cP}(k:Q v s) :
  b_ (c_ H w) A (J_ (.Name x pos) u') Q E s:=by
 dsimp only[o1]at hx;rw[jc]at hx;refine wpAny_Name ?_ (by simpa using hx.2);exact J (loadName_read hk ((bV x).trans (dY hx.1))) (Calls.loadGlobal_global (mg:=mg) (by exact J hg (I.ns Y'.g)) hv k)
theorem Uj(Y':Gx b mg mb)(hk:u'.scope.kind=.function)(hg:u'.globals=p_)(hb:u'.builtins=K_)(I:Inv H w b s D Y)(hx:o1 nm x=V)(bV:∀ x,u'.kindOf x=nm.lookup x)(hv:DP mg mb x v){Q:cP}(k:Q v s) :
  b_ (c_ H w) A (J_ (.Name x pos) u') Q E s:=by
 dsimp only[o1]at hx;rw[jc]at hx;refine wpAny_Name ?_ (by simpa using hx.2);exact J (loadName_read hk ((bV x).trans (dY hx.1))) (Calls.loadGlobal_builtin (mg:=mg) (mb:=mb) (by exact J hg (I.ns Y'.g)) hv.1 (by exact J hb (I.ns Y'.bu)) hv.2 k)
theorem TS.qC(h:VS H w b n u' sc c e)(he:O_ e u' (J_ e u')=(do let v <-J_ e u';zk e.pos;v? [v] (truthy v))):TS H w b n u' sc c e:=by intro A E s D Y T' C t Q hA I iv aN K;refine wpAny_isTrue_value (h A E s D Y T' C _ _ hA I iv aN λv s' ca I' S' rv=>?_) he;exact J rv.bool_inv (qI (K s' ca I' S'))
theorem Rw(Y':Gx b mg mb)(v:AV):Sound H w b mg mb n (.k v):=by
 refine Sound.inl (λu' nm sc e U' cq bV hk hg hb=>?_) λO O O=>X;revert U';refine QJ (λc hv U'=>?_);refine gy (tQ hv) λkk p fJ=>?_;subst fJ
 have hc:VS H w b n u' sc (.k v) (.Constant c kk p):=by
  intro A E s D Y T' C z Q hA I iv aN K;dsimp only[ev]at aN;rw[dQ,rU]at aN;obtain⟨rfl,rfl⟩:=aN;dsimp only[IM]at U';revert U';refine ZS (λbr bK U'=>?_) (λx y br bK U'=>?_) (λx y br bK U'=>?_) (λm x br bK U'=>?_);clear cq;subst br;clear hv;subst bK;rotate_left;clear cq;subst br;clear hv;subst bK;rotate_left;clear cq;subst br;clear hv;subst bK;rotate_left;clear cq;subst br;clear hv;subst bK;rotate_left
  .exact Mm (K.here I bB.none)
  .rw[dY U']at K;exact wpAny_Constant_bool (K.here I (bB.bool _))
  .rw[dY U']at K;exact wpAny_Constant_int (K.tok I (bB.int _ _))
  .rw[jc,Nat.blt_eq]at U';refine dT (dY U'.2) (wpAny_Constant_str (K.tok I ?_));exact⟨U'.1,_,X⟩
 exact⟨hc,TS.qC hc X⟩
theorem Gb(Y':Gx b mg mb)(x:o_)(v:AV):Sound H w b mg mb n (.glob x v):=by
 refine Sound.inl (λu' nm sc e U' cq bV hk hg hb=>?_) λO O O=>X;revert U';refine vY (λy hv U'=>?_);obtain⟨p,rfl⟩:=lj hv;rw[jc]at U';clear hv;obtain rfl:=dY U'.1;have hc:VS H w b n u' sc (.glob x v) (.Name x p):=by intro A E s D Y T' C z Q hA I iv aN K;refine ib λGq zq=>?_;dsimp only[ev]at aN;rw[dQ,rU]at aN;obtain⟨rfl,rfl⟩:=aN;obtain⟨u,N,L⟩:=cq;refine zq ?_;clear zq;exact IP Y' hk hg I U'.2 bV N (K.here I (NI I L))
 exact⟨hc,TS.qC hc X⟩
theorem Rx{x z:AV}{Y T':St}(e:(match x with|.ub=>Option.none|v=>f (Y,v))=f (T',z)):Y=T'/\x=z/\x≠.ub:=by
 have h:Y=T'/\x=z:=by cases x<;>first|exact nS e|exact oP e
 exact⟨h.1,h.2,λq=>by rw[q]at e;exact nS e⟩
theorem Kk(i:a_):Sound H w b mg mb n (.var i):=by
 refine Sound.inl (λu' nm sc e U' cq bV hk hg hb=>?_) λO O O=>X;revert U';refine vY (λy hv U'=>?_);obtain⟨p,qA⟩:=lj hv;clear hv;subst qA;have fD:(y,i)∈sc:=by refine ah (L7.mp U') λq N L=>?_;exact dT (dY L) N
 have hc:VS H w b n u' sc (.var i) (.Name y p):=by intro A E s D Y T' C z Q hA I iv aN K;obtain⟨vF,yI,ej⟩:=Rx aN;subst vF;clear aN;subst yI;refine iv.load fD ?_ λu ru=>K.here I ru;cases hv:ao C i with|ub=>exact g_ hv ej|_=>rfl
 exact⟨hc,TS.qC hc X⟩
theorem Kl(hx:Sound H w b mg mb n x)(hy:Sound H w b mg mb n y):Sound H w b mg mb n (.bin o x y):=by
 refine Sound.inl (λu' nm sc e U' cq bV hk hg hb=>?_) λO O O=>X;revert U';refine A9 (λl op r hv U'=>?_);obtain⟨p,rfl⟩:=Ru hv;refine JL U' λh0 N L=>?_;clear hv;obtain rfl:=dY h0;have hc:VS H w b n u' sc (.bin o x y) (.BinOp l (binOp o) r p):=by intro A E s D Y T' C z Q hA I iv aN K;revert aN;exact aM (λs1 a e1=>aM (λs2 c e2 aN=>wpAny_BinOp (((hx u' nm sc (.inl l) N cq.1 bV hk hg hb).1) A E s D Y s1 C a _ hA I iv e1 λu t1 cU I1 S1 r1=>((hy u' nm sc (.inl r) L cq.2 bV hk hg hb).1) A E t1 cU s1 s2 C c _ hA I1 (iv.bl I S1) e2 λu2 t2 gI I2 S2 r2=>VX I2 (I1.rep S2 aX.nil r1) r2 aN (K.after (S1.trans S2)))))
 exact⟨hc,TS.qC hc X⟩
theorem Km(hx:Sound H w b mg mb n x):Sound H w b mg mb n (.neg x):=by
 refine Sound.inl (λu' nm sc e U' cq bV hk hg hb=>?_) λO O O=>X;revert U';refine Ir (λop l hv U'=>?_);refine cC (NG hv) λp aL=>?_;subst aL;rw[jc]at U';clear hv;obtain rfl:=dY U'.1;have hc:VS H w b n u' sc (.neg x) (.UnaryOp .USub l p):=by intro A E s D Y T' C z Q hA I iv aN K;revert aN;refine Dk (λs1 i e1 aN=>?_);revert K;refine gJ aN ?_;intro K;refine wpAny_UnaryOp (((hx u' nm sc (.inl l) U'.2 cq bV hk hg hb).1) A E s D Y s1 C _ _ hA I iv e1 λu t1 cU I1 S1 r1=>?_);obtain⟨t,rfl⟩:=r1.int_inv;exact PyProof.Rows.neg_int ((K.after S1).tok I1 (bB.int _ _))
 exact⟨hc,TS.qC hc X⟩
theorem Kn(hx:Sound H w b mg mb n x):Sound H w b mg mb n (.not x):=by
 refine Sound.inl (λu' nm sc e U' cq bV hk hg hb=>?_) λO O O=>X;revert U';refine Ir (λop l hv U'=>?_);refine cC (NG hv) λp aL=>?_;subst aL;rw[jc]at U';clear hv;obtain rfl:=dY U'.1;refine cF (hx u' nm sc (.inl l) U'.2 cq bV hk hg hb) λaj XT=>⟨?_,?_⟩
 .intro A E s D Y T' C z Q hA I iv aN K;revert aN;refine T8 (λs1 i e1 aN=>?_);revert K;refine gJ aN ?_;intro K;exact wpAny_UnaryOp (aj A E s D Y s1 C _ _ hA I iv e1 λu t1 cU I1 S1 r1=>J r1.bool_inv (not_of (qI ((K.after S1).here I1 (bB.bool _)))))
 .intro A E s D Y T' C t Q hA I iv aN K;revert aN;refine T8 (λs1 i e1 aN=>?_);simp only[dQ,rU,AV.bool.injEq]at aN;obtain⟨rfl,rfl⟩:=aN;exact wpAny_isTrue_Not (XT A E s D Y s1 C i _ hA I iv e1 K)
theorem o3(h:fM r=V):behindInMarks op r=N':=by cases r<;>first|rfl|(exact fT h)
theorem rn(hm:behindInMarks op r=N')(h:∀(A:dd) (E:cP) (s:aJ) (D:cg) (Y T':St) (C:al) (z:AV) (Q:cP),DO n A->Inv H w b s D Y->ER b u' sc C s D->ev c Y C=f (T',z)->fK H w b s D Y T' z Q ->
   b_ (c_ H w) A (J_ l u') (λa cy=>b_ (c_ H w) A (J_ r u') (λd oX=>b_ (c_ H w) A (G? op a d) Q E oX) E cy) E s) :
  VS H w b n u' sc c (.Compare l [op] [r] p)/\TS H w b n u' sc c (.Compare l [op] [r] p):=by
 refine⟨λA E s D Y T' C z Q hA I iv aN K=>wpAny_Compare1 (h A E s D Y T' C z Q hA I iv aN K) hm,λA E s D Y T' C t Q hA I iv aN K=>?_⟩;refine wpAny_isTrue_Compare1 (h A E s D Y T' C _ _ hA I iv aN λv s' ca I' S' rv=>?_) hm;exact J rv.bool_inv (qI (K s' ca I' S'))
theorem Ko(hx:Sound H w b mg mb n x)(hy:Sound H w b mg mb n y):Sound H w b mg mb n (.cmp o x y):=by refine Sound.inl (λu' nm sc e U' cq bV hk hg hb=>?_) λO O O=>X;revert U';refine wJ (λl op r hv U'=>?_);obtain⟨p,rfl⟩:=BA hv;refine bn4 U' λh0 hp N L=>?_;clear hv;obtain rfl:=dY h0;refine rn (o3 hp) λA E s D Y T' C z Q hA I iv aN K=>ib λGq zq=>?_;revert aN;refine aM (λs1 a e1=>aM (λs2 c e2=>eI (λq eq aN=>?_)));refine zq ?_;clear zq;revert K;refine gJ aN ?_;intro K;exact((hx u' nm sc (.inl l) N cq.1 bV hk hg hb).1) A E s D Y s1 C a _ hA I iv e1 λu t1 cU I1 S1 r1=>((hy u' nm sc (.inl r) L cq.2 bV hk hg hb).1) A E t1 cU s1 s2 C c _ hA I1 (iv.bl I S1) e2 λu2 t2 gI I2 S2 r2=>V4 hA.a I2 (I1.rep S2 aX.nil r1) r2 eq ((K.after (S1.trans S2)).here I2 (bB.bool _))
theorem BD(hx:Sound H w b mg mb n x):Sound H w b mg mb n (.isNone y x):=by refine Sound.inl (λu' nm sc e U' cq bV hk hg hb=>?_) λO O O=>X;revert U';refine wJ (λl op r hv U'=>?_);obtain⟨p,rfl⟩:=BA hv;refine JL U' λh0 hp N=>?_;obtain rfl:=dY h0;refine gy (tQ (dY hp)) λk1 p1 fJ=>?_;clear hp hv;subst fJ;refine rn X λA E s D Y T' C z Q hA I iv aN K=>?_;revert aN;refine aM (λs1 a e1 aN=>?_);revert K;refine gJ aN ?_;intro K;exact((hx u' nm sc (.inl l) N cq bV hk hg hb).1) A E s D Y s1 C a _ hA I iv e1 λu t1 cU I1 S1 r1=>Mm (JR r1 ((K.after S1).here I1 (bB.bool _)))
theorem Ge(hx:Sound H w b mg mb n x)(hy:Sound H w b mg mb n d):Sound H w b mg mb n (.isin y x d):=by refine Sound.inl (λu' nm sc e U' cq bV hk hg hb=>?_) λO O O=>X;revert U';refine wJ (λl op r hv U'=>?_);obtain⟨p,rfl⟩:=BA hv;refine bn4 U' λh0 hp N L=>?_;clear hv;obtain rfl:=dY h0;refine rn (o3 hp) λA E s D Y T' C z Q hA I iv aN K=>ib λGq zq=>?_;revert aN;refine aM (λs1 a e1=>aM (λs2 c e2=>eI (λq eq aN=>?_)));refine zq ?_;clear zq;revert K;refine gJ aN ?_;intro K;exact((hx u' nm sc (.inl l) N cq.1 bV hk hg hb).1) A E s D Y s1 C a _ hA I iv e1 λu t1 cU I1 S1 r1=>((hy u' nm sc (.inl r) L cq.2 bV hk hg hb).1) A E t1 cU s1 s2 C c _ hA I1 (iv.bl I S1) e2 λu2 t2 gI I2 S2 r2=>aab hA.a I2 (I1.rep S2 aX.nil r1) r2 eq λt=>(K.after (S1.trans S2)).tok I2 (bB.bool _)
end
section
variable{w:de}{b s s' mO:aJ}{mg mb:pY}{D ca NJ F':cg}{Y T' ae da:St}{A:dd}{E:cP}{u':t?}{nm:NM}{sc:SC}{C:al}{n:a_}
theorem Inv.adopt(I:Inv H w b s D Y)(U':∃ ob,s.heap.get? a=f ob/\(ob.cls=.type "list"\/ob.cls=.type "dict"))(T9:a∉D)(QR:b.heap.get? a=R)(Qi:(a==i_)=N')(hp:Y.push o=f T') (ho:yJ H w b.heap s.heap D a o):Inv H w b s (D++[a]) T'/\(D++[a])[Y.n]?=f a:=by
 obtain⟨hn,he⟩:=wN hp;have q8:D <+: D++[a]:=Vh _ _;have Bd:(D++[a])[Y.n]?=f a:=by refine dT I.len ?_;simp
 refine⟨⟨I.same,I.keep,I.low,I.yK,by exact J ou (J I.len (J hn X)),?_,λc m=>?_,λc m=>?_,λi e N=>?_⟩,Bd⟩
 .refine J (propext Vf) ⟨I.nodup,(by simp),λx hx y hy=>?_⟩;rw[az]at hy;subst hy;rintro rfl;exact T9 hx
 .rcases fH.mp m with m|m
  .exact I.fresh c m
  .rw[az]at m;clear U' T9 ho q8 Bd;subst m;exact⟨QR,Qi⟩
 .rcases fH.mp m with m|m
  .exact I.cls c m
  .rw[az]at m;clear T9 QR Qi ho q8 Bd;subst m;exact U'
 .rw[he]at N;split at N
  rename_i q
  rotate_left;rotate_left
  .subst q;obtain rfl:=aw N;exact aK a Bd (ho.keeps (λO O t=>t) q8 λO e=>e)
  .refine ah (I.obj i e N) λc L h3=>?_;exact aK c (vZ q8 L) (h3.keeps (λO O t=>t) q8 λO e=>e)
theorem dD.adopt(S:dD F' mO s NJ D da Y)(ahu:Inv H w b mO NJ da)(I:Inv H w b s D Y)(jr:mO.heap.get? a=R)(hp:Y.push o=f T'):dD F' mO s NJ (D++[a]) da T':=by
 obtain⟨hn,he⟩:=wN hp;refine⟨S.pre.trans (Vh _ _),λc U'=>?_,S.fr,λi hi=>(sk ?_).trans (S.flags i hi),S.lock,S.Dq⟩
 .rcases fH.mp U' with m|m
  .exact S.new c m
  .rw[az]at m;clear U';subst m;exact .inr jr
 .rw[he,ak]
  have:=S.pre.length_le
  refine dT I.len ?_;lia
theorem Kp:Sound H w b mg mb n .bad:=by
 refine Sound.inl (λu' nm sc e U' cq bV hk hg hb=>?_) λO O O=>X;refine⟨?_,?_⟩
 .intro A E s D Y T' C z Q hA I iv aN K;exact nS aN
 .intro A E s D Y T' C z Q hA I iv aN K;exact nS aN
theorem Kq:Sound H w b mg mb n .nil:=by intro u' nm sc arg U' cq bV hk hg hb;cases arg with|inl e=>exact fT U'|inr es=>
  dsimp only[eJ]at U'
  have:es=[]:=U6.mp U'
  clear U';subst this;intro A E s D Y T' C Z pos Q hA I iv aN K;dsimp only[ev]at aN;rw[dQ,rU,AV.tup.injEq]at aN;obtain⟨eG,iC⟩:=aN;subst eG;subst iC;exact zO (K [] s D I (dD.refl _ _ _ _) aG.nil)
theorem aH(h:gS e=V):Gq (e::es) u'=(N',J_ e u')::Gq es u':=by cases e<;>first|rfl|(exact fT h)
theorem Gf(hx:Sound H w b mg mb n x)(hr:Sound H w b mg mb n r):Sound H w b mg mb n (.cons x r):=by intro u' nm sc arg U' cq bV hk hg hb;cases arg with|inl e=>exact fT U'|inr es=>cases es with|nil=>exact fT U'|cons e es=>dsimp only[eJ]at U';refine JL U' λh0 N L=>?_;have R':=hr u' nm sc (.inr es) L cq.2 bV hk hg hb;intro A E s D Y T' C Z pos Q hA I iv aN K;revert aN;refine aM (λs1 a e1=>qP (λs2 ys e2 aN=>?_));simp only[dQ,rU,AV.tup.injEq]at aN;obtain⟨j6,mr⟩:=aN;subst j6;subst mr;refine wC (((hx u' nm sc (.inl e) N cq.1 bV hk hg hb).1) A E s D Y s1 C a _ hA I iv e1 λu t1 cU I1 S1 r1=>?_) (aH h0);exact R' A E t1 cU s1 s2 C ys pos _ hA I1 (iv.bl I S1) e2 λM t2 gI I2 S2 r2=>K _ _ _ I2 (S1.trans S2) (aG.cons (I1.rep S2 aX.nil r1) r2)
theorem sC(op:BoolOp)(M:dF)(p:Pos)(a c:Sem aY):O_ (.BoolOp op M p) u' a=O_ (.BoolOp op M p) u' c:=rfl
theorem Kr(hx:Sound H w b mg mb n x)(hy:Sound H w b mg mb n y):Sound H w b mg mb n (.and x y):=by
 refine Sound.inl (λu' nm sc e U' cq bV hk hg hb=>?_) λO O O=>X;revert U';refine ZT (λv1 v2 r p hv U'=>?_);obtain rfl:=DN hv;refine Il U' λN L=>cF (hx u' nm sc (.inl v1) N cq.1 bV hk hg hb) λaj XT=>?_;have σ:VS H w b n u' sc y (.BoolOp .And (v2::r) p)/\TS H w b n u' sc y (.BoolOp .And (v2::r) p):=by cases r with|nil=>(refine cF (hy u' nm sc (.inl v2) L cq.2 bV hk hg hb) λσ YT=>⟨λA E s D Y T' C z Q hA I iv aN K=>BoolOp_one (σ A E s D Y T' C z Q hA I iv aN K),λA E s D Y T' C t Q hA I iv aN K=>?_⟩;refine isTrue_and (YT A E s D Y T' C t _ hA I iv aN λs' ca I' S'=>?_);cases t with|true=>exact isTrue_and_nil (K s' ca I' S')|false=>exact K s' ca I' S')|cons v3 r=>exact hy u' nm sc (.inl (.BoolOp .And (v2::v3::r) p)) L cq.2 bV hk hg hb
 obtain⟨σ,YT⟩:=σ;refine⟨?_,?_⟩
 .intro A E s D Y T' C z Q hA I iv aN K;revert aN;refine sh (λs1 e1 aN=>?_) (λs1 e1 aN=>?_)
  .exact BoolOp_and (aj A E s D Y s1 C _ _ hA I iv e1 λu t1 cU I1 S1 r1=>J r1.bool_inv (qI (σ A E t1 cU s1 T' C z _ hA I1 (iv.bl I S1) aN (K.after S1))))
  .revert K;refine gJ aN ?_;intro K;exact BoolOp_and (aj A E s D Y s1 C _ _ hA I iv e1 λu t1 cU I1 S1 r1=>J r1.bool_inv (qI ((K.after S1).here I1 (bB.bool _))))
 .intro A E s D Y T' C t Q hA I iv aN K;revert aN;refine sh (λs1 e1 aN=>?_) (λs1 e1 aN=>?_)
  .exact isTrue_and (XT A E s D Y s1 C V _ hA I iv e1 λt1 cU I1 S1=>J (sC .And (v2::r) p _ (J_ (.BoolOp .And (v2::r) p) u')) (YT A E t1 cU s1 T' C t _ hA I1 (iv.bl I S1) aN (K.after S1)))
  .simp only[dQ,rU,AV.bool.injEq]at aN;obtain⟨oU,qA⟩:=aN;subst oU;subst qA;exact isTrue_and (XT A E s D Y s1 C N' _ hA I iv e1 λt1 cU I1 S1=>K t1 cU I1 S1)
theorem NK(hx:Sound H w b mg mb n x)(hy:Sound H w b mg mb n y):Sound H w b mg mb n (.or x y):=by
 refine Sound.inl (λu' nm sc e U' cq bV hk hg hb=>?_) λO O O=>X;revert U';refine Vt (λv1 v2 r p hv U'=>?_);obtain rfl:=DN hv;refine Il U' λN L=>cF (hx u' nm sc (.inl v1) N cq.1 bV hk hg hb) λaj XT=>?_;have σ:VS H w b n u' sc y (.BoolOp .Or (v2::r) p)/\TS H w b n u' sc y (.BoolOp .Or (v2::r) p):=by cases r with|nil=>(refine cF (hy u' nm sc (.inl v2) L cq.2 bV hk hg hb) λσ YT=>⟨λA E s D Y T' C z Q hA I iv aN K=>BoolOp_one (σ A E s D Y T' C z Q hA I iv aN K),λA E s D Y T' C t Q hA I iv aN K=>?_⟩;refine isTrue_or (YT A E s D Y T' C t _ hA I iv aN λs' ca I' S'=>?_);cases t with|false=>exact isTrue_or_nil (K s' ca I' S')|true=>exact K s' ca I' S')|cons v3 r=>exact hy u' nm sc (.inl (.BoolOp .Or (v2::v3::r) p)) L cq.2 bV hk hg hb
 obtain⟨σ,YT⟩:=σ;refine⟨?_,?_⟩
 .intro A E s D Y T' C z Q hA I iv aN K;revert aN;refine T7 (λs1 e1 aN=>?_) (λs1 e1 aN=>?_)
  .exact BoolOp_or (aj A E s D Y s1 C _ _ hA I iv e1 λu t1 cU I1 S1 r1=>J r1.bool_inv (qI (σ A E t1 cU s1 T' C z _ hA I1 (iv.bl I S1) aN (K.after S1))))
  .revert K;refine gJ aN ?_;intro K;exact BoolOp_or (aj A E s D Y s1 C _ _ hA I iv e1 λu t1 cU I1 S1 r1=>J r1.bool_inv (qI ((K.after S1).here I1 (bB.bool _))))
 .intro A E s D Y T' C t Q hA I iv aN K;revert aN;refine T7 (λs1 e1 aN=>?_) (λs1 e1 aN=>?_)
  .exact isTrue_or (XT A E s D Y s1 C N' _ hA I iv e1 λt1 cU I1 S1=>J (sC .Or (v2::r) p _ (J_ (.BoolOp .Or (v2::r) p) u')) (YT A E t1 cU s1 T' C t _ hA I1 (iv.bl I S1) aN (K.after S1)))
  .simp only[dQ,rU,AV.bool.injEq]at aN;obtain⟨vF,yI⟩:=aN;subst vF;subst yI;exact isTrue_or (XT A E s D Y s1 C V _ hA I iv e1 λt1 cU I1 S1=>K t1 cU I1 S1)
theorem isTrue_IfExp{Q:e_->aJ->Prop}(h:b_ (c_ H w) A (O_ t u' (J_ t u')) (λc cy=>if c then b_ (c_ H w) A (O_ x u' (J_ x u')) Q E cy else b_ (c_ H w) A (O_ y u' (J_ y u')) Q E cy) E s) :
  b_ (c_ H w) A (O_ (.IfExp t x y p) u' whole) Q E s:=by
 simp only[arm_isTrue_IfExp];refine aT (oy h (λc cy su=>?_) λO O e=>e);cases c with|true=>exact su|false=>exact su
theorem Ks(ht:Sound H w b mg mb n t)(hx:Sound H w b mg mb n x)(hy:Sound H w b mg mb n y):Sound H w b mg mb n (.ite t x y):=by
 refine Sound.inl (λu' nm sc e U' cq bV hk hg hb=>?_) λO O O=>X;refine ib λGq zq=>?_;revert U';refine QL (λe1 e2 e3 hv U'=>?_);refine cC (Wl hv) λp aL=>?_;clear hv;subst aL;refine JL U' λN L h3=>cF (ht u' nm sc (.inl e1) N cq.1 bV hk hg hb) λT TT=>cF (hx u' nm sc (.inl e2) L cq.2.1 bV hk hg hb) λaj XT=>cF (hy u' nm sc (.inl e3) h3 cq.2.2 bV hk hg hb) λσ YT=>?_;refine zq ?_;clear zq;refine⟨?_,?_⟩
 .intro A E s D Y T' C z Q hA I iv aN K;revert aN;refine sh (λs1 e1 aN=>?_) (λs1 e1 aN=>?_)
  .exact wpAny_IfExp (TT A E s D Y s1 C V _ hA I iv e1 λt1 cU I1 S1=>aj A E t1 cU s1 T' C z _ hA I1 (iv.bl I S1) aN (K.after S1))
  .exact wpAny_IfExp (TT A E s D Y s1 C N' _ hA I iv e1 λt1 cU I1 S1=>σ A E t1 cU s1 T' C z _ hA I1 (iv.bl I S1) aN (K.after S1))
 .intro A E s D Y T' C z Q hA I iv aN K;revert aN;refine sh (λs1 e1 aN=>?_) (λs1 e1 aN=>?_)
  .exact isTrue_IfExp (TT A E s D Y s1 C V _ hA I iv e1 λt1 cU I1 S1=>XT A E t1 cU s1 T' C z _ hA I1 (iv.bl I S1) aN (K.after S1))
  .exact isTrue_IfExp (TT A E s D Y s1 C N' _ hA I iv e1 λt1 cU I1 S1=>YT A E t1 cU s1 T' C z _ hA I1 (iv.bl I S1) aN (K.after S1))
theorem DQ:∀(es:dF) (as:CE),eJ as nm sc (.inr es)=V->(∀ e∈es,gS e=V):=λw'=>by induction w' with|nil=>(intro O O;exact λO m=>nomatch m)|cons e es ih=>
  intro as h
  cases as with
  |cons x r=>
   dsimp only[eJ]at h;simp only[jc]at h;intro e' m;rcases aV.mp m with Dp|m
   .clear m;subst Dp;exact h.1.1
   .exact ih r h.2 e' m
  |_=>exact fT h
theorem xi:∀(es:dF),(∀ e∈es,gS e=V)->(X? pos (Gq es u')).any (·.1)=N':=λw'=>by induction w' with|nil=>intro O;exact X|cons e es ih=>intro h;refine J (aH (h e aQ)) ?_;show(N'||(X? pos (Gq es u')).any (·.1))=N';refine J (ih λe' m=>h e' (bg _ m)) ?_;rfl
theorem Gg(Y':Gx b mg mb)(B:Sound H w b mg mb n as):Sound H w b mg mb n (.call K' F P as):=by
 refine Sound.inl (λu' nm sc e U' cq bV hk hg hb=>?_) λO O O=>X;revert U';refine It (λg es hv U'=>?_);refine Mx (xg hv) λnp p a0 r0 q94 Wo=>?_;subst q94;subst Wo;refine JL U' λh0 N L=>?_;clear hv;obtain rfl:=dY h0;refine Ij (cq.1) λa o fd m1 m2 m3 gT=>?_;have hc:VS H w b n u' sc (.call K' F P as) (.Call (.Name K' np) (a0::r0) [] p):=by intro A E s D Y T' C z Q hA I iv aN K;revert aN;refine qP (λs1 Z e1 aN=>Call_Name X (IP Y' hk hg I N bV m1 (callWith_def m3 ?_ (aH (DQ _ _ L a0 aQ)))));refine(B u' nm sc (.inr (a0::r0)) L cq.2 bV hk hg hb) A E s D Y s1 C Z p _ hA I iv e1 λM t1 cU I1 S1 r1=>⟨I1.keep a o m2,?_⟩;exact gT A E t1 cU s1 T' Z M z Q hA I1 r1 aN (K.after S1)
 exact⟨hc,TS.qC hc X⟩
theorem NL(Y':Gx b mg mb)(B:Sound H w b mg mb n as):Sound H w b mg mb n (.bi k as):=by
 refine Sound.inl (λu' nm sc e U' cq bV hk hg hb=>?_) λO O O=>X;revert U';refine It (λg es hv U'=>?_);refine Mx (xg hv) λnp p a0 r0 q94 Wo=>?_;subst q94;clear hv;subst Wo;refine JL U' λh0 N L=>?_;have h0:=dY h0;have h2:=B u' nm sc (.inr (a0::r0)) L cq.2 bV hk hg hb;have hns:=DQ _ _ L;have vM:gS a0=V:=hns a0 aQ;have Ab:(X? p (Gq r0 u')).any (·.1)=N':=xi r0 λe m=>hns e (bg _ m)
 have hc:VS H w b n u' sc (.bi k as) (.Call (.Name g np) (a0::r0) [] p):=by
  intro A E s D Y T' C z Q hA I iv aN K;revert aN;refine qP (λs1 Z e1 aN=>Call_Name X (Uj Y' hk hg hb I (h0▸N) bV (h0▸cq.1) ?_))
  have core:b_ (c_ H w) A (spliced (X? p (Gq (a0::r0) u'))) (λM cy=>b_ (c_ H w) A (call (k9 k) M) Q E cy) E s:=
   h2 A E s D Y s1 C Z p _ hA I iv e1 λM t1 cU I1 S1 r1=>aaa hA.a I1 r1 aN (K.after S1)
  cases k with|list=>exact C1 core (aH vM) Ab|tuple=>exact C1 core (aH vM) Ab|dict=>exact C1 core (aH vM) Ab|int=>exact C1 core (aH vM) Ab|abs=>exact uM core (aH vM) Ab|len=>exact uM core (aH vM) Ab|sum=>exact uM core (aH vM) Ab|yH=>exact uM core (aH vM) Ab|max2=>exact uM core (aH vM) Ab|min2=>exact uM core (aH vM) Ab|any=>exact uM core (aH vM) Ab|all=>exact uM core (aH vM) Ab
 exact⟨hc,TS.qC hc X⟩
theorem DR(h:xf e=V):isSlice e=N':=(rW _).mp h
theorem Ku(hx:Sound H w b mg mb n x)(hy:Sound H w b mg mb n y):Sound H w b mg mb n (.idx x y):=by
 refine Sound.inl (λu' nm sc e U' cq bV hk hg hb=>?_) λO O O=>X;revert U';refine pZ (λl r hv U'=>?_);obtain⟨p,wM⟩:=sA hv;clear hv;subst wM;refine JL U' λh0 N L=>?_;have hc:VS H w b n u' sc (.idx x y) (.Subscript l r p):=by intro A E s D Y T' C z Q hA I iv aN K;refine ib λGq zq=>?_;revert aN;refine aM (λs1 a e1=>aM (λs2 c e2=>Ba (λv ez aN=>?_)));refine zq ?_;clear zq;revert K;refine gJ aN ?_;intro K;exact Subscript_ (((hx u' nm sc (.inl l) N cq.1 bV hk hg hb).1) A E s D Y s1 C a _ hA I iv e1 λu t1 cU I1 S1 r1=>((hy u' nm sc (.inl r) L cq.2 bV hk hg hb).1) A E t1 cU s1 s2 C c _ hA I1 (iv.bl I S1) e2 λu2 t2 gI I2 S2 r2=>V8 hA.a I2 (I1.rep S2 aX.nil r1) r2 ez (DR h0) (K.after (S1.trans S2)))
 exact⟨hc,TS.qC hc X⟩
theorem Gh(hx:Sound H w b mg mb n x)(hy:Sound H w b mg mb n y):Sound H w b mg mb n (.gK x y):=by
 refine Sound.inl (λu' nm sc e U' cq bV hk hg hb=>?_) λO O O=>X;revert U';refine pZ (λl r hv U'=>?_);obtain⟨p,rfl⟩:=sA hv;revert U';refine dK (λu hu U'=>?_);refine cC (Wm hu) λp2 aL=>?_;clear hv hu;subst aL;refine Il U' λN L=>?_;have σ:=(hy u' nm sc (.inl u) L cq.2 bV hk hg hb).1;have hc:VS H w b n u' sc (.gK x y) (.Subscript l (.Slice R (f u) R p2) p):=by intro A E s D Y T' C z Q hA I iv aN K;revert aN;exact aM (λs1 a e1=>aM (λs2 c e2 aN=>Subscript_ (((hx u' nm sc (.inl l) N cq.1 bV hk hg hb).1) A E s D Y s1 C a _ hA I iv e1 λu t1 cU I1 S1 r1=>zW (cB (σ A E t1 cU s1 s2 C c _ hA I1 (iv.bl I S1) e2 λu2 t2 gI I2 S2 r2=>Q6 hA.a I2 (I1.rep S2 aX.nil r1) r2 aN (K.after (S1.trans S2)))))))
 exact⟨hc,TS.qC hc X⟩
theorem BE(hx:Sound H w b mg mb n x)(hy:Sound H w b mg mb n y):Sound H w b mg mb n (.fu x y):=by
 refine Sound.inl (λu' nm sc e U' cq bV hk hg hb=>?_) λO O O=>X;revert U';refine pZ (λl r hv U'=>?_);obtain⟨p,rfl⟩:=sA hv;revert U';refine dK (λu hu U'=>?_);refine cC (NH hu) λp2 aL=>?_;clear hv hu;subst aL;refine Il U' λN L=>?_;have σ:=(hy u' nm sc (.inl u) L cq.2 bV hk hg hb).1;have hc:VS H w b n u' sc (.fu x y) (.Subscript l (.Slice (f u) R R p2) p):=by intro A E s D Y T' C z Q hA I iv aN K;revert aN;exact aM (λs1 a e1=>aM (λs2 c e2 aN=>Subscript_ (((hx u' nm sc (.inl l) N cq.1 bV hk hg hb).1) A E s D Y s1 C a _ hA I iv e1 λu t1 cU I1 S1 r1=>zW (σ A E t1 cU s1 s2 C c _ hA I1 (iv.bl I S1) e2 λu2 t2 gI I2 S2 r2=>cB (JT hA.a I2 (I1.rep S2 aX.nil r1) r2 aN (K.after (S1.trans S2)))))))
 exact⟨hc,TS.qC hc X⟩
theorem NN:∀(es:dF) (as:CE) (Y T':St) (C Z:al),eJ as nm sc (.inr es)=V->ev as Y C=f (T',.tup Z)->Z.length=es.length:=λw'=>by induction w' with|nil=>(intro as Y T' C Z h he;cases as with|nil=>dsimp only[ev]at he;rw[dQ,rU,AV.tup.injEq]at he;exact dT he.2 X|_=>exact fT h)|cons e es ih=>intro as Y T' C Z h he;cases as with|cons x r=>dsimp only[eJ]at h;simp only[jc]at h;revert he;refine aM (λs1 a e1=>qP (λs2 ys e2 he=>?_));simp only[dQ,rU,AV.tup.injEq]at he;simp only[<-he.2,fE,fE,ih r s1 s2 C ys h.2 e2]|_=>exact fT h
theorem Gi(B:Sound H w b mg mb n as):Sound H w b mg mb n (.bc as):=by
 refine Sound.inl (λu' nm sc e U' cq bV hk hg hb=>?_) λO O O=>X;revert U';refine Iv (λes hv U'=>?_);refine gy (IK hv) λk p fJ=>?_;clear hv;subst fJ;rw[jc,CU]at U';have hc:VS H w b n u' sc (.bc as) (.Tuple es k p):=by intro A E s D Y T' C z Q hA I iv aN K;revert aN;refine qP (λs1 Z e1 aN=>?_);revert K;refine gJ aN ?_;intro K;refine wpAny_Tuple ((B u' nm sc (.inr es) U'.2 cq bV hk hg hb) A E s D Y s1 C Z p _ hA I iv e1 λM t1 cU I1 S1 r1=>⟨?_,(K.after S1).tuple I1 r1⟩);refine J r1.length (J (NN es as Y s1 C Z U'.2 e1) (J wB ?_));lia
 exact⟨hc,TS.qC hc X⟩
theorem o5(h:jl Y o=f (T',z)):Y.push o=f T'/\z=.ref Y.n:=by revert h;exact dx (λs' e h=>gJ h ⟨e,X⟩)
theorem Kv(B:Sound H w b mg mb n as):Sound H w b mg mb n (.lst as):=by
 refine Sound.inl (λu' nm sc e U' cq bV hk hg hb=>?_) λO O O=>X;revert U';refine Iv (λes hv U'=>?_);refine cC (Rv hv) λp aL=>?_;clear hv;subst aL;rw[jc,CU]at U';have hc:VS H w b n u' sc (.lst as) (.List es p):=by intro A E s D Y T' C z Q hA I iv aN K;revert aN;refine qP (λs1 Z e1 aN=>?_);obtain⟨hp,V5⟩:=o5 aN;clear aN;subst V5;refine wpAny_List ((B u' nm sc (.inr es) U'.2 cq bV hk hg hb) A E s D Y s1 C Z p _ hA I iv e1 λM t1 cU I1 S1 r1=>⟨?_,(K.after S1).mS hp I1 r1 X⟩);refine J r1.length (J (NN es as Y s1 C Z U'.2 e1) (J wB ?_));lia
 exact⟨hc,TS.qC hc X⟩
theorem DT:Sound H w b mg mb n .gA:=by
 refine Sound.inl (λu' nm sc e U' cq bV hk hg hb=>?_) λO O O=>X;dsimp only[eJ]at U';refine cC (Ki U') λp aL=>?_;clear U';subst aL;have hc:VS H w b n u' sc .gA (.Dict [] [] p):=by intro A E s D Y T' C z Q hA I iv aN K;dsimp only[ev]at aN;obtain⟨hp,V6⟩:=o5 aN;clear aN;subst V6;refine wpAny_Dict_empty ?_;have hd:=nJ (w:=w) s.heap;have vs:=I.alloc (t:=s.toks) (λc ob e=>kE _ e) (dM _) I.low (fL _ I.low) (DictOfH.cls hd) hp λht hq=>⟨[],hd,X⟩;exact K _ _ _ vs.1 vs.2.1 (bB.ref vs.2.2)
 exact⟨hc,TS.qC hc X⟩
theorem DU(hx:Sound H w b mg mb n x)(hy:Sound H w b mg mb n y):Sound H w b mg mb n (.kZ x y):=by
 refine Sound.inl (λu' nm sc e U' cq bV hk hg hb=>?_) λO O O=>X;revert U';refine pZ (λl r hv U'=>?_);obtain⟨p,ad5⟩:=Kj hv;clear hv;subst ad5;refine Il U' λN L=>?_;have aj:=(hx u' nm sc (.inl l) N cq.1 bV hk hg hb).1;have σ:=(hy u' nm sc (.inl r) L cq.2 bV hk hg hb).1
 have hc:VS H w b n u' sc (.kZ x y) (.Dict [f l] [r] p):=by
  intro A E s D Y T' C z Q hA I iv aN K;refine ib λGq zq=>?_;revert aN;refine qP (λs1 kt e1=>aM (λs2 c e2=>fz (λks ek aN=>?_)));obtain⟨hp,V7⟩:=o5 aN;clear aN;subst V7;have hd:=nJ (w:=w) s.heap;refine zq ?_;clear zq;have M0:=I.more (h':=s.heap.push {cls:=.type "dict",data:=.dict #[]}) (t:=s.toks) (λc ob e=>kE _ e) (fL _ I.low);have jr:=dM s.heap;have hD0:s.heap.objs.size∉D:=λm=>by refine ah (I.cls _ m) λob Dv O=>?_;rw[jr]at Dv;exact nS Dv
  have QR:b.heap.get? s.heap.objs.size=R:=by cases q:b.heap.get? s.heap.objs.size with|none=>rfl|some o=>rw[I.keep _ _ q]at jr;exact sN jr
  refine wpAny_Dict_any X X (by simp) (by exact iG _) (evalPairs_cons (aj A E _ D Y s1 C _ _ hA M0.1 (iv.bl I M0.2) e1 λu t1 cU I1 S1 r1=>aT (σ A E t1 cU s1 s2 C c _ hA I1 ((iv.bl I M0.2).bl M0.1 S1) e2 λu2 t2 gI I2 S2 r2=>aT (zP (cB (evalPairs_nil ?_))))));have S02:=S1.trans S2;refine ah (DictOfH.cls hd) λob Dv O=>?_;have hD2:s.heap.objs.size∉gI:=jM S02 hD0 Dv;have hd2:t2.heap.DictOfH (tk H w) s.heap.objs.size []:=by obtain⟨o,es,ep,g1,g2,g3,g4,g5,g6⟩:=hd;exact Zt o es ep (S02.fr _ o hD0 (λm=>nomatch m) g1) g2 g3 g4 (λx hx=>nomatch hx) g6
  have r1':=I1.rep S2 aX.nil r1;rw[ie ek]at r1';refine ah (g8 (w:=w) r1') λka bK hka=>?_;clear r1 r1';subst bK;show b_ _ _ (forIn [(H_ ka,u2)] PUnit.unit λ(x:aY × aY) (_:PUnit)=>(do dictSet s.heap.objs.size x.1 x.2;pure (n_ PUnit.unit):Sem (ForInStep PUnit))) _ _ t2;refine J (C5 _ _ _ _) (aT (aT (wpAny_dictSet_heap (IB hA.a) hka hd2 (λh' u6 Fy=>?_) (by refine J wB ?_;exact ji _))));refine cB ?_;dsimp only;refine J HW (cB ?_);have okD:aX [s.heap.objs.size] t2.heap:=aX.of λa B o ho Z n=>by rw[az]at B;subst B;obtain⟨o',_,_,g1,_,g3,_⟩:=hd2;rw[g1]at ho;obtain rfl:=aw ho;exact J g3 (λe=>nomatch e)
  have M3:=I2.quiet (F':=[s.heap.objs.size]) (h':=h') (t:=t2.toks+(tk H w).draws ks) (λa o N L=>(Fy.2 a λq=>N (by simp[q])).trans L) okD (λa B=>by rw[az]at B;subst B;exact hD2)
   (λa B=>by rw[az]at B;subst B;exact QR) (λa B o O=>by
    rw[az]at B;subst B;refine ah (DictOfH.cls u6) λob' h' O=>?_
    exact⟨ob',h'⟩) (by exact J Fy.1 I2.low)
  have hkv:cO b.heap h' gI [(ks,c)] (storedH [] ks ka u2):=by
   have:cO b.heap t2.heap gI [] []:=X
   exact(this.store r6 ks ka r2).mono (I2.gM M3.2 okD) eU
  have M4:=M3.1.adopt (DictOfH.cls u6) hD2 QR (uO (rZ I.low)) hp ⟨_,u6,hkv⟩;exact K _ _ _ M4.1 (((((M0.2.trans S02).weaken (λO m=>nomatch m) (λa B=>by rw[az]at B;subst B;exact hD0)).trans M3.2).forget λa B=>by rw[az]at B;subst B;exact jr).adopt I M3.1 jr hp) (bB.ref M4.2)
 exact⟨hc,TS.qC hc X⟩
end
theorem lq:∀(C:al) (i:a_) (v:AV),(aE C i v).length=C.length:=λw'=>by induction w' with|nil=>intro O O;exact X|cons x C ih=>intro z1;cases z1 with|zero=>intro O;exact X|succ i=>intro v;dsimp only[aE];simp[ih i v]
theorem fk:∀(is:cj) (Z C bh:al),bindL is Z C=f bh->bh.length=C.length/\Z.length=is.length/\∀ j,j∉is->ao bh j=ao C j:=λw'=>by induction w' with|nil=>(intro z1;cases z1 with|nil=>intro C bh h;(dsimp only[bindL]at h;rw[dQ]at h);subst h;simp|cons O O=>intro C bh h;exact nS h)|cons i is ih=>intro z1;cases z1 with|nil=>intro C bh h;exact nS h|cons x Z=>intro C bh h;dsimp only[bindL]at h;refine dH (ih Z _ bh h) λN L h3=>?_;refine qM (N.trans (lq _ _ _)) (by simp[L]) (λj hj=>?_);rw[aV,wA]at hj;exact J (h3 j hj.2) (J (dj _ _ _ _) (J (ak (kz hj.1)) X))
theorem mW:∀(is:cj) (Z C bh:al),bindL is Z C=f bh->is.Nodup->∀(k i:a_) (x:AV),is[k]?=f i->Z[k]?=f x->ao bh i=if i<C.length then x else .ub:=λw'=>by induction w' with|nil=>intro O O O O O k i x h O;exact nS h|cons i is ih=>intro z1;cases z1 with|nil=>intro O O O O k i x O h;exact nS h|cons x Z=>intro C bh h hn k j y N L;dsimp only[bindL]at h;rw[gw]at hn;refine dH (fk is Z _ bh h) λg1 g2 g3=>?_;cases k with|zero=>simp at N L;subst N L;exact J (g3 i hn.1) (J (dj _ _ _ _) (J (ai X) X))|succ k=>exact J (ih Z _ bh h hn.2 k j y (by simpa using N) (by simpa using L)) (J (lq _ _ _) X)
def Ac(a c:al):Prop:=∀ j,ao a j=ao c j
theorem ze(N:bindL is Z C=f a)(L:bindL is.reverse Z.reverse C=f c)(hn:is.Nodup):Ac a c:=by
 intro j;refine dH (fk _ _ _ _ N) λg1 g2 g3=>dH (fk _ _ _ _ L) λk1 k2 k3=>?_;by_cases hj:j∈is
 .obtain⟨k,hk⟩:=Ma hj;have iE:k<is.length:=(mq.mp hk).1;have hx:Z[k]?=f Z[k]:=lL (J g2 iE);refine J (mW _ _ _ _ N hn k j _ hk hx) ((mW _ _ _ _ L ((List.reverse_perm is).nodup_iff.mpr hn) (is.length-1-k) j Z[k] ?_ ?_).symm)
  .refine J (JJ (My iE)) ?_;exact J (TN iE) hk
  .rw[JJ (J g2 (My iE))];exact J (show Z.length-1-(is.length-1-k)=k from J g2 (TN iE)) hx
 .exact J (g3 j hj) (J (k3 j (by simpa using hj)) X)
theorem xj:∀(is:cj) (Z C:al),Z.length=is.length->∃ a,bindL is Z C=f a:=λw'=>by induction w' with|nil=>(intro z1;cases z1 with|nil=>intro C O;exact⟨C,X⟩|cons O O=>intro O h;cases h)|cons i is ih=>intro z1;cases z1 with|nil=>(intro O h;cases h)|cons x Z=>intro C h;exact ih Z (aE C i x) (by simpa using h)
section
variable{w:de}{b s s':aJ}{D ca F':cg}{Y T':St}{A:dd}{E:cP}{u':t?}{sc:SC}{C bh:al}
theorem ER.weaken(iv:ER b u' sc C s D)(h:∀ x i,(x,i)∈sc->(ao bh i).DL=N'->ao bh i=ao C i):ER b u' sc bh s D:=
 ⟨iv.kind,iv.glob,iv.bi,by
  refine ah (iv.ns) λm hm hr=>?_;refine aK m hm (λx i N L h3=>?_);have e:=h x i N h3;rw[e]at h3 ⊢
  exact hr x i N L h3,λx c U'=>by
  refine ah (iv.cells x c U') λu hu hr=>?_;refine aK u hu (λi N L h3=>?_);have e:=h x i N h3;rw[e]at h3 ⊢
  exact hr i N L h3,iv.kinds,iv.nM,iv.rm,iv.apart,iv.slots,iv.names,iv.debug⟩
theorem ER.same(iv:ER b u' sc C s D)(h:Ac bh C):ER b u' sc bh s D:=iv.weaken λx i O O=>h i
structure DV(u':t?)(F':cg)(ns:d_ o_):Prop where
 sub:∀ a∈F',a=u'.locals\/∃ x,u'.cells.lookup x=f a
 loc:u'.locals∈F'
 Wq:∀ n∈ns,u'.kindOf n=f .cell->∀ c,u'.cells.lookup n=f c->c∈F'
theorem DV.ok(W:DV u' F' ns)(iv:ER b u' sc C s D):aX F' s.heap:=aX.of λa B o ho Z n=>by
 rcases W.sub a B with rfl|⟨x,hx⟩
 .refine ah (iv.vb) λo' N L=>?_;rw[N]at ho;obtain rfl:=aw ho;exact L Z n
 .refine ah (iv.qS hx) λo' N L=>?_;rw[N]at ho;obtain rfl:=aw ho;exact L Z n
theorem DV.out(W:DV u' F' ns)(iv:ER b u' sc C s D):∀ a∈F',a∉D:=λa B=>by
 rcases W.sub a B with rfl|⟨x,hx⟩
 .exact iv.nM.1
 .exact(iv.rm x a hx).1
def DW(u':t?)(K':aY->Sem l?)(n:o_):Prop:=∀(vs:Model) (A:dd) (E:cP) (s:aJ) (v:aY) (Q:l?->aJ->Prop),b_ vs A (storeName u' n v) Q E s->b_ vs A (K' v) Q E s
theorem Ad:∀(fs:d_ (aY->Sem l?)) (ns:d_ o_) (is:cj) (Z:al) (M:dI) (s:aJ) (C bh:al),fs.length=ns.length->(∀ p∈fs.zip ns,DW u' p.1 p.2)->(∀ p∈ns.zip is,p∈sc)->ns.length=is.length->DV u' F' ns ->
  aG b.heap s.heap D Z M->bindL is Z C=f bh->Inv H w b s D Y->ER b u' sc C s D->∀(Q:l?->aJ->Prop),(∀ s',Inv H w b s' D Y->ER b u' sc bh s' D->dD F' s s' D D Y Y->(∀ a o,a∉F'->s.heap.get? a=f o->s'.heap.get? a=f o)->Q () s') ->
  b_ (c_ H w) A (assignInOrder fs M) Q E s:=by
 intro w';induction w' with|nil=>(intro ns is Z M s C bh N O O L O hr hb I iv Q K;cases ns with|cons n ns=>(cases N)|nil=>cases is with|cons i is=>(cases L)|nil=>cases Z with|cons x Z=>exact nS hb|nil=>dsimp only[aG]at hr;subst hr;dsimp only[bindL]at hb;rw[dQ]at hb;subst hb;exact cB (K s I iv (dD.refl _ _ _ _) λO O O e=>e))|cons K' fs ih=>intro ns is Z M s C bh N hf hm L W hr hb I iv Q K;cases ns with|nil=>simp at N|cons n ns=>cases is with|nil=>simp at L|cons i is=>cases Z with|nil=>exact nS hb|cons x Z=>dsimp only[aG]at hr;obtain⟨v,r,eG,hv,hrs⟩:=hr;subst eG;dsimp only[bindL]at hb;exact aT (ox (hf (K',n) (by exact aQ) _ _ _ _ _ _ (iv.store I (hm (n,i) (by exact aQ)) hv W.loc (λhk c U'=>W.Wq n aQ hk c U') (W.out iv) λs1 I1 R1 S1 aas=>ih ns is Z r s1 (aE C i x) bh (by simpa using N) (λp hp=>hf p (by simp[hp])) (λp hp=>hm p (by simp[hp])) (by simpa using L) ⟨W.sub,W.loc,λm hm'=>W.Wq m (bg _ hm')⟩ (I.FK S1 (W.ok iv) hrs) hb I1 R1 Q λs2 I2 R2 S2 aat=>K s2 I2 R2 (S1.trans S2) λa o N L=>aat a o N (aas a o N L))))
theorem o6:∀(es:dF) (ns:d_ o_),namesOf es=f ns->((x? es u').map (·.2)).length=ns.length/\(∀ p∈((x? es u').map (·.2)).zip ns,DW u' p.1 p.2)/\(x? es u').findIdx? (·.1)=R/\(x? es u').length=es.length/\ns.length=es.length:=λw'=>by induction w' with|nil=>intro ns h;(dsimp only[namesOf]at h;rw[dQ]at h);subst h;(exact TQ X (λO m=>nomatch m) X X X)|cons e es ih=>
  intro ns h;revert h
  .refine Iy (λx hx=>Iu (λr hr h=>?_));obtain⟨p,iC⟩:=lj hx;clear hx;subst iC;simp only[dQ]at h;subst h;refine TL (ih r hr) λN L h3 h4 h5=>?_;have e:x? (.Name x p::es) u'=(N',assign (.Name x p) u')::x? es u':=X;refine J e ?_;refine TQ (by simp[<-N]) (λq hq=>?_) ?_ (by simp[h4]) (by simp[h5])
   .simp only[bW,uV]at hq;rcases aV.mp hq with j6|hq
    .clear hq;subst j6;exact λvs A E s v Q h=>Mn h
    .exact L q hq
   .refine J List.findIdx?_cons ?_;simp[h3]
theorem vg(I:Inv H w b s D Y)(hx:Z? s.heap.objs.size s.heap h'):∀ a o,s.heap.get? a=f o->h'.get? a=f o:=λa o e=>hx a o (jh (mJ e)) e
theorem tR(h:dw is v C=f bh):(∃ i,is=[i]/\bh=aE C i v)\/∃ Z,v=.tup Z/\bindL is Z C=f bh/\∀ t,dw is v t=bindL is Z t:=by
 rcases is with _|⟨i,_|⟨j,is⟩⟩
 .cases v<;>first|exact nS h|exact .inr ⟨_,X,h,λO=>X⟩
 .exact .inl ⟨i,X,(aw h).symm⟩
 .cases v<;>first|exact nS h|exact .inr ⟨_,X,h,λO=>X⟩
theorem tS(hh:A.handled=R)(ht:eM t=f tn)(hl:tn.length=C'.length)(hm:∀ p∈tn.zip C',p∈sc)(W:DV u' F' tn)(hb:dw C' x C=f bh)(I:Inv H w b s D Y)(iv:ER b u' sc C s D)(rv:bB b.heap s.heap D x v) {Q:l?->aJ->Prop} (K:∀ s',Inv H w b s' D Y->ER b u' sc bh s' D->dD F' s s' D D Y Y->(∀ a o,a∉F'->s.heap.get? a=f o->s'.heap.get? a=f o)->Q () s'):b_ (c_ H w) A (assign t u' v) Q E s:=by
 dsimp only[eM]at ht;revert ht;refine VV (λx hx ht=>?_) (QK (λes he ht=>?_))
 .obtain⟨p,mr⟩:=lj hx;clear hx;subst mr;simp only[dQ]at ht;subst ht
  match C',hl with|[i],O=>dsimp only[dw]at hb;rw[dQ]at hb;subst hb;exact Mn (iv.store I (hm (x,i) (by exact aQ)) rv W.loc (λhk c U'=>W.Wq x (by exact aQ) hk c U') (W.out iv) λs1 I1 R1 S1 k1=>K s1 I1 R1 S1 k1)
 .obtain⟨k,p,oU⟩:=IK he;clear he;subst oU;revert ht;refine aZ (λL ht=>?_) nS;refine TL (o6 (u':=u') es tn ht) λg1 g2 g3 g4 g5=>?_;have htg:2<=C'.length:=by(refine dT hl (J g5 ?_));exact L
  have YC:∃ Z,x=.tup Z/\bindL C' Z C=f bh:=by
   rcases tR hb with ⟨i,rfl,_⟩|⟨Z,rfl,hb,_⟩
   .exact g_ htg (by decide:¬ 2<=1)
   .exact aK _ X hb
  obtain⟨Z,qA,YC⟩:=YC;clear hb;subst qA;refine aW (rv.bD) λa M aL tt q=>?_;clear rv;subst aL;have hxl:Z.length=C'.length:=(fk _ _ _ _ YC).2.1;refine wpAny_assign_Tuple hh tt (by simp only[g4,dZ,q.length,hxl,<-hl,g5]) g3 λh' hx=>?_;have hk:=vg I hx;have vs:=I.more (t:=s.toks) hk (I.g7 hk);refine Ad _ tn C' Z M _ C bh g1 g2 hm hl W (I.FK vs.2 aX.nil q) YC vs.1 (iv.bl I vs.2) Q λs2 I2 R2 S2 k2=>K s2 I2 R2 ((vs.2.weaken (λO m=>nomatch m) (W.out iv)).trans S2) λa o N L=>k2 a o N (hk a o L)
end
structure jm(H:B_)(w:de)(b:aJ)(A:dd)(target:av)(it:bU)(fp wr F':cg)(Z:al)(hs:cH)(mH:cg)(St:a_->cH->Prop)(s1:aJ)(σs:Mine.Internal.St)(lk:af a_):Prop where
 T:Turn H w A target it fp wr Z.length (λi v h=>∃ x,Z[i]?=f x/\Bp b.heap hs mH h x v) St
 I1:Inv H w b s1 mH σs
 tup:∀ a B',hs.IsTuple a B'->s1.heap.IsTuple a B'
 YD:∀ a∈wr,a∉mH/\b.heap.get? a=R/\∃ o,s1.heap.get? a=f o
 Kw:∀ a∈F',a∉wr/\a∉mH/\∃ o,s1.heap.get? a=f o
 fpO:∀ a∈fp,a∈wr\/(∃ B',hs.IsTuple a B')\/∃ n,lk=f n/\mH[n]?=f a
 lkO:∀ n,lk=f n->σs.flag n=V
 live:∀ i h,St i h->∀ a∈wr,∃ o M,h.get? a=f o/\o.data=.fields M
section
variable{w:de}{b s s1 s':aJ}{D mH ca F' fp wr:cg}{Y σs τ kR:St}{A:dd}{E:cP}{u':t?}{sc:SC}{C bh:al}{target:av}{it:bU}{Z:al}{hs:cH}{St:a_->cH->Prop}{lk:af a_}
theorem Inv.kept(I:Inv H w b s D Y){t:Tok}(hk:∀ a o,a∉F'->s.heap.get? a=f o->h'.get? a=f o)(ok:aX F' s.heap)(hr:∀ a∈F',a∉D)(hb:∀ a∈F',b.heap.get? a=R)(iQ:i_<h'.objs.size) :
  Inv H w b {s with heap:=h',toks:=t} D Y:=by
 have ht:∀ c B',s.heap.IsTuple c B'->h'.IsTuple c B':=λc B' t=>ah t λo N L=>⟨o,hk c o (λm=>ok c m B' t) N,L⟩;refine gy (I.same) λh t' fJ=>?_;clear ok;subst fJ;refine⟨⟨h',t,X⟩,λa o e=>hk a o (λm=>by rw[hb a m]at e;exact nS e) (I.keep a o e),iQ,I.yK,I.len,I.nodup,I.fresh,λa m=>?_,λi e he=>?_⟩
 .refine ah (I.cls a m) λo ho U'=>?_;exact aK o (hk a o (λq=>hr a q m) ho) U'
 .refine ah (I.obj i e he) λa N L=>?_;exact aK a N (L.keeps ht eU λob ho=>hk a ob (λq=>hr a q (dX N)) ho)
theorem ER.kept(iv:ER b u' sc C s D){t:Tok}(hk:∀ a o,a∉F'->s.heap.get? a=f o->h'.get? a=f o)(ok:aX F' s.heap)(hL:u'.locals∉F')(hC:∀ x c,u'.cells.lookup x=f c->c∉F'):ER b u' sc C {s with heap:=h',toks:=t} D where
 kind:=iv.kind
 glob:=iv.glob
 bi:=iv.bi
 ns:=by have ht:∀ c B',s.heap.IsTuple c B'->h'.IsTuple c B':=λc B' t=>ah t λo N L=>⟨o,hk c o (λm=>ok c m B' t) N,L⟩;refine ah (iv.ns) λm hm h=>?_;refine aK m (Ns.kept hm λo e=>hk _ o hL e) (λx i N L h3=>?_);exact ah (h x i N L h3) λu h4 h5=>aK u h4 (h5.mono ht eU)
 cells:=λx c U'=>by have ht:∀ c B',s.heap.IsTuple c B'->h'.IsTuple c B':=λc B' t=>ah t λo N L=>⟨o,hk c o (λm=>ok c m B' t) N,L⟩;refine ah (iv.cells x c U') λu hu h=>?_;refine aK u (IsCell.kept hu λo e=>hk _ o (hC x c U') e) (λi N L h3=>?_);exact ah (h i N L h3) λw h4 h5=>aK w h4 (h5.mono ht eU)
 kinds:=iv.kinds
 nM:=iv.nM
 rm:=iv.rm
 apart:=iv.apart
 slots:=iv.slots
 names:=iv.names
 debug:=iv.debug
theorem dD.past(S:dD (F'++wr) s1 s mH D σs τ)(hk:∀ a o,a∉wr->s.heap.get? a=f o->s2.heap.get? a=f o)(h01:∀ a o,Ry.heap.get? a=f o->s1.heap.get? a=f o)(tN:∀ a∈wr,Ry.heap.get? a=R)(yS:∀ a∈F',a∈NC\/Ry.heap.get? a=R) (w0:∀ a∈NC,a∈F'/\a∉wr) (hl:∀(i:a_) a,mH[i]?=f a->a∉wr):dD NC Ry s2 mH D σs τ:=by
 refine⟨S.pre,λa B=>?_,λa o N L h3=>?_,S.flags,λi a o N L h3=>?_,λa B o ho=>?_⟩
 .rcases S.new a B with h|h
  .exact .inl h
  .right;cases q:Ry.heap.get? a with|none=>rfl|some o=>rw[h01 a o q]at h;exact sN h
 .have hw:a∉wr:=λm=>by rw[tN a m]at h3;exact nS h3
  refine hk a o hw (S.fr a o N (λm=>?_) (h01 a o h3));rcases fH.mp m with m|m
  .rcases yS a m with q|q
   .exact L q
   .rw[q]at h3;exact nS h3
  .exact hw m
 .exact hk a o (hl i a N) (S.lock i a o N L (h01 a o h3))
 .obtain⟨N,L⟩:=w0 a B;obtain⟨o',qB⟩:=S.Dq a (uS _ N) o (h01 a o ho);exact⟨o',hk a o' L qB⟩
theorem jm.Ae(h2:jm H w b A target it fp wr F' Z hs mH St s1 σs lk)(S:dD (F'++wr) s1 s mH D σs τ)(h:a∈wr):a∉D:=by obtain⟨N,_,o,L⟩:=h2.YD a h;exact jM S N L
theorem jm.ownOut(h2:jm H w b A target it fp wr F' Z hs mH St s1 σs lk)(S:dD (F'++wr) s1 s mH D σs τ)(h:a∈F'):a∉D:=by obtain⟨_,N,o,L⟩:=h2.Kw a h;exact jM S N L
theorem jm.BF(h2:jm H w b A target it fp wr F' Z hs mH St s1 σs lk)(st:St i h):aX wr h:=aX.of λa B o ho Z n e=>by refine eF (h2.live i h st a B) λo' M N L=>?_;rw[N]at ho;obtain rfl:=aw ho;rw[L]at e;cases e
theorem jm.frame(h2:jm H w b A target it fp wr F' Z hs mH St s1 σs lk)(st:St j s.heap)(I:Inv H w b s D τ)(S:dD (F'++wr) s1 s mH D σs τ)(S2:dD F' s s' D ca τ kR)(ok:aX (F'++wr) s1.heap)(ok2:aX F' s.heap):St j s'.heap:=by
 refine h2.T.frame j _ _ st λa B o ho=>?_;rcases h2.fpO a B with h|⟨B',h⟩|⟨n,N,L⟩
 .exact S2.fr a o (h2.Ae S h) (λm=>(h2.Kw a m).1 h) ho
 .have t1:=h2.tup a B' h;have t2:=h2.I1.gM S ok a B' t1;exact S2.fr a o (I.Bb t2) (λm=>ok2 a m B' t2) ho
 .refine S2.lock n a o (vZ S.pre L) ?_ ho;refine J (S.flags n (mq.mp L).1) ?_;exact h2.lkO n N
theorem jm.next(h2:jm H w b A target it fp wr F' Z hs mH St s1 σs lk)(hi:i<Z.length)(st:St i s.heap)(I:Inv H w b s D τ)(S:dD (F'++wr) s1 s mH D σs τ)(ok:aX (F'++wr) s1.heap){Q:af aY->aJ->Prop}(k:∀ v cy x,Z[i]?=f x->(∀(Q':l?->aJ->Prop) (E':cP),(∀ s2,Inv H w b s2 D τ->dD wr s s2 D D τ τ->dD (F'++wr) s1 s2 mH D σs τ->St (i+1) s2.heap->bB b.heap s2.heap D x v->(∀ a o,a∉wr->s.heap.get? a=f o->s2.heap.get? a=f o)->Q' () s2) ->
   b_ (c_ H w) A (u_ target (.ref it) v) Q' E' cy)->Q (f v) cy):b_ (c_ H w) A (N_ (.ref it)) Q E s:=by
 refine h2.T.turn i s Q E hi st λv cy Wr=>k v cy Z[i] (lL hi) λQ' E' yT=>Wr Q' E' λh' tk hP oY hk=>?_;obtain⟨x,hx,aau⟩:=hP;rw[lL hi]at hx;obtain rfl:=aw hx;have Wt:=h2.BF st;have BG:∀ a∈wr,b.heap.get? a=R:=λa B=>(h2.YD a B).2.1;have iQ:i_<h'.objs.size:=p0 I.yK λa o e=>hk a o (λm=>by rw[BG a m]at e;exact nS e) (I.keep a o e);have vs:=I.quiet (F':=wr) (h':=h') (t:=tk) (λa o N L=>hk a o N L) Wt (λa B=>h2.Ae S B) BG (λa B o O=>eF (h2.live _ _ oY a B) λo' O N O=>⟨o',N⟩) iQ
 have S':dD (F'++wr) s1 {s with heap:=h',toks:=tk} mH D σs τ:=S.trans (vs.2.weaken (λa B=>H0 _ B) λa B=>by
  rcases fH.mp B with h|h
  .exact h2.ownOut S h
  .exact h2.Ae S h)
 refine yT _ vs.1 vs.2 S' oY (aau.rep (λa B' t=>?_) S.pre) hk;exact h2.I1.gM S' ok a B' (h2.tup a B' t)
theorem jm.done(h2:jm H w b A target it fp wr F' Z hs mH St s1 σs lk)(st:St Z.length s.heap)(I:Inv H w b s D τ)(S:dD (F'++wr) s1 s mH D σs τ){Q:af aY->aJ->Prop}(k:∀ h' tk,Inv H w b {s with heap:=h',toks:=tk} D τ->(∀ a o,a∉wr->s.heap.get? a=f o->h'.get? a=f o)->Q R {s with heap:=h',toks:=tk}):b_ (c_ H w) A (N_ (.ref it)) Q E s:=by
 refine h2.T.done s Q E st λh' tk hk=>?_;have BG:∀ a∈wr,b.heap.get? a=R:=λa B=>(h2.YD a B).2.1;have iQ:i_<h'.objs.size:=p0 I.yK λa o e=>hk a o (λm=>by rw[BG a m]at e;exact nS e) (I.keep a o e);exact k h' tk (I.kept hk (h2.BF st) (λa B=>h2.Ae S B) BG iQ) hk
theorem zf{ifs:dF}{BODY:Sem PUnit}{iv:Result->aJ->Prop}(heq:i? e d tT G' aU=(do
   zk p
   match <-N_ tT with
   |R=>pure (.done .next)
   |f v=>
    u_ target tT v
    assign target aU v
    let mut ok:=V
    for c in ifs do
     if ok then ok <-O_ c aU (J_ c aU)
    if ok then BODY
    again (.compLoop e d tT G' aU)))
  (NO:(c_ H w).den (.compLoop e d tT G' aU)=((i? e d tT G' aU).onRaise (λx=>do noteFrame x aU;theTreesLotGoes x))) (hun:A.under (.compLoop e d tT G' aU)=A) (hqu:(Code.compLoop e d tT G' aU).quiet=V)
  (aa:a_->aJ->Prop)
  (turn:∀ n s,aa n s->b_ (c_ H w) A (N_ tT) (λr cy=>match r with
   |R=>iv (.ok .next) cy
   |f v=>b_ (c_ H w) A (u_ target tT v) (λO Uk=>b_ (c_ H w) A (assign target aU v) (λO oX=>
     b_ (c_ H w) A (forIn ifs V λc r=>if r=V then do let ok <-O_ c aU (J_ c aU);pure (n_ ok) else pure (n_ r)) (λok o7=>
      if ok=V then b_ (c_ H w) A BODY (λO vN=>∃ m,m<n/\aa m vN) (S? (c_ H w) A aU λe s'=>iv (.error e) s') o7
      else ∃ m,m<n/\aa m o7) (S? (c_ H w) A aU λe s'=>iv (.error e) s') oX) (S? (c_ H w) A aU λe s'=>iv (.error e) s') Uk) (S? (c_ H w) A aU λe s'=>iv (.error e) s') cy) (S? (c_ H w) A aU λe s'=>iv (.error e) s') s)
  (n:a_) (h:aa n s):U_ (c_ H w) A (.compLoop e d tT G' aU) iv s:=by
 refine codeAny_loop hqu aa (λn s hI=>?_) n h;refine J NO (J hun (wpAny_noted (J heq (aT (zP (aT (oy (turn n s hI) (λr cy su=>?_) λO O h'=>h')))))));cases r with|none=>exact cB su|some v=>refine aT (oy su (λO Uk aax=>?_) λO O h'=>h');refine aT (oy aax (λO oX V9=>aT (oy V9 (λok o7 aay=>?_) λO O h'=>h')) λO O h'=>h');cases ok with|false=>exact cB ⟨X,aay⟩|true=>exact aT (oy aay (λO vN aeb=>cB ⟨X,aeb⟩) λO O h'=>h')
noncomputable def qT {α:Type} (g:Mine.Internal.St->AV->α->af (Mine.Internal.St × α)):al->Mine.Internal.St->α->af (Mine.Internal.St × α)|[],s,a=>f (s,a)|x::Z,s,a=>match g s x a with|f (s',a')=>qT g Z s' a'|R=>R
theorem Af{α:Type}{AR:cH->cg->α->Prop}{g:Mine.Internal.St->AV->α->af (Mine.Internal.St × α)}{a0 Gj:α}{d5:Mine.Internal.St}{e:av}{d:a_}{G':aY}{aU:t?}{ifs:dF}{p:Pos}{BODY:Sem PUnit}{iv:Result->aJ->Prop}(heq:i? e d (.ref it) G' aU=(do
   zk p
   match <-N_ (.ref it) with
   |R=>pure (.done .next)
   |f v=>
    u_ target (.ref it) v
    assign target aU v
    let mut ok:=V
    for c in ifs do
     if ok then ok <-O_ c aU (J_ c aU)
    if ok then BODY
    again (.compLoop e d (.ref it) G' aU)))
  (h2:jm H w b A target it fp wr F' Z hs mH St s1 σs lk) (ok:aX (F'++wr) s1.heap) (ok2:∀ s D τ a,Inv H w b s D τ->ER b aU sc C s D->AR s.heap D a->aX F' s.heap)
  (NO:(c_ H w).den (.compLoop e d (.ref it) G' aU)=((i? e d (.ref it) G' aU).onRaise (λx=>do noteFrame x aU;theTreesLotGoes x))) (hun:A.under (.compLoop e d (.ref it) G' aU)=A) (hqu:(Code.compLoop e d (.ref it) G' aU).quiet=V)
  (hLw:aU.locals∉wr) (hCw:∀ x c,aU.cells.lookup x=f c->c∉wr)
  (hAR:∀ h h' D a,AR h D a->(∀ c o,c∉wr->h.get? c=f o->h'.get? c=f o)->(∀ c B',h.IsTuple c B'->h'.IsTuple c B')->AR h' D a)
  (body:∀ x v s D τ kR a a' (Q:aJ->Prop) (E':cP),g τ x a=f (kR,a')->Inv H w b s D τ->dD (F'++wr) s1 s mH D σs τ->ER b aU sc C s D->bB b.heap s.heap D x v->AR s.heap D a ->
   (∀ s' ca,Inv H w b s' ca kR->dD F' s s' D ca τ kR->ER b aU sc C s' ca->AR s'.heap ca a'->Q s') ->
   b_ (c_ H w) A (assign target aU v) (λO oX=>
     b_ (c_ H w) A (forIn ifs V λc r=>if r=V then do let ok <-O_ c aU (J_ c aU);pure (n_ ok) else pure (n_ r)) (λok o7=>
      if ok=V then b_ (c_ H w) A BODY (λO vN=>Q vN) E' o7 else Q o7) E' oX) E' s)
  (LY:St 0 s1.heap) (R1:ER b aU sc C s1 mH) (A1:AR s1.heap mH a0) (hf:qT g Z σs a0=f (d5,Gj))
  (K:∀ s s' ca,Inv H w b s' ca d5->dD (F'++wr) s1 s mH ca σs d5->(∀ a o,a∉wr->s.heap.get? a=f o->s'.heap.get? a=f o)->ER b aU sc C s' ca->AR s'.heap ca Gj->iv (.ok .next) s'):U_ (c_ H w) A (.compLoop e d (.ref it) G' aU) iv s1:=by
 refine zf heq NO hun hqu (λk s=>∃ i D τ a,k=Z.length+1-i/\i<=Z.length/\Inv H w b s D τ/\dD (F'++wr) s1 s mH D σs τ/\ER b aU sc C s D/\AR s.heap D a/\St i s.heap/\qT g (Z.drop i) τ a=f (d5,Gj)) ?_ (Z.length+1)
  ⟨0,mH,σs,a0,X,ji _,h2.I1,dD.refl _ _ _ _,R1,A1,LY,hf⟩
 rintro k s ⟨i,D,τ,a,rfl,hi,I,S,R',A',st,jX⟩;by_cases iE:i<Z.length
 .refine h2.next iE st I S ok λv cy x hx Wr=>Wr _ _ λs2 I2 S2 S12 st2 rv hk=>?_;have hx':Z[i]=x:=by rw[lL iE]at hx;exact aw hx
  rw[Y1 iE,hx']at jX;revert jX;refine mP (λkR a' eg jX=>?_);have Wt:=h2.BF st;have R2:=R'.step I S2 Wt hLw hCw;have A2:=hAR _ _ _ _ A' hk λc B' t=>I.gM S2 Wt c B' t;refine body x v s2 D τ kR a a' (λs5=>∃ m,m<Z.length+1-i/\∃ i D τ a,m=Z.length+1-i/\i<=Z.length/\Inv H w b s5 D τ/\dD (F'++wr) s1 s5 mH D σs τ/\ER b aU sc C s5 D/\AR s5.heap D a/\St i s5.heap/\qT g (Z.drop i) τ a=f (d5,Gj)) _ eg I2 S12 R2 rv A2 λs3 vh I3 S3 R3 A3=>?_;have aec:=ok2 s2 D τ a I2 R2 A2;refine⟨Z.length+1-(i+1),Tw (uK iE) (ky i),i+1,vh,kR,a',X,iE,I3,S12.trans (S3.weaken (λc U'=>uS _ U') λc U'=>?_),R3,A3,h2.frame st2 I2 S12 S3 ok aec,jX⟩;rcases fH.mp U' with h|h
  .exact h2.ownOut S12 h
  .exact h2.Ae S12 h
 .have Qk:i=Z.length:=by lia
  clear hi iE;subst Qk;rw[List.drop_length]at jX;dsimp only[qT]at jX;rw[dQ,rU]at jX;obtain⟨eG,iC⟩:=jX;subst eG;clear hf;subst iC;refine h2.done st I S λh' tk I2 hk=>?_;have Wt:=h2.BF st;exact K s _ D I2 S hk (R'.kept hk Wt hLw hCw) (hAR _ _ _ _ A' hk λc B' t=>ah t λo N L=>⟨o,hk c o (λm=>Wt c m B' t) N,L⟩)
end
section
variable{u':t?}
theorem tU:∀(names:d_ (o_ × u?)) (G':d_ (o_ × bU)),(∀ p∈names,p.2=.free->∃ c,u'.cells.lookup p.1=f c)->(∀ x c,G'.lookup x=f c->u'.cells.lookup x=f c) ->
  ∃ cl,(forIn names G' λ(p:o_ × u?) (cs:d_ (o_ × bU))=>(if (p.2==.free)=V then do let c <-cellOf u' p.1;pure (n_ ((p.1,c)::cs)) else pure (n_ cs):Sem (ForInStep (d_ (o_ × bU)))))=pure cl /\
   (∀ x c,cl.lookup x=f c->u'.cells.lookup x=f c)/\(∀ x,((x,G_)∈names\/(G'.lookup x).isSome)->(cl.lookup x).isSome)
 |[],G',O,L=>⟨G',by exact J HW X,L,λx h=>h.elim (λm=>nomatch m) λm=>m⟩
 |(n,k)::r,G',N,L=>by
  refine J (C5 _ _ _ _) ?_;by_cases hk:k=.free
  .subst hk;refine cC (N (n,.free) aQ X) λc U'=>?_;have Ul:cellOf u' n=pure c:=by unfold cellOf;exact J U' X
   obtain⟨cl,g1,g2,g3⟩:=tU r ((n,c)::G') (λp hp=>N p (bg _ hp)) λx c' h=>by
    rw[qE]at h;revert h;refine TZ (λq h=>?_) λO h=>?_
    .have:x=n:=by simpa using q
     clear N Ul q;subst this;obtain rfl:=aw h;exact U'
    .exact L x c' h
   refine kB cl ?_ g2 (λx hx=>g3 x ?_)
   .simp -iota only [Ul,pure_bind];exact g1
   .rcases hx with m|m
    .rcases aV.mp m with q|m
     .right;clear m;cases q;simp[qE]
     .exact .inl m
    .right;simp -iota only [qE];cases x==n
     .exact m
     .rfl
  .refine bZ (tU r G' (λp hp=>N p (bg _ hp)) L) λcl g1 g2 g3=>?_;refine kB cl ?_ g2 (λx hx=>g3 x ?_)
   .have:(k==G_)=N':=by simpa using hk
    simp -iota only [this,LR,kW,pure_bind];exact g1
   .rcases hx with m|m
    .rcases aV.mp m with q|m
     .clear N m;cases q;exact g_ X hk
     .exact .inl m
    .exact .inr m
theorem Gk(h:∀ p∈scope.names,p.2=.free->∃ c,u'.cells.lookup p.1=f c) :
  ∃ cl,closureFor scope u'=pure cl/\(∀ x c,cl.lookup x=f c->u'.cells.lookup x=f c)/\(∀ x,(x,G_)∈scope.names->∃ c,cl.lookup x=f c):=by
 refine bZ (tU scope.names [] h (λx c e=>nomatch e)) λcl N L h3=>?_;refine kB cl ?_ L (λx hx=>wy.mp (h3 x (.inl hx)));show(forIn scope.names [] (λ(x:o_ × u?) (r:d_ (o_ × bU))=>(match x with|(name,kind)=>if (kind==G_)=V then do let c <-cellOf u' name;pure (n_ ((name,c)::r)) else pure (n_ r):Sem (ForInStep (d_ (o_ × bU))))) >>= λs=>pure s)=pure cl;exact J (bind_pure _) N
end
theorem ju{α:Type}[DecidableEq α]:∀{l:d_ α},j8 l=V->l.Nodup:=by intro w';induction w' with|nil=>intro O;exact r6|cons x Z ih=>intro h;dsimp only[j8]at h;simp only[jc,rW,List.any_eq_false,jR]at h;exact J (propext gw) ⟨λm=>h.1 x m X,ih h.2⟩
theorem jN:∀(is:cj) (C:al),(dU is C).length=C.length:=λw'=>by induction w' with|nil=>intro O;exact X|cons i is ih=>intro C;exact J (lq _ _ _) (J (ih C) X)
theorem bL:∀(is:cj) (C:al) (j:a_),ao (dU is C) j=if j∈is then .ub else ao C j:=λw'=>by induction w' with|nil=>intro C j;rfl|cons i is ih=>
  intro C j;refine J (dj _ _ _ _) ?_;by_cases e:i=j
  .subst e;simp
  .refine J (ak e) (J (ih C j) ?_);by_cases m:j∈is
   .simp[m]
   .simp[m,kz e]
theorem o8(hn:C'.Nodup)(h:dw C' x C=f eH):∃ Rz,dw C' x (dU C' C)=f Rz/\Ac eH Rz:=by
 rcases tR h with ⟨i,rfl,rfl⟩|⟨Z,rfl,h,hb⟩
 .refine aK _ X (λj=>?_);refine J (dj _ _ _ _) (J (dj _ _ _ _) (J (jN _ _) (J (bL _ _ _) ?_)));by_cases e:i=j
  .simp[e]
  .simp[e,kz e]
 .refine dH (fk _ _ _ _ h) λg1 g2 g3=>?_;refine cC (xj C' Z (dU C' C) g2) λc U'=>?_;refine aK c ?_ (λj=>?_)
  .exact(hb _).trans U'
  .refine dH (fk _ _ _ _ U') λk1 k2 k3=>?_;by_cases hj:j∈C'
   .obtain⟨k,hk⟩:=Ma hj;have iE:k<C'.length:=(mq.mp hk).1;have hx:Z[k]?=f Z[k]:=lL (by omega);exact J (mW _ _ _ _ h hn k j _ hk hx) (J (mW _ _ _ _ U' hn k j _ hk hx) (J (jN _ _) X))
   .exact J (g3 j hj) (J (k3 j hj) (J (bL _ _ _) (J (ak hj) X)))
theorem fN{α β:Type}:∀{as:d_ α} {bs:d_ β} {p:α × β},p∈as.zip bs->∃ k:a_,as[k]?=f p.1/\bs[k]?=f p.2:=by intro w';induction w' with|nil=>intro O O h;simp at h|cons a as ih=>intro z1;cases z1 with|nil=>intro O h;simp at h|cons b bs=>
   intro p h;rw[uV]at h;rcases aV.mp h with eG|h
   .clear h;subst eG;exact aK 0 X X
   .refine ah (ih h) λk N L=>?_;exact aK (k+1) (by simpa using N) (by simpa using L)
theorem DX{α:Type}{l:d_ α}(hn:l.Nodup){i j:a_}{a:α}(hi:l[i]?=f a)(hj:l[j]?=f a):i=j:=by obtain⟨N,e1⟩:=mq.mp hi;obtain⟨L,e2⟩:=mq.mp hj;exact(U4 hn).mp (e1.trans e2.symm)
structure nO(scope:L_)(nm:NM)(sc:SC)(tn:d_ o_):Prop where
 kind:scope.kind=.function
 Wu:∀ y∈scope.names,y.2≠.cell
 locals:∀ y∈scope.names,y.2=.local->scope.names.lookup y.1=f .local
 RA:∀ x∈tn,scope.names.lookup x=f .local
 nodup:tn.Nodup
 free:∀ y∈scope.names,y.2=.free->nm.lookup y.1=f .cell
 debug:∀ x∈tn,(x==("__debug__":o_))=N'
 Wv:∀ y∈scope.names,y.2=.free->∃ i,(y.1,i)∈sc
theorem nP(h:p8 scope nm sc tn=V):nO scope nm sc tn:=by
 dsimp only[p8]at h;simp only[jc,mK,jR,qx,rW,uP]at h;obtain⟨⟨⟨⟨⟨⟨⟨⟨N,L⟩,h3⟩,h4⟩,h5⟩,h6⟩,h7⟩,h8⟩,h9⟩:=h;refine⟨N,λy hy=>L y hy,λy hy hl=>?_,λx hx=>h4 x hx,ju h5,λy hy hl=>?_,λx hx=>h8 x hx,λy hy hl=>?_⟩
 .rcases h3 y hy with q|q
  .exact g_ hl q
  .exact q
 .rcases h7 y hy with q|q
  .exact g_ hl q
  .exact q
 .rcases h9 y hy with q|q
  .exact g_ hl q
  .refine ah (L7.mp q) λz N L=>?_;refine⟨z.2,?_⟩;exact dT (dY L) N
structure Ag(tn:d_ o_)(C':cj)(sc:SC):Prop where
 len:tn.length=C'.length
 nodup:C'.Nodup
 apart:∀ i∈C',∀ p∈sc,p.2≠i
theorem sD(h:z8 tn C' sc=V):Ag tn C' sc:=by dsimp only[z8]at h;simp only[jc,mK,jR,rW,uP]at h;exact⟨h.1.1,ju h.1.2,λi hi p hp=>h.2 i hi p hp⟩
theorem lookup_mem{α β:Type}[BEq α][LawfulBEq α]:∀{l:d_ (α × β)} {a:α} {b:β},l.lookup a=f b->(a,b)∈l
 |[],O,O',h=>by exact nS h
 |(x,y)::l,a,b,h=>by
  rw[qE]at h;revert h;refine TZ (λq h=>?_) λO h=>?_
  .have:a=x:=by simpa using q
   clear q;subst this;obtain rfl:=aw h;exact aQ
  .exact bg _ (lookup_mem h)
section
variable{w:de}{b s s1 s':aJ}{D mH ca F' fp wr:cg}{Y σs τ kR:St}{A:dd}{E:cP}{u':t?}{nm:NM}{sc:SC}{C bh:al}{scope:L_}{cl:d_ (o_ × bU)}{sl:bU}{tn:d_ o_}{C':cj}
theorem jv(bV:∀ x,u'.kindOf x=nm.lookup x)(hk:u'.scope.kind=.function)(x:o_):(j_ scope cl sl u').kindOf x=(iU scope.names nm).lookup x:=by show(relabel scope u').names.lookup x=_;delta relabel iU;dsimp only;congr 1;refine Y7 λp O=>?_;obtain⟨n,k⟩:=p;refine J (bV n) (J hk ?_);simp
theorem kJ:∀(sn:NM) (x:o_),(iU sn nm).lookup x=(sn.lookup x).map λk=>if k==.free&&nm.lookup x==f .cell then .cell else k
 |[],x=>X
 |(n,k)::r,x=>by
  dsimp only[iU];refine J bW ?_;by_cases e:x=n
  .subst e;by_cases c:(k==G_&&nm.lookup x==f NameKind.cell)=V
   .simp only[c,gv,qE,Mi,zL]
   .rw[Bool.not_eq_true]at c;simp only[c,LR,kW,qE,Mi,zL]
  .have hb:(x==n)=N':=by simpa using e
   have ih:=kJ r x;dsimp only[iU]at ih;by_cases c:(k==G_&&nm.lookup n==f NameKind.cell)=V
   .simp only[c,gv,qE,hb];exact ih
   .rw[Bool.not_eq_true]at c;simp only[c,LR,kW,qE,hb];exact ih
theorem ER.comp(iv:ER b u' sc C s D)(bV:∀ x,u'.kindOf x=nm.lookup x)(hS:nO scope nm sc tn)(hT:Ag tn C' sc)(Gl:∀ x c,cl.lookup x=f c->u'.cells.lookup x=f c)(Gm:∀ x,(x,G_)∈scope.names->∃ c,cl.lookup x=f c){m:pY} (hC:s.heap.Ns sl m) (NP:sl∉D) (hCb:b.heap.get? sl=R) (hCc:∀ x c,u'.cells.lookup x=f c->c≠sl):ER b (j_ scope cl sl u') (iV scope sc tn C') (dU C' C) s D:=by
 have kd:=jv (scope:=scope) (cl:=cl) (sl:=sl) bV iv.kind
 have split:∀ x i,(x,i)∈iV scope sc tn C'->((x,i)∈tn.zip C'/\x∈tn/\i∈C')\/((x,i)∈sc/\scope.names.lookup x=f .free/\i∉C'):=λx i h=>by
  dsimp only[iV]at h;rcases fH.mp h with h|h
  .refine ah (fN h) λk N L=>?_;exact .inl ⟨h,dX N,dX L⟩
  .rw[Vb]at h;refine .inr ⟨h.1,dY h.2,λm=>hT.apart i m _ h.1 X⟩
 have NQ:∀ x,scope.names.lookup x=f .free->(j_ scope cl sl u').kindOf x=f .cell/\u'.kindOf x=f .cell:=λx h=>by have L:=hS.free (x,.free) (lookup_mem h) X;simp only[kd,kJ,h,bV];simp[L]
 have aaC:∀ x,x∈tn->(j_ scope cl sl u').kindOf x=f .local:=λx h=>by refine J (kd _) (J (kJ _ _) (J (hS.RA x h) ?_));rfl
 refine⟨hS.kind,iv.glob,iv.bi,⟨m,hC,λx i N L h3=>?_⟩,λx c U'=>?_,λx i h=>?_,⟨NP,hCb⟩,λx c U'=>?_,λx y c N L=>iv.apart x y c (Gl x c N) (Gl y c L),λx y i N L=>?_,λx i j N L=>?_,λx i h=>?_⟩
 .rcases split x i N with ⟨_,_,g⟩|⟨_,g,_⟩
  .rw[bL,ai g]at h3;exact tF h3
  .rw[(NQ x g).1]at L;cases L
 .refine ah (iv.cells x c (Gl x c U')) λu N L=>?_;refine aK u N (λi h3 h4 h5=>?_);rcases split x i h3 with ⟨_,g1,g2⟩|⟨g1,g2,g3⟩
  .rw[aaC x g1]at h4;cases h4
  .rw[bL,ak g3]at h5 ⊢;exact L i g1 (NQ x g2).2 h5
 .rcases split x i h with ⟨_,g,_⟩|⟨_,g,_⟩
  .exact .inl (aaC x g)
  .exact .inr ⟨(NQ x g).1,Gm x (lookup_mem g)⟩
 .refine dH (iv.rm x c (Gl x c U')) λg1 g2 O=>?_;exact qM g1 g2 (hCc x c (Gl x c U'))
 .rcases split x i N with ⟨g1,_,g2⟩|⟨g1,_,g2⟩
  .rcases split y i L with ⟨k1,_,_⟩|⟨_,_,k2⟩
   .refine ah (fN g1) λp a1 a2=>?_;refine ah (fN k1) λq b1 b2=>?_;obtain rfl:=DX hT.nodup a2 b2;rw[a1]at b1;exact aw b1
   .exact g_ g2 k2
  .rcases split y i L with ⟨_,_,k2⟩|⟨k1,_,_⟩
   .exact g_ k2 g2
   .exact iv.slots x y i g1 k1
 .rcases split x i N with ⟨g1,g2,_⟩|⟨g1,g2,_⟩
  .rcases split x j L with ⟨k1,_,_⟩|⟨_,k2,_⟩
   .refine ah (fN g1) λp a1 a2=>?_;refine ah (fN k1) λq b1 b2=>?_;obtain rfl:=DX hS.nodup a1 b1;rw[a2]at b2;exact aw b2
   .rw[hS.RA x g2]at k2;cases k2
  .rcases split x j L with ⟨_,k2,_⟩|⟨k1,_,_⟩
   .rw[hS.RA x k2]at g2;cases g2
   .exact iv.names x i j g1 k1
 .rcases split x i h with ⟨_,g,_⟩|⟨g,_,_⟩
  .exact hS.debug x g
  .exact iv.debug x i g
end
section
variable{w:de}{b s s1 s':aJ}{mg mb:pY}{D mH ca F' fp wr:cg}{Y σs T' ae τ kR:St}{A:dd}{E:cP}{u':t?}{nm:NM}{sc:SC}{C bh:al}{n:a_}
noncomputable def BH:tG->e_|.enum=>V|_=>N'
theorem k0.weak(x:k0 H w N' J' hs D lk Z it N)(t:e_):k0 H w t J' hs D lk Z it N:=by obtain⟨⟨fp,wr,St,N,r⟩,hk,hl⟩:=x;exact⟨⟨fp,wr,St,λA target hh O=>N A target hh (λe=>nomatch e),r⟩,hk,hl⟩
theorem BJ(Y':Gx b mg mb)(j4:Sound H w b mg mb n vO)(hs:nN nm ik i=f i')(U':eJ vO nm sc (.inl i')=V)(cq:Ok H w b mg mb n vO)(hgi:sB mg mb ik)(bV:∀ x,u'.kindOf x=nm.lookup x)(hk:u'.scope.kind=.function) (hg:u'.globals=p_) (hb:u'.builtins=K_) (hA:DO n A) (I:Inv H w b s D Y) (iv:ER b u' sc C s D) {v:AV} (aN:ev vO Y C=f (ae,v)) {Z:al} {lk:af a_} (hio:jd ae ik v=f (Z,lk)){Q:cP} (K:∀ t1 cU it N tk,Inv H w b t1 cU ae->dD [] s t1 D cU Y ae->k0 H w (BH ik) b.heap t1.heap cU lk Z it N->Q (.ref it) {t1 with heap:=N,toks:=tk}) :
  b_ (c_ H w) A (J_ i u') (λx cy=>b_ (c_ H w) A (W_ x) Q E cy) E s:=by
 have hc:=(j4 u' nm sc (.inl i') U' cq bV hk hg hb).1;cases ik with|plain=>dsimp only[nN,Ga]at hs;rw[dQ]at hs;clear U';subst hs;exact hc A E s D Y ae C v _ hA I iv aN λu t1 cU I1 S1 r1=>k8 I1 r1 hio λN it W=>K t1 cU it N t1.toks I1 S1 (W.iter.weak _)|_=>
  revert hs;refine Vu (λg a hv=>aZ (λUm hs=>?_) nS);simp only[dQ]at hs;clear U';subst hs;simp only[jc,wz]at Um;obtain⟨⟨rfl,L⟩,h3⟩:=Um;refine Mx (xg hv) λnp p a' r' e1 Wo=>?_;subst Wo;clear hv;cases e1;refine Call_Name X (Uj Y' hk hg hb I L bV hgi (C1 ?_ (aH h3) X));refine wC (hc A E s D Y ae C v _ hA I iv aN λu t1 cU I1 S1 r1=>?_) (aH h3);refine zO ?_
  first
  |exact FX I1 r1 hio λN it t W=>K t1 cU it N t I1 S1 (W.weak _)
  |exact J3 I1 r1 hio λN it W=>K t1 cU it N t1.toks I1 S1 W
  |exact Nq I1 r1 hio λN it W=>K t1 cU it N t1.toks I1 S1 (W.weak _)
theorem gU(h:fM i=V)(x:aY):p? i u' x=pure x:=by cases i<;>first|rfl|(exact fT h)
theorem o9(h:vd ik t=V):BH ik=V->rg t=V:=
 λe=>by cases ik<;>first|exact h|exact fT e
theorem sE(I:Inv H w b s D Y)(h:lS Y lk=f σs):Inv H w b s D σs/\(∀ m,lk=f m->σs.flag m=V)/\(∀ j,lk≠f j->σs.flag j=Y.flag j)/\σs.n=Y.n:=by cases lk with|none=>dsimp only[lS]at h;rw[dQ]at h;subst h;exact qN I (λm e=>nomatch e) (λO O=>X) X|some i=>
  dsimp only[lS]at h;refine bZ (oV h) λe N L h3=>?_;refine qN (I.kG h) (λm hm=>?_) (λj hj=>sk ?_) L
  .obtain rfl:=aw hm;exact jV (e:=⟨V,e.obj⟩) (by exact J (h3 _) (J (ai X) X))
  .exact J (h3 _) (J (ak λq=>hj (by rw[q])) X)
theorem pd(I:Inv H w b s D Y)(I2:Inv H w b s' ca τ)(h:lS Y lk=f σs)(hu:iM τ (sd Y lk) lk=f kR)(S:dD F' s s' D ca σs τ):Inv H w b s' ca kR/\dD F' s s' D ca Y kR:=by refine jj (sE I h) λO Kx J8 hl3=>?_;cases lk with|none=>dsimp only[lS]at h;rw[dQ]at h;dsimp only[iM]at hu;rw[dQ]at hu;subst h hu;exact⟨I2,S⟩|some i=>
  dsimp only[iM,sd]at hu;refine bZ (oV hu) λe N L h3=>⟨I2.kG hu,S.pre,S.new,S.fr,λj hj=>?_,λj a o g1 g2 g3=>S.lock j a o g1 ?_ g3,S.Dq⟩
  .by_cases q:j=i
   .clear h hu Kx J8 N;subst q;exact jV (e:=⟨Y.flag j,e.obj⟩) (by exact J (h3 _) (J (ai X) X))
   .exact J (sk (Y:=τ) (by rw[h3,ak q])) (J (S.flags j hj) (J8 j λe=>q (aw e).symm))
  .by_cases q:j=i
   .clear h hu J8 N h3;subst q;exact Kx j X
   ·(refine J (J8 j λe=>q (aw e).symm) ?_);exact g2
theorem dD.of_keep(hk:∀ a o,s.heap.get? a=f o->s'.heap.get? a=f o):dD [] s s' D D Y Y:=
 ⟨eU,λO h=>.inl h,λa o O O e=>hk a o e,λO O=>X,λO a o O O e=>hk a o e,λO m=>nomatch m⟩
theorem jm.make(hh:A.handled=R)(htt:tups=V->rg target=V)(I1:Inv H w b t1 D ae)(Is:Inv H w b s4 D σs)(W:k0 H w tups b.heap t1.heap D lk Z it N)(Un:∀ a o,N.get? a=f o->s4.heap.get? a=f o) (Rf:∀ m,lk=f m->σs.flag m=V) (yS:∀ a∈F',N.get? a=R\/(a∉D/\∃ o,t1.heap.get? a=f o)) (aaE:∀ a∈F',∃ o,s4.heap.get? a=f o) :
  ∃ fp wr St,jm H w b A target it fp wr F' Z t1.heap D St s4 σs lk/\St 0 s4.heap/\(∀ a∈wr,t1.heap.get? a=R/\∃ o,N.get? a=f o):=by
 refine MD λGq kq=>?_;obtain⟨⟨fp,wr,St,hT,LY,tN,Rd,NR⟩,hk,hl⟩:=W;have T:=hT A target hh htt;have nin:∀ a,t1.heap.get? a=R->a∉D:=λa B m=>by refine ah (I1.cls a m) λo ho O=>?_;rw[B]at ho;exact nS ho
 have nb:∀ a,t1.heap.get? a=R->b.heap.get? a=R:=λa B=>by cases q:b.heap.get? a with|none=>rfl|some o=>rw[I1.keep a o q]at B;exact sN B
 refine kq fp wr St ⟨T,Is,λa B' ⟨o,g1,g2⟩=>⟨o,Un _ _ (hk a o g1),g2⟩,λa B=>?_,λa B=>?_,Rd,Rf,NR⟩ (T.frame 0 _ _ LY λa O o e=>Un a o e) tN
 .obtain⟨g1,o,g2⟩:=tN a B;exact⟨nin a g1,nb a g1,o,Un a o g2⟩
 .refine cC (aaE a B) λo4 ho4=>?_;rcases yS a B with h|⟨h,o,ho⟩
  .refine⟨λm=>?_,nin a ?_,o4,ho4⟩
   .obtain⟨_,o,g2⟩:=tN a m;rw[h]at g2;exact nS g2
   .cases q:t1.heap.get? a with|none=>rfl|some o=>rw[hk a o q]at h;exact sN h
  .refine⟨λm=>?_,h,o4,ho4⟩;rw[(tN a m).1]at ho;exact nS ho
end
section
variable{w:de}{b s s1 s':aJ}{mg mb:pY}{D mH ca F' fp wr:cg}{Y σs T' ae τ kR:St}{A:dd}{E:cP}{u':t?}{nm:NM}{sc:SC}{C bh:al}{n:a_}
theorem Ah{α:Type}{AR:bU->cH->cg->α->Prop}{g:Mine.Internal.St->AV->α->af (Mine.Internal.St × α)}{a0 Gj:α}{d5 pf:Mine.Internal.St}{e:av}{o0:Obj}{NS:Sem aY}{target:av}{ifs:dF}{p:Pos}{BODY:aY->t?->Sem PUnit}{scope:L_}{cl:d_ (o_ × bU)}{tn:d_ o_}{C':cj}{RR:aY->bU->Result->aJ->Prop} {t1:aJ} {cU:cg} {Z:al} {lk:af a_} {it:bU} {N:cH} {tk:Tok} {tups:e_}(jr:∀(s:aJ) (Q:cP),Q (.ref s.heap.objs.size) {s with heap:=s.heap.push o0}->b_ (c_ H w) A NS Q E s) (ho0:o0.isFreed=N') (ho1:o0.cls=.type "list"\/o0.cls=.type "dict")(aef:∀ ρ h D,h.get? ρ=f o0->AR ρ h D a0) (aeg:∀ ρ h h' D a,AR ρ h D a->(∀ o,h.get? ρ=f o->h'.get? ρ=f o)->(∀ c B',h.IsTuple c B'->h'.IsTuple c B')->AR ρ h' D a) (aeh:∀ ρ h D a,AR ρ h D a->∀ B',¬ h.IsTuple ρ B')(Ww:∀(tT G':aY) (aU:t?) (iv:Result->aJ->Prop) (s:aJ),U_ (c_ H w) A (.compLoop e 0 tT G' aU) iv s->b_ (c_ H w) A (W_ tT) (λit' s'=>U_ (c_ H w) A (.compLoop e 0 it' G' aU) iv s') (S? (c_ H w) A aU λx s'=>iv (.error x) s') s ->
   U_ (c_ H w) A (.compStart e 0 tT G' aU) iv s)
  (heq:∀(it:bU) (G':aY) (aU:t?),i? e 0 (.ref it) G' aU=(do
   zk p
   match <-N_ (.ref it) with
   |R=>pure (.done .next)
   |f v=>
    u_ target (.ref it) v
    assign target aU v
    let mut ok:=V
    for c in ifs do
     if ok then ok <-O_ c aU (J_ c aU)
    if ok then BODY G' aU
    again (.compLoop e 0 (.ref it) G' aU)))
  (NO:∀(it:bU) (G':aY) (aU:t?),(c_ H w).den (.compLoop e 0 (.ref it) G' aU)=((i? e 0 (.ref it) G' aU).onRaise (λx=>do noteFrame x aU;theTreesLotGoes x))) (hun:∀(it:bU) (G':aY) (aU:t?),A.under (.compLoop e 0 (.ref it) G' aU)=A)
  (hqu:∀(it:bU) (G':aY) (aU:t?),(Code.compLoop e 0 (.ref it) G' aU).quiet=V)
  (hS:nO scope nm sc tn) (hT:Ag tn C' sc) (bV:∀ x,u'.kindOf x=nm.lookup x) (Gl:∀ x c,cl.lookup x=f c->u'.cells.lookup x=f c) (Gm:∀ x,(x,G_)∈scope.names->∃ c,cl.lookup x=f c)
  (hh:A.handled=R) (htt:tups=V->rg target=V) (I1:Inv H w b t1 cU ae) (R1:ER b u' sc C t1 cU) (W:k0 H w tups b.heap t1.heap cU lk Z it N)
  (kC:lS ae lk=f σs) (jX:qT g Z σs a0=f (d5,Gj)) (ro:iM d5 (sd ae lk) lk=f pf)
  (body:∀(sl ρ:bU),sl≠ρ->(∀ x c,cl.lookup x=f c->c≠ρ)->∀ x v s D τ kR a a' (Q:aJ->Prop) (E':cP),g τ x a=f (kR,a')->Inv H w b s D τ->ER b (j_ scope cl sl u') (iV scope sc tn C') (dU C' C) s D->bB b.heap s.heap D x v->AR ρ s.heap D a->ρ∉D->b.heap.get? ρ=R->(ρ==i_)=N' ->
   (∀ s' ca,Inv H w b s' ca kR->dD [sl,ρ] s s' D ca τ kR->ER b (j_ scope cl sl u') (iV scope sc tn C') (dU C' C) s' ca->AR ρ s'.heap ca a'->Q s') ->
   b_ (c_ H w) A (assign target (j_ scope cl sl u') v) (λO oX=>
     b_ (c_ H w) A (forIn ifs V λc r=>if r=V then do let ok <-O_ c (j_ scope cl sl u') (J_ c (j_ scope cl sl u'));pure (n_ ok) else pure (n_ r)) (λok o7=>
      if ok=V then b_ (c_ H w) A (BODY (.ref ρ) (j_ scope cl sl u')) (λO vN=>Q vN) E' o7 else Q o7) E' oX) E' s)
  (K:∀ s2 gI ρ sl m,Inv H w b s2 gI pf->dD [] t1 s2 cU gI ae pf->ρ∉gI->t1.heap.get? ρ=R->b.heap.get? ρ=R->(ρ==i_)=N'->sl∉gI->t1.heap.get? sl=R->b.heap.get? sl=R->sl≠ρ->s2.heap.Ns sl m->AR ρ s2.heap gI Gj->RR (.ref ρ) sl (.ok .next) s2) :
  b_ (c_ H w) A NS (λG' o7=>b_ (c_ H w) A (newFunctionEnv scope u'.globals cl [] u'.qual R .none (f u')) (λaU aei=>
   U_ (c_ H w) A (.compStart e 0 (.ref it) G' {aU with scope:=relabel scope u'}) (RR G' aU.locals) aei) E o7) E {t1 with heap:=N,toks:=tk}:=by
 refine jr _ _ (wpAny_newFunctionEnv hS.Wu (by intro y hy;simp at hy) (λh4 NT RC=>?_) hS.kind);dsimp only at NT RC ⊢;have hDC:(N.push o0).objs.size=N.objs.size+1:=yF ..;rw[hDC]at NT RC ⊢;show U_ (c_ H w) A (.compStart e 0 (.ref it) (.ref N.objs.size) (j_ scope cl (N.objs.size+1) u')) (RR (.ref N.objs.size) (N.objs.size+1)) {t1 with heap:=h4,toks:=tk+([]:d_ (o_ × aY)).length};have Uo:h4.get? N.objs.size=f o0:=RC.extBut _ _ (jh (ky _)) (kE _ (j5 _ ho0));have Un:∀ a o,N.get? a=f o->h4.get? a=f o:=λa o e=>RC.extBut a o (jh (uK (mJ e))) (kE _ (kE _ e));have Wx:=W.keep;have nD:N.get? N.objs.size=R:=dM _;have nC:N.get? (N.objs.size+1)=R:=by cases q:N.get? (N.objs.size+1) with|none=>rfl|some o=>exact g_ (mJ q) (wu.mpr (CW _))
 have lu:∀ a,N.get? a=R->t1.heap.get? a=R:=λa h=>by cases q:t1.heap.get? a with|none=>rfl|some o=>rw[Wx a o q]at h;exact sN h
 have nin:∀ a,t1.heap.get? a=R->a∉cU:=λa B m=>by refine ah (I1.cls a m) λo ho O=>?_;rw[B]at ho;exact nS ho
 have nb:∀ a,t1.heap.get? a=R->b.heap.get? a=R:=λa B=>by cases q:b.heap.get? a with|none=>rfl|some o=>rw[I1.keep a o q]at B;exact sN B
 have aaG:i_<h4.objs.size:=p0 I1.yK λa o e=>Un a o (Wx a o (I1.keep a o e));have IQ:∀ a o,t1.heap.get? a=f o->h4.get? a=f o:=λa o e=>Un a o (Wx a o e);have nQ:N.objs.size+1≠N.objs.size:=rZ (ky _);have Wy:((N.objs.size:bU)==i_)=N':=uO (rZ W.low)
 have main:∀ s4:aJ,s4={t1 with heap:=h4,toks:=tk+([]:d_ (o_ × aY)).length}->U_ (c_ H w) A (.compLoop e 0 (.ref it) (.ref N.objs.size) (j_ scope cl (N.objs.size+1) u')) (RR (.ref N.objs.size) (N.objs.size+1)) s4:=by
  rintro s4 rfl;have M4:=I1.more (h':=h4) (t:=tk+([]:d_ (o_ × aY)).length) IQ aaG;refine jj (sE M4.1 kC) λIs Kx J8 hl3=>?_
  obtain⟨fp,wr,St,h2,LY,tN⟩:=jm.make (F':=[N.objs.size+1,N.objs.size]) (target:=target) hh htt I1 Is W Un Kx (λa B=>by
    rcases aV.mp B with eG|B
    .clear B;subst eG;exact .inl nC
    .rw[az]at B;subst B
     exact .inl nD) (λa B=>by
    rcases aV.mp B with iC|B
    .clear B;subst iC;obtain⟨o,_,_,ho,_⟩:=NT;exact⟨o,ho⟩
    .rw[az]at B;subst B
     exact⟨o0,Uo⟩)
  have R4:ER b (j_ scope cl (N.objs.size+1) u') (iV scope sc tn C') (dU C' C) {t1 with heap:=h4,toks:=tk+([]:d_ (o_ × aY)).length} cU:=
   (R1.bl I1 M4.2).comp bV hS hT Gl Gm NT (nin _ (lu _ nC)) (nb _ (lu _ nC)) λx c U' q=>by refine ah (R1.qS U') λo ho O=>?_;rw[q,lu _ nC]at ho;exact nS ho
  have ok:aX ([N.objs.size+1,N.objs.size]++wr) h4:=λa B B' ht=>by
   rcases fH.mp B with B|B
   .rcases aV.mp B with j6|B
    .clear B;subst j6;obtain⟨o,_,_,ho,hd,_⟩:=NT;obtain⟨o',qB,_,_,u6⟩:=ht;rw[ho]at qB;cases qB;rw[hd]at u6;cases u6
    .rw[az]at B;subst B;obtain⟨o',qB,Z1,_⟩:=ht;rw[Uo]at qB;cases qB;rw[Z1]at ho1;rcases ho1 with q|q
     .exact g_ (HQ q) (by decide)
     .exact g_ (HQ q) (by decide)
   .exact h2.BF LY a B B' ht
  have yL:∀ a∈[N.objs.size+1,N.objs.size],a∉wr:=λa B=>(h2.Kw a B).1
  refine Af (AR:=λh D a=>AR N.objs.size h D a) (sc:=iV scope sc tn C') (C:=dU C' C) (heq _ _ _) h2 ok (λs D τ a I iv Aa c U' B' ht=>?_) (NO _ _ _) (hun _ _ _) (hqu _ _ _) (yL _ aQ) (λx c U' m=>?_) (λh h' D a Aa hk ht=>aeg _ h h' D a Aa (λo e=>hk _ o (yL _ (by exact bg _ aQ)) e) ht)
   (λx v s D τ kR a a' Q E' hg I S iv rv Aa Kb=>?_) LY R4 (aef _ _ _ Uo) jX λs s' ca I S hk iv Aa=>?_
  .rcases aV.mp U' with mr|U'
   .clear U';subst mr;refine ah (iv.vb) λo ho hd=>?_;obtain⟨o',qB,_,n',u6⟩:=ht;have ho2:s.heap.get? (N.objs.size+1)=f o:=ho;rw[ho2]at qB;cases qB;exact hd _ _ u6
   .rw[az]at U';subst U';exact aeh _ _ _ _ Aa B' ht
  .refine ah (R1.qS (Gl x c U')) λo ho O=>?_;rw[(tN c m).1]at ho;exact nS ho
  .exact body _ _ nQ (λy c U' q=>by
    refine ah (R1.qS (Gl y c U')) λo ho O=>?_
    rw[q,lu _ nD]at ho;exact nS ho) x v s D τ kR a a' Q E' hg I iv rv Aa (h2.ownOut S (by exact bg _ aQ)) (nb _ (lu _ nD)) Wy Kb
  .have S2:dD [] t1 s' cU ca σs d5:=S.past hk IQ (λa B=>(tN a B).1) (λa B=>.inr (by
    rcases aV.mp B with oU|B
    .clear B;subst oU;exact lu _ nC
    .rw[az]at B;subst B
     exact lu _ nD)) (λO m=>nomatch m) λi a hi m=>(h2.YD a m).1 (dX hi)
   refine cF (pd I1 I kC ro S2) λI9 S9=>?_;refine ah (iv.ns) λm hm O=>?_;have aaH:N.objs.size+1∉ca:=h2.ownOut S (by exact aQ);exact K s' ca _ _ m I9 S9 (h2.ownOut S (by exact bg _ aQ)) (lu _ nD) (nb _ (lu _ nD)) Wy aaH (lu _ nC) (nb _ (lu _ nC)) nQ hm Aa
 obtain⟨⟨fp,wr,St,YE,Wz,_⟩,_,_⟩:=W;refine Ww _ _ _ _ _ (main _ X) (((YE A target hh htt).self 0 {t1 with heap:=h4,toks:=tk+([]:d_ (o_ × aY)).length}) _ _ ?_ (main _ X));exact(YE A target hh htt).frame 0 _ _ Wz λa O o e=>Un a o e
end
def vi(b:aJ)(ρ:bU)(h:cH)(D:cg)(ys:al):Prop:=∃ M:dI,h.PlainList ρ M.toArray/\aG b.heap h D ys M
def gL(K':St->AV->af (St × al))(t:St)(x:AV)(ys:al):af (St × al):=match K' t x with|f (t',zs)=>if ys.length+zs.length<=lim then f (t',ys++zs) else .none|R=>R
theorem Ai{K':St->AV->af (St × al)}:∀(Z:al) (t t':St) (ys zs:al),rj K' Z t=f (t',zs)->ys.length+zs.length<=lim->qT (gL K') Z t ys=f (t',ys++zs):=λw'=>by induction w' with|nil=>intro t t' ys zs h O;exact gJ h (J (HR _) X)|cons x Z ih=>intro t t' ys zs h hl;revert h;refine mQ (λs1 z1 e1=>mQ (λs2 z2 e2 h=>?_));revert hl;refine gJ h ?_;intro hl;rw[ou]at hl;dsimp only[qT,gL];refine J e1 ?_;dsimp only;refine J (ai (by lia)) ?_;dsimp only;exact J (ih s1 s2 (ys++z1) z2 e2 (by rw[ou];lia)) (J (U1 _ _ _) X)
section
variable{w:de}{b s s1 s':aJ}{mg mb:pY}{D mH ca F' fp wr:cg}{Y σs T' ae τ kR:St}{A:dd}{E:cP}{u' aU:t?}{nm:NM}{sc:SC}{C bh:al}{n:a_}{ρ sl:bU}
theorem vi.keep(x:vi b ρ h D ys)(hD:∀ o,h.get? ρ=f o->h'.get? ρ=f o)(ht:∀ c B',h.IsTuple c B'->h'.IsTuple c B')(hp:D <+: ca):vi b ρ h' ca ys:=by obtain⟨M,⟨n,N⟩,L⟩:=x;exact aK M ⟨n,hD _ N⟩ (L.mono ht hp)
theorem vi.vj(x:vi b ρ h D ys)(B':T_ aY):¬ h.IsTuple ρ B':=by obtain⟨M,⟨n,N⟩,_⟩:=x;rintro⟨o,h3,h4,_⟩;rw[N]at h3;obtain rfl:=aw h3;exact g_ (HQ h4) (by decide)
theorem vi.step(x:vi b ρ s.heap D ys)(I:Inv H w b s D Y)(S:dD F' s s' D ca Y T')(ok:aX F' s.heap)(hD:ρ∉F')(WA:ρ∉D):vi b ρ s'.heap ca ys:=
 x.keep (λo e=>S.fr ρ o WA hD e) (I.gM S ok) S.pre
theorem Gn{Q:cP}(I:Inv H w b s D τ)(hD:ρ∉D)(oN:b.heap.get? ρ=R)(x:vi b ρ s.heap D ys)(ry:bB b.heap s.heap D y v)(hz:ys.length<=lim)(k:∀ s',Inv H w b s' D τ->dD [ρ] s s' D D τ τ->vi b ρ s'.heap D (ys++[y])->Q .none s'):b_ (c_ H w) A (call (.builtin "list.append") [.ref ρ,v]) Q E s:=by
 obtain⟨M,⟨n,t⟩,q⟩:=id x;refine C2 UW ⟨_,t,X⟩ F.entry_list_append (F.args_list_append_2 _ _) (list_append ρ M.toArray n v (by(refine J dZ (J q.length ?_));exact aR hz eL)) ⟨t,?_⟩;have hp:(s.heap.update ρ (z_ λx=>x.push v)).PlainList ρ (M++[v]).toArray:=⟨_,by refine J (AU _ t X) ?_;simp[z_];rfl⟩;have hs:s_ ρ s.heap (s.heap.update ρ (z_ λx=>x.push v)):=qZ ..;have ok:aX [ρ] s.heap:=λa B B'=>by rw[az]at B;clear hD oN k t hp hs;subst B;exact x.vj B'
 have vs:=I.quiet (F':=[ρ]) (h':=s.heap.update ρ (z_ λx=>x.push v)) (t:=s.toks) (λa o N L=>(hs.2 a λq=>N (by simp[q])).trans L) ok (λa B=>by rw[az]at B;clear oN x k t hp hs ok;subst B;exact hD)
  (λa B=>by rw[az]at B;clear hD x k t hp hs ok;subst B;exact oN) (λa B o O=>by rw[az]at B;clear hD oN x k t hs ok;subst B;obtain⟨n',h⟩:=hp;exact⟨_,h⟩) (by exact J hs.1 I.low)
 exact k _ vs.1 vs.2 ⟨_,hp,(I.FK vs.2 ok q).append (aG.cons (I.rep vs.2 ok ry) aG.nil)⟩
theorem IS(hc:VS H w b n aU sc ce elt)(hA:DO n A){eH slc:al}(I:Inv H w b s D τ)(iv:ER b aU sc eH s D)(aN:ev ce τ eH=f (kR,y))(x:vi b ρ s.heap D ys)(hz:ys.length<=lim)(hD:ρ∉D)(oN:b.heap.get? ρ=R)(hDL:aU.locals≠ρ) (hDC:∀ x c,aU.cells.lookup x=f c->c≠ρ) {Q:aJ->Prop}(k:∀ s' ca,Inv H w b s' ca kR->dD [ρ] s s' D ca τ kR->ER b aU sc eH s' ca->vi b ρ s'.heap ca (ys++[y])->Q s') :
  b_ (c_ H w) A (do let _ <-call (.builtin "list.append") [.ref ρ,<-J_ elt aU]) (λO vN=>Q vN) E s:=by
 refine aT (hc A E s D τ kR eH y _ hA I iv aN λv s1 cU I1 S1 r1=>?_);have NR:∃ o,s.heap.get? ρ=f o:=let ⟨M,⟨n,h⟩,_⟩:=x;⟨_,h⟩;obtain⟨oD,WB⟩:=NR;have hD1:ρ∉cU:=jM S1 hD WB;have x1:=x.step I S1 aX.nil (λm=>nomatch m) hD;refine aT (Gn I1 hD1 oN x1 r1 hz λs2 I2 S2 x2=>cB ?_);have ok:aX [ρ] s1.heap:=λa B B'=>by rw[az]at B;clear x hD oN hDL hDC k WB hD1 S2 x2;subst B;exact x1.vj B'
 refine k s2 cU I2 ((S1.weaken (λO m=>nomatch m) λa B=>by rw[az]at B;clear x oN hDL hDC k WB hD1 x1 S2 x2 ok;subst B;exact hD).trans S2) (((iv.bl I S1)).step I1 S2 ok (λm=>hDL (az.mp m)) λx c U' m=>hDC x c U' (az.mp m)) x2
structure xl(u':t?)(scope:L_)(cl:d_ (o_ × bU))(nm:NM)(sc:SC)(tn:d_ o_)(C':cj)(sl:bU):Prop where
 S:nO scope nm sc tn
 T:Ag tn C' sc
theorem xl.jf(aj:xl u' scope cl nm sc tn C' sl)(bV:∀ x,u'.kindOf x=nm.lookup x)(hk:u'.scope.kind=.function):DV (j_ scope cl sl u') [sl] tn:=
 ⟨λa B=>.inl (az.mp B),az.mpr X,λx hx h=>by
  rw[jv bV hk,kJ,aj.S.RA x hx]at h
  cases h⟩
theorem lW(aj:xl u' scope cl nm sc tn C' sl)(bV:∀ x,u'.kindOf x=nm.lookup x)(hk:u'.scope.kind=.function)(hh:A.handled=R)(ht:eM t=f WC)(Kx:WC.length=zg.length)(w0:∀ p∈WC.zip zg,p∈tn.zip C') (NU:∀ x∈WC,x∈tn) {x:AV} {v:aY} {sc0 eH:al} (hb:dw zg x sc0=f eH) (I:Inv H w b s D τ) (iv:ER b (j_ scope cl sl u') (iV scope sc tn C') sc0 s D) (rv:bB b.heap s.heap D x v) {Q:l?->aJ->Prop}(K:∀ s',Inv H w b s' D τ->ER b (j_ scope cl sl u') (iV scope sc tn C') eH s' D->dD [sl] s s' D D τ τ->Q () s'):b_ (c_ H w) A (assign t (j_ scope cl sl u') v) Q E s:=by
 have W:=aj.jf (sl:=sl) bV hk;refine tS (F':=[sl]) hh ht Kx (λp hp=>uS _ (w0 p hp)) ⟨W.sub,W.loc,λm hm=>W.Wq m (NU m hm)⟩ hb I iv rv λs' I' R' S' O=>K s' I' R' S'
theorem dD.tV(S:dD [] s s' D ca Y T')(I':Inv H w b s' ca T')(h:s'.heap.get? a=R):s.heap.get? a=R:=by
 classical
 cases q:s.heap.get? a with|none=>rfl|some o=>
  by_cases m:a∈D
  .refine ah (I'.cls a (QQ S.pre m)) λo' qB O=>?_;rw[qB]at h;exact sN h
  .rw[S.fr a o m (λx=>nomatch x) q]at h;exact sN h
theorem xn(iv:ER b u' sc C s D)(hS:nO scope nm sc tn)(bV:∀ x,u'.kindOf x=nm.lookup x) :
  ∃ cl,closureFor scope u'=pure cl/\(∀ x c,cl.lookup x=f c->u'.cells.lookup x=f c)/\(∀ x,(x,G_)∈scope.names->∃ c,cl.lookup x=f c):=
 Gk λq hq hf=>by
  obtain⟨i,hi⟩:=hS.Wv q hq hf;have Ky:=hS.free q hq hf;rcases iv.kinds _ _ hi with h|⟨_,h⟩
  .rw[bV,Ky]at h;cases h
  .exact h
theorem NV{K':St->AV->af (St × al)}(h:lV r ik K'=f (T',z)) :
  ∃ ae v Z lk σs d5 pf ys,r=f (ae,v)/\jd ae ik v=f (Z,lk)/\lS ae lk=f σs/\rj K' Z σs=f (d5,ys)/\iM d5 (sd ae lk) lk=f pf/\ys.length<=lim/\pf.push (.list ys)=f T'/\z=.ref pf.n:=by
 dsimp only[lV]at h;revert h;refine aM (λae v br=>?_);subst br;refine oS (λZ lk e2=>mQ (λσ9 ys e3 h=>?_));revert e3;refine mQ (λpf ys0 e4=>aZ (λhlen e3=>?_) nS);revert h;refine gJ e3 ?_;intro h;revert e4;refine dx (λσs kC=>mP (λd5 ys1 xo=>dx (λaem ro e4=>?_)));revert hlen h;refine gJ e4 ?_;intro hlen h;obtain⟨hp,eG⟩:=o5 h;clear h;subst eG;exact⟨ae,v,Z,lk,σs,d5,_,_,X,e2,kC,xo,ro,hlen,hp,X⟩
theorem tW(Y':Gx b mg mb)(j4:Sound H w b mg mb n vO){pos Go p:Pos}{K':St->AV->af (St × al)}{BODY:aY->t?->Sem PUnit}(hs:nN nm ik i=f i') (U':eJ vO nm sc (.inl i')=V) (cq:Ok H w b mg mb n vO) (hgi:sB mg mb ik) (bV:∀ x,u'.kindOf x=nm.lookup x) (hk:u'.scope.kind=.function) (hg:u'.globals=p_) (hb:u'.builtins=K_) (WD:fM i=V) (het:vd ik t=V)(hS:nO scope nm sc tn) (hT:Ag tn C' sc) (hA:DO n A) (I:Inv H w b s D Y) (iv:ER b u' sc C s D) {z:AV} (aN:lV (ev vO Y C) ik K'=f (T',z)) {use:af (aY->Sem l?)} {Q:cP}(heq:∀(it:bU) (G':aY) (aU:t?),i? (.ListComp elt (⟨t,i,ifs,0⟩::D') scope pos) 0 (.ref it) G' aU=(do
   zk p
   match <-N_ (.ref it) with
   |R=>pure (.done .next)
   |f v=>
    u_ t (.ref it) v
    assign t aU v
    let mut ok:=V
    for c in ifs do
     if ok then ok <-O_ c aU (J_ c aU)
    if ok then BODY G' aU
    again (.compLoop (.ListComp elt (⟨t,i,ifs,0⟩::D') scope pos) 0 (.ref it) G' aU)))
  (body:∀(cl:d_ (o_ × bU)) (sl ρ:bU),sl≠ρ->(∀ x c,cl.lookup x=f c->c≠ρ)->∀ x v s D τ kR zs ys (Q:aJ->Prop) (E':cP),K' τ x=f (kR,zs)->ys.length+zs.length<=lim->Inv H w b s D τ->ER b (j_ scope cl sl u') (iV scope sc tn C') (dU C' C) s D->bB b.heap s.heap D x v->vi b ρ s.heap D ys->ρ∉D->b.heap.get? ρ=R ->
   (∀ s' ca,Inv H w b s' ca kR->dD [sl,ρ] s s' D ca τ kR->ER b (j_ scope cl sl u') (iV scope sc tn C') (dU C' C) s' ca->vi b ρ s'.heap ca (ys++zs)->Q s') ->
   b_ (c_ H w) A (assign t (j_ scope cl sl u') v) (λO oX=>
     b_ (c_ H w) A (forIn ifs V λc r=>if r=V then do let ok <-O_ c (j_ scope cl sl u') (J_ c (j_ scope cl sl u'));pure (n_ ok) else pure (n_ r)) (λok o7=>
      if ok=V then b_ (c_ H w) A (BODY (.ref ρ) (j_ scope cl sl u')) (λO vN=>Q vN) E' o7 else Q o7) E' oX) E' s)
  (K:∀ s2 gI ρ sl m pf ys,pf.push (.list ys)=f T'->z=.ref pf.n->Inv H w b s2 gI pf->dD [] s s2 D gI Y pf->ρ∉gI->s.heap.get? ρ=R->b.heap.get? ρ=R->(ρ==i_)=N'->sl∉gI->s.heap.get? sl=R->b.heap.get? sl=R->sl≠ρ->s2.heap.Ns sl m->vi b ρ s2.heap gI ys ->
   compPost (c_ H w) A E use Q (.ref ρ) sl (.ok .next) s2) :
  b_ (c_ H w) A (comprehension (.ListComp elt (⟨t,i,ifs,0⟩::D') scope pos) scope u' Go (newList []) N' (J_ i u') use) Q E s:=by
 refine ib λGq zq=>?_;obtain⟨ae,v,Z,lk,σs,d5,pf,ys,e1,e2,kC,xo,ro,hlen,hp,hz⟩:=NV aN;refine bZ (xn iv hS bV) λcl NW Gl Gm=>?_;refine zq ?_;clear zq;refine wpAny_comprehension_free (use:=use) X (gU WD) NW hS.kind hS.locals (BJ Y' j4 hs U' cq hgi bV hk hg hb hA I iv e1 e2 λt1 cU it N tk I1 S1 W=>?_);have jX:=Ai Z σs d5 [] ys xo (by simpa using hlen);rw[C7]at jX;have Up:∀ a,t1.heap.get? a=R->s.heap.get? a=R:=λa h=>S1.tV I1 h
 refine Ah (AR:=vi b) (BODY:=BODY) (o0:={cls:=.type "list",data:=.seq ([]:dI).toArray}) (tups:=BH ik) (λs Q h=>kX h) X (.inl X) (λρ h D h0=>⟨[],⟨0,h0⟩,aG.nil⟩) (λρ h h' D a x N L=>x.keep N L eU) (λρ h D a x=>x.vj)
  (λtT G' aU iv s h0 h=>codeAny_compStart_list h0 h) heq (λO O O=>X) (λO O O=>X) (λO O O=>X) hS hT bV Gl Gm hA.hh (o9 het) I1 (iv.bl I S1) W kC jX ro (λsl ρ nQ yC x v s D τ kR a a' Q E' Kz I2 R2 rv x2 hD oN Wy Kb=>?_) λs2 gI ρ sl m I2 S2 d1 d2 d3 d4 c1 c2 c3 c4 hm x2=>?_
 .revert Kz;refine mQ (λt' zs ef=>aZ (λJ8 Kz=>?_) nS);revert Kb;refine gJ Kz ?_;intro Kb;exact body cl sl ρ nQ yC x v s D τ t' zs a Q E' ef J8 I2 R2 rv x2 hD oN Kb
 .exact K s2 gI ρ sl m pf ys hp hz I2 (S1.trans S2) d1 (Up ρ d2) d3 d4 c1 (Up sl c2) c3 c4 hm x2
theorem DY{m:pY}{Q:cP}(hp:pf.push o=f T')(hz:z=.ref pf.n)(I0:Inv H w b s D Y)(I2:Inv H w b s2 gI pf)(S2:dD [] s s2 D gI Y pf)(d1:ρ∉gI)(d2:s.heap.get? ρ=R)(d3:b.heap.get? ρ=R)(d4:(ρ==i_)=N')(c1:sl∉gI) (c2:s.heap.get? sl=R) (c3:b.heap.get? sl=R) (c4:sl≠ρ) (hm:s2.heap.Ns sl m) (ho:∀ h',(∀ a o,a≠sl->s2.heap.get? a=f o->h'.get? a=f o)->(∀ c B',s2.heap.IsTuple c B'->h'.IsTuple c B')->yJ H w b.heap h' gI ρ o) (aen:∃ ob,s2.heap.get? ρ=f ob/\(ob.cls=.type "list"\/ob.cls=.type "dict"))(K:fK H w b s D Y T' z Q):compPost (c_ H w) A E R Q (.ref ρ) sl (.ok .next) s2:=by
 refine aK m hm (λh' hs=>?_);have hk:∀ a o,a≠sl->s2.heap.get? a=f o->h'.get? a=f o:=λa o N L=>(hs.2 a N).trans L;have ok:aX [sl] s2.heap:=aX.of λa B oo LX Z n e=>by rw[az]at B;clear c1 c2 c3 c4 ho hs hk;subst B;obtain⟨o',_,_,N,L,_⟩:=hm;rw[N]at LX;obtain rfl:=aw LX;rw[L]at e;cases e
 have Wf:∀ a o,a∉[sl]->s2.heap.get? a=f o->h'.get? a=f o:=λa o N L=>hk a o (λq=>N (by simp[q])) L;have I3:=I2.kept (F':=[sl]) (h':=h') (t:=s2.toks) Wf ok (λa B=>by rw[az]at B;clear c2 c3 c4 hm ho hs hk ok Wf;subst B;exact c1) (λa B=>by rw[az]at B;clear c1 c2 c4 hm ho hs hk ok Wf;subst B;exact c3) (by exact J hs.1 I2.low);have ht:∀ c B',s2.heap.IsTuple c B'->h'.IsTuple c B':=λc B' t=>ah t λo N L=>⟨o,Wf c o (λm=>ok c m B' t) N,L⟩;obtain⟨ob,Dv,Gl⟩:=aen;obtain⟨I4,Bd⟩:=I3.adopt ⟨ob,hk ρ ob (kz c4) Dv,Gl⟩ d1 d3 d4 hp (ho h' hk ht)
 have S3:dD [] s {s2 with heap:=h'} D gI Y pf:=by
  refine⟨S2.pre,S2.new,λa o N L h3=>hk a o (λq=>?_) (S2.fr a o N L h3),S2.flags,λi a o N L h3=>hk a o (λq=>?_) (S2.lock i a o N L h3),λO m=>nomatch m⟩
  .rw[q,c2]at h3;exact nS h3
  .rw[q,c2]at h3;exact nS h3
 subst hz;exact K _ _ _ I4 (S3.adopt I0 I3 (o:=o) d2 hp) (bB.ref Bd)
theorem DZ(hc:VS H w b n (j_ scope cl sl u') (iV scope sc tn C') e el)(hS:nO scope nm sc tn)(hT:Ag tn C' sc)(bV:∀ x,u'.kindOf x=nm.lookup x)(hk:u'.scope.kind=.function)(hA:DO n A)(ht:eM t=f WC) (Kx:WC.length=zg.length) (w0:∀ p∈WC.zip zg,p∈tn.zip C') (NU:∀ x∈WC,x∈tn) (CN:zg.Nodup) (nQ:sl≠ρ) (yC:∀ x c,cl.lookup x=f c->c≠ρ) {x:AV} {v:aY} {zs ys slq slr:al} {Q:aJ->Prop} {E':cP} (hf:one (ev e) zg slq τ x=f (kR,zs)) (hlen:ys.length+zs.length<=lim)(I:Inv H w b s D τ) (NX:slr=dU zg slq) (iv:ER b (j_ scope cl sl u') (iV scope sc tn C') slr s D) (rv:bB b.heap s.heap D x v) (x2:vi b ρ s.heap D ys) (hD:ρ∉D) (oN:b.heap.get? ρ=R)(K:∀ s' ca,Inv H w b s' ca kR->dD [sl,ρ] s s' D ca τ kR->ER b (j_ scope cl sl u') (iV scope sc tn C') slr s' ca->vi b ρ s'.heap ca (ys++zs)->Q s') :
  b_ (c_ H w) A (assign t (j_ scope cl sl u') v) (λO oX=>
     b_ (c_ H w) A (forIn [] V λc r=>if r=V then do let ok <-O_ c (j_ scope cl sl u') (J_ c (j_ scope cl sl u'));pure (n_ ok) else pure (n_ r)) (λok o7=>
      if ok=V then b_ (c_ H w) A (do let _ <-call (.builtin "list.append") [.ref ρ,<-J_ el (j_ scope cl sl u')]) (λO vN=>Q vN) E' o7 else Q o7) E' oX) E' s:=by
 subst NX;revert hf;refine d0 (λeH hb=>aM (λs4 y aN hf=>?_));revert hlen K;refine gJ hf ?_;intro hlen K;refine ah (o8 CN hb) λRz sF vH=>lW ⟨hS,hT⟩ bV hk hA.hh ht Kx w0 NU sF I iv rv λs1 I1 R1 S1=>Mt (J (ai X) ?_);have sG:aX [sl] s.heap:=(xl.jf (cl:=cl) (sl:=sl) ⟨hS,hT⟩ bV hk).ok iv;have x3:vi b ρ s1.heap D ys:=x2.step I S1 sG (λm=>nQ (az.mp m).symm) hD;refine IS hc hA I1 (R1.same vH) aN x3 (by exact kF ‹_›) hD oN nQ (λy c U'=>yC y c U') (slc:=[]) λs5 WE I5 S5 R5 x5=>?_;obtain⟨M,⟨nD,WG⟩,_⟩:=id x2;have BK:sl∉D:=iv.nM.1;refine K s5 WE I5 ((S1.weaken (λa B=>by simp at B;simp[B]) λa B=>?_).trans (S5.weaken (λa B=>by simp at B;simp[B]) λa B=>?_)) (R5.weaken λy i hy hu=>?_) x5
 .rcases aV.mp B with iC|B
  .clear hc nQ iv K R1 S1 sG R5 B;subst iC;exact BK
  .rw[az]at B;clear nQ yC x2 oN K x3 S5 x5 WG;subst B;exact hD
 .rcases aV.mp B with j6|B
  .clear hc nQ iv K R1 S1 sG R5 B;subst j6;exact BK
  .rw[az]at B;clear nQ yC x2 oN K x3 S5 x5 WG;subst B;exact hD
 .rw[bL]at hu ⊢;split at hu;exact tF hu
  rename_i IT
  rotate_left;refine J (ak IT) ?_
  have:ao eH i=ao slq i:=by
   refine J (vH i) ?_;dsimp only[dw]at sF;revert sF;refine MM (λj br sF=>?_) λsF=>?_;clear Kx w0 CN iv hb K;subst br;rotate_left;rotate_left
   .simp only[dQ]at sF;clear vH R1;subst sF;exact J (dj _ _ _ _) (J (ak (by simpa using kz (by simpa using IT))) (J (bL _ _ _) (J (ak IT) X)))
   .revert sF;refine u5 (λxs0 br sF=>?_);clear rv hb;subst br;exact J ((fk _ _ _ _ sF).2.2 i IT) (J (bL _ _ _) (J (ak IT) X))
  exact this.symm
def pg(H:B_)(w:de)(b:aJ)(A:dd)(E:cP)(use:af (aY->Sem l?))(Q:cP)(s:aJ)(D:cg)(Y T':St)(z:AV):Prop:=
 ∀ s2 gI ρ sl m pf ys,pf.push (.list ys)=f T'->z=.ref pf.n->Inv H w b s2 gI pf->dD [] s s2 D gI Y pf->ρ∉gI->s.heap.get? ρ=R->b.heap.get? ρ=R->(ρ==i_)=N'->sl∉gI->s.heap.get? sl=R->b.heap.get? sl=R->sl≠ρ->s2.heap.Ns sl m->vi b ρ s2.heap gI ys ->
   compPost (c_ H w) A E use Q (.ref ρ) sl (.ok .next) s2
theorem pg.plain{Q:cP}(I:Inv H w b s D Y)(K:fK H w b s D Y T' z Q):pg H w b A E R Q s D Y T' z:=
 λs2 gI ρ sl m pf ys hp hz I2 S2 d1 d2 d3 d4 c1 c2 c3 c4 hm x2=>DY hp hz I I2 S2 d1 d2 d3 d4 c1 c2 c3 c4 hm (λh' Fz ht'=>x2.keep (λo e=>Fz ρ o (kz c4) e) ht' eU) (ah x2 λM Ab O=>PlainList.cls Ab) K
noncomputable def firstOf:av->af (av × L_)|.ListComp O (g::O') sc O''=>f (g.iter,sc)|_=>R
def LCS(H:B_)(w:de)(b:aJ)(n:a_)(u':t?)(sc:SC)(c:CE)(e:av):Prop:=
 ∀(A:dd) (E:cP) (s:aJ) (D:cg) (Y T':St) (C:al) (z:AV) (use:af (aY->Sem l?)) (Q:cP) (Go:Pos) (i:av) (scope:L_),DO n A->Inv H w b s D Y->ER b u' sc C s D->ev c Y C=f (T',z)->firstOf e=f (i,scope) ->
  pg H w b A E use Q s D Y T' z->b_ (c_ H w) A (comprehension e scope u' Go (newList []) N' (J_ i u') use) Q E s
noncomputable def NY:av->e_|.ListComp ..=>V|_=>N'
theorem RD(h:NY e=V):∃ a b c d,e=.ListComp a b c d:=by cases e<;>first|exact fT h|exact Zu _ _ _ _ X
def xr(H:B_)(w:de)(b:aJ)(mg mb:pY)(n:a_)(c:CE):Prop:=∀(u':t?) (nm:NM) (sc:SC) (e:av),NY e=V->eJ c nm sc (.inl e)=V->Ok H w b mg mb n c->(∀ x,u'.kindOf x=nm.lookup x)->u'.scope.kind=.function->u'.globals=p_->u'.builtins=K_->LCS H w b n u' sc c e
theorem Sound.ofU(h:xr H w b mg mb n c)(hl:∀ nm sc arg,eJ c nm sc arg=V->∃ el g gs scope p,arg=.inl (.ListComp el (g::gs) scope p)/\(g.is_async != 0)=N'):Sound H w b mg mb n c:=by
 intro u' nm sc arg U' cq bV hk hg hb;refine wI (hl nm sc arg U') λel g gs scope p Wo has=>?_;subst Wo;obtain⟨t0,i0,D0,a0⟩:=g;have h2:=h u' nm sc _ X U' cq bV hk hg hb;have hc:VS H w b n u' sc c (.ListComp el (⟨t0,i0,D0,a0⟩::gs) scope p):=by intro A E s D Y T' C z Q hA I iv aN K;simp only[eval_ListComp];have e1:firstAsync (⟨t0,i0,D0,a0⟩::gs)=N':=has;exact J e1 (h2 A E s D Y T' C z R Q _ i0 scope hA I iv aN X (pg.plain I K))
 exact⟨hc,TS.qC hc X⟩
theorem sH(Y':Gx b mg mb)(he:Sound H w b mg mb n e)(hi:Sound H w b mg mb n vO):xr H w b mg mb n (.bq e C' ik vO):=by
 intro u' nm sc ex _ U' cq bV hk hg hb
 .refine ib λGq zq=>?_;revert U';refine T6 (λel t i scope hv U'=>?_);refine cC (BB hv) λp aL=>?_;clear a hv;subst aL;revert U';refine nI (λtn LZ=>dK (λi' BL U'=>bn6 U' λN L h3 h4 h5 h6=>?_));have hS:=nP h3;have hT:=sD h4;refine zq ?_;clear zq
  have hc:LCS H w b n u' sc (.bq e C' ik vO) (.ListComp el [⟨t,i,[],0⟩] scope p):=by
   intro A E s D Y T' C z use Q Go i0 NZ hA I iv aN IU K;dsimp only[firstOf]at IU;rw[dQ,rU]at IU;obtain⟨mr,oU⟩:=IU;subst mr;subst oU;dsimp only[ev]at aN;refine tW Y' hi (BODY:=λG' aU=>do let _ <-call (.builtin "list.append") [G',<-J_ el aU]) BL h5 cq.2.2 cq.2.1 bV hk hg hb N L hS hT hA I iv aN (use:=use) (λit G' aU=>by rfl) (λcl sl ρ nQ yC x v s D τ kR zs ys Q E' hf hl I2 R2 rv x2 hD oN Kb=>?_) K
   .exact DZ ((he (j_ scope cl sl u') (iU scope.names nm) (iV scope sc tn C') (.inl el) h6 cq.1 (jv bV hk) hS.kind hg hb).1) hS hT bV hk hA LZ hT.len (λO h=>h) (λO h=>h) hT.nodup nQ yC hf hl I2 X R2 rv x2 hD oN Kb
  exact hc
end
section
variable{w:de}{b s s1 s':aJ}{mg mb:pY}{D mH ca F' fp wr:cg}{Y σs T' ae τ kR:St}{A:dd}{E:cP}{u' aU:t?}{nm:NM}{sc:SC}{C bh:al}{n:a_}{ρ sl:bU}
theorem mX(h:dw C' x C=f eH)(IT:i∉C'):ao eH i=ao C i:=by
 dsimp only[dw]at h;revert h;refine MM (λj br h=>?_) λh=>?_;subst br;rotate_left;rotate_left
 .simp only[dQ]at h;subst h;exact J (dj _ _ _ _) (J (ak (by simpa using kz (by simpa using IT))) X)
 .revert h;refine u5 (λO br h=>?_);subst br;exact(fk _ _ _ _ h).2.2 i IT
theorem rp(sF:dw zg x (dU zg slq)=f Rz)(vH:Ac eH Rz)(R5:ER b aU sc eH s D):ER b aU sc (dU zg slq) s D:=
 R5.weaken λy i hy hu=>by
  rw[bL]at hu;split at hu;exact tF hu
  rename_i IT
  rotate_left;exact J (vH i) (J (mX sF IT) X)
theorem ph(Y':Gx b mg mb)(he:Sound H w b mg mb n e)(hi:Sound H w b mg mb n vO)(hcc:Sound H w b mg mb n c):xr H w b mg mb n (.bR e C' ik vO c):=by
 intro u' nm sc ex _ U' cq bV hk hg hb
 .revert U';refine ML (λel t i q scope hv U'=>?_);obtain⟨p,eG⟩:=BB hv;clear a hv;subst eG;revert U';refine nI (λtn LZ=>dK (λi' BL U'=>bn7 U' λN L h3 h4 h5 h6 h7=>?_));have hS:=nP h3;have hT:=sD h4
  have hc:LCS H w b n u' sc (.bR e C' ik vO c) (.ListComp el [⟨t,i,[q],0⟩] scope p):=by
   intro A E s D Y T' C z use Q Go i0 NZ hA I iv aN IU K;dsimp only[firstOf]at IU;rw[dQ,rU]at IU;obtain⟨iC,j6⟩:=IU;subst iC;subst j6;dsimp only[ev]at aN;refine tW Y' hi (BODY:=λG' aU=>do let _ <-call (.builtin "list.append") [G',<-J_ el aU]) BL h5 cq.2.2.1 cq.2.1 bV hk hg hb N L hS hT hA I iv aN (use:=use) (λit G' aU=>by rfl) (λcl sl ρ nQ yC x v s D τ kR zs ys Q E' hf hl I2 R2 rv x2 hD oN Kb=>?_) K
   .have VE:=(he (j_ scope cl sl u') (iU scope.names nm) (iV scope sc tn C') (.inl el) h6 cq.1 (jv bV hk) hS.kind hg hb).1;have TC:=(hcc (j_ scope cl sl u') (iU scope.names nm) (iV scope sc tn C') (.inl q) h7 cq.2.2.2 (jv bV hk) hS.kind hg hb).2;revert hf;refine d0 (λeH hbt hf=>?_);refine ah (o8 hT.nodup hbt) λRz sF vH=>?_;refine lW ⟨hS,hT⟩ bV hk hA.hh LZ hT.len (λO h=>h) (λO h=>h) sF I2 R2 rv λs1 I1 R1 S1=>?_;have sG:aX [sl] s.heap:=(xl.jf (cl:=cl) (sl:=sl) ⟨hS,hT⟩ bV hk).ok R2;have x3:vi b ρ s1.heap D ys:=x2.step I2 S1 sG (λm=>nQ (az.mp m).symm) hD;have BK:sl∉D:=R2.nM.1
    have lg:∀ a∈[sl,ρ],a∉D:=λa B=>by
     rcases aV.mp B with mr|B
     .clear nQ R2 Kb VE TC R1 S1 sG B;subst mr;exact BK
     .rw[az]at B;clear nQ yC x2 oN Kb x3;subst B;exact hD
    refine wpAny_tests_one ?_;revert hf;refine sh (λs3 ec hf=>?_) (λs3 ec hf=>?_)
    .revert hf;refine aM (λs4 y aeq hf=>?_);revert hl Kb;refine gJ hf ?_;intro hl Kb;refine TC A _ s1 D τ s3 eH V _ hA I1 (R1.same vH) ec λs6 CO I6 S6=>J (ai X) ?_;obtain⟨M,⟨nD,WG⟩,_⟩:=id x3;have hD6:ρ∉CO:=jM S6 hD WG;have x6:=x3.step I1 S6 aX.nil (λm=>nomatch m) hD;have R6:=(R1.same vH).bl I1 S6;refine IS VE hA I6 R6 aeq x6 (by exact kF ‹_›) hD6 oN nQ (λy c U'=>yC y c U') (slc:=[]) λs5 WE I5 S5 R5 x5=>?_;have S16:dD [sl,ρ] s s6 D CO τ s3:=(S1.weaken (λa B=>by simp at B;simp[B]) lg).trans (S6.weaken (λO m=>nomatch m) lg);refine Kb s5 WE I5 (S16.trans (S5.weaken (λa B=>by simp at B;simp[B]) λa B=>?_)) (rp sF vH R5) x5;rcases aV.mp B with oU|B
     .clear nQ R2 VE TC R1 S1 sG BK lg Kb R5 S16 B;subst oU;exact R6.nM.1
     .rw[az]at B;clear nQ yC x2 hD oN x3 lg Kb WG x6 S5 x5 S16;subst B;exact hD6
    .revert Kb;refine gJ hf ?_;intro Kb;refine TC A _ s1 D τ s3 eH N' _ hA I1 (R1.same vH) ec λs6 CO I6 S6=>J (ak (by decide)) ?_;have x6:=x3.step I1 S6 aX.nil (λm=>nomatch m) hD;have R6:=(R1.same vH).bl I1 S6;rw[HR]at Kb;exact Kb s6 CO I6 ((S1.weaken (λa B=>by simp at B;simp[B]) lg).trans (S6.weaken (λO m=>nomatch m) lg)) (rp sF vH R6) x6
  exact hc
theorem zh(L:(c2.is_async != 0)=N'){iv:Result->aJ->Prop}(h0:U_ (c_ H w) A (.compLoop (.ListComp elt [c1,c2] scope pos) 1 it G' aU) iv s)(h:b_ (c_ H w) A (W_ it) (λit' s'=>U_ (c_ H w) A (.compLoop (.ListComp elt [c1,c2] scope pos) 1 it' G' aU) iv s') (S? (c_ H w) A aU λx s'=>iv (.error x) s') s) :
  U_ (c_ H w) A (.compStart (.ListComp elt [c1,c2] scope pos) 1 it G' aU) iv s:=by
 refine codeAny_of_tree ?_;show b_ _ A ((compStart (.ListComp elt [c1,c2] scope pos) 1 it G' aU).onRaise (λx=>do noteFrame x aU;zk theWindowsPlace)) _ _ s;refine wpAny_notedAt ?_;unfold compStart;have e:(((clausesOf (.ListComp elt [c1,c2] scope pos))[1]?).elim N' (·.is_async != 0))=N':=L;refine J e ?_;simp -iota only [LR,kW];refine aT (wpAny_askSetting (wpAny_ite ?_));split
 .first
  |exact aT (cB (cB (h_ X h0)))
  |exact cB (h_ X h0)
 .refine aT (qH ?_);exact aT (zP (aT (oy h (λit' s' h'=>cB (h_ X h')) λO O x=>x)))
theorem WH(h:two qK tH g C' tgt2 C τ x=f (kR,zs)):∃ eH WI v2 Ql Rk σs WJ,dw C' x (dU tgt2 C)=f eH/\qK τ eH=f (WI,v2)/\jd WI tH v2=f (Ql,Rk)/\lS WI Rk=f σs /\
  rj (one g tgt2 eH) Ql σs=f (WJ,zs)/\iM WJ (sd WI Rk) Rk=f kR:=by
 refine ib λGq zq=>?_;revert h;refine d0 (λeH N=>aM (λWI v2 L=>oS (λQl Rk h3=>dx (λσs h4=>mP (λWJ zs' h5=>dx (λpf h6 h=>?_))))));refine zq ?_;clear zq;exact gJ h (TY eH WI v2 Ql Rk σs WJ N L h3 h4 h5 h6)
theorem xt{tn tn2:d_ o_}{C' tgt2:cj}(hl:tn.length=C'.length):(∀ p∈tn.zip C',p∈(tn++tn2).zip (C'++tgt2))/\(∀ p∈tn2.zip tgt2,p∈(tn++tn2).zip (C'++tgt2)):=by exact J (List.zip_append hl) ⟨λp h=>uS _ h,λp h=>H0 _ h⟩
theorem Gp(hn:C'.Nodup)(hl:a.length=c.length)(h:dw C' x a=f a2):∃ c2,dw C' x c=f c2/\∀ j∈C',ao c2 j=ao a2 j:=by
 rcases tR h with ⟨i,rfl,rfl⟩|⟨Z,rfl,h,hb⟩
 .refine aK _ X (λj hj=>?_);rw[az]at hj;clear hn;clear h;subst hj;exact J (dj _ _ _ _) (J (dj _ _ _ _) (J (ai X) (J (ai X) (J hl X))))
 .refine dH (fk _ _ _ _ h) λg1 g2 g3=>?_;refine cC (xj C' Z c g2) λd hd=>?_;refine aK d ((hb _).trans hd) (λj hj=>?_);obtain⟨k,hk⟩:=Ma hj;have iE:k<C'.length:=(mq.mp hk).1;have hx:Z[k]?=f Z[k]:=lL (by omega);exact J (mW _ _ _ _ hd hn k j _ hk hx) (J (mW _ _ _ _ h hn k j _ hk hx) (J hl X))
theorem BM(el t i t2 i2:av)(scope:L_)(p:Pos)(tT G':aY)(aU:t?):i? (.ListComp el [⟨t,i,[],0⟩,⟨t2,i2,[],0⟩] scope p) 0 tT G' aU=(do
   zk i.pos
   match <-N_ tT with
   |R=>pure (.done .next)
   |f v=>
    u_ t tT v
    assign t aU v
    let mut ok:=V
    for c in ([]:dF) do
     if ok then ok <-O_ c aU (J_ c aU)
    if ok then(do
     let x <-J_ i2 aU
     zk i2.pos
     let x <-p? i2 aU x
     let _ <-runOwn (.compStart (.ListComp el [⟨t,i,[],0⟩,⟨t2,i2,[],0⟩] scope p) 1 (<-v? [x] (W_ x)) G' aU) aU)
    again (.compLoop (.ListComp el [⟨t,i,[],0⟩,⟨t2,i2,[],0⟩] scope p) 0 tT G' aU)):=by
 have h:i? (.ListComp el [⟨t,i,[],0⟩,⟨t2,i2,[],0⟩] scope p) 0 tT G' aU=(do
   zk i.pos
   match <-N_ tT with
   |R=>pure (.done .next)
   |f v=>
    u_ t tT v
    assign t aU v
    let mut ok:=V
    for c in ([]:dF) do
     if ok then ok <-O_ c aU (J_ c aU)
    if ok then
     let x <-J_ i2 aU
     zk i2.pos
     let x <-p? i2 aU x
     let _ <-runOwn (.compStart (.ListComp el [⟨t,i,[],0⟩,⟨t2,i2,[],0⟩] scope p) 1 (<-v? [x] (W_ x)) G' aU) aU
    again (.compLoop (.ListComp el [⟨t,i,[],0⟩,⟨t2,i2,[],0⟩] scope p) 0 tT G' aU)):=by rfl
 refine J h ?_;simp -iota only [bind_assoc,pure_bind]
theorem qU(Y':Gx b mg mb){C' tgt2:cj}(he:Sound H w b mg mb n e)(hi:Sound H w b mg mb n vO)(RE:Sound H w b mg mb n RF):xr H w b mg mb n (.dJ e C' ik vO tgt2 tH RF):=by
 intro u' nm sc ex _ U' cq bV hk hg hb
 .revert U';refine Iw (λel t i t2 i2 scope hv U'=>?_);obtain⟨p,qA⟩:=IL hv;clear hv;subst qA;revert U';refine nI (λtn LZ=>dK (λi' BL=>nI (λtn2 aes=>dK (λi2' aaK U'=>?_))));simp only[jc]at U';obtain⟨⟨⟨⟨⟨⟨⟨⟨⟨N,WK⟩,L⟩,h2'⟩,h3⟩,h4⟩,IV⟩,h5⟩,h6⟩,h7⟩:=U';have IV:=dY IV;have hS:=nP h3;have hT:=sD h4;obtain⟨Nl,Nm⟩:=xt (tn2:=tn2) (tgt2:=tgt2) IV
  have N0:tn2.length=tgt2.length:=by
   have:=hT.len
   rw[ou,ou]at this;lia
  have CN:=Vf.mp hT.nodup
  have hc:LCS H w b n u' sc (.dJ e C' ik vO tgt2 tH RF) (.ListComp el [⟨t,i,[],0⟩,⟨t2,i2,[],0⟩] scope p):=by
   intro A E s D Y T' C z use Q Go i0 NZ hA I iv aN IU K;dsimp only[firstOf]at IU;rw[dQ,rU]at IU;obtain⟨vF,yI⟩:=IU;subst vF;subst yI;dsimp only[ev]at aN
   refine tW Y' hi (BODY:=λG' aU=>do
     let x <-J_ i2 aU
     zk i2.pos
     let x <-p? i2 aU x
     let _ <-runOwn (.compStart (.ListComp el [⟨t,i,[],0⟩,⟨t2,i2,[],0⟩] scope p) 1 (<-v? [x] (W_ x)) G' aU) aU) BL h5 cq.2.2.1 cq.2.1 bV hk hg hb N L hS hT hA I iv aN (use:=use) (λit G' aU=>BM ..) (λcl sl ρ nQ yC x v s D τ kR zs ys Q E' hf hl I2 R2 rv x2 hD oN Kb=>?_) K
   .have Ky:=jv (scope:=scope) (cl:=cl) (sl:=sl) bV hk;have VE:=(he (j_ scope cl sl u') (iU scope.names nm) (iV scope sc (tn++tn2) (C'++tgt2)) (.inl el) h7 cq.1 Ky hS.kind hg hb).1;obtain⟨eH,WI,v2,Ql,Rk,σs,WJ,e1,e2,e3,kC,xo,ro⟩:=WH hf;refine ah (Gp (c:=dU (C'++tgt2) C) CN.1 (by exact J (jN _ _) (J (jN _ _) X)) e1) λRz sF vH=>?_
    have Uc:Ac eH Rz:=λj=>by
     by_cases m:j∈C'
     .exact(vH j m).symm
     .simp only[mX sF m,mX e1 m,bL,bL];by_cases m2:j∈tgt2
      .exact J (ai m2) (J (ai (by simp[m2])) X)
      .exact J (ak m2) (J (ak (by simp[m,m2])) X)
    have RG:Ac (dU tgt2 eH) eH:=λj=>by
     refine J (bL _ _ _) ?_;split
     .rename_i m2
      exact J (mX e1 (λm=>CN.2.2 j m j m2 X:j∉C')) (J (bL _ _ _) (J (ai m2) X))
     .rfl
    refine lW ⟨hS,hT⟩ bV hk hA.hh LZ IV Nl (λx h=>uS _ h) sF I2 R2 rv λs1 I1 R1 S1=>Mt (J (ai X) ?_);have sG:aX [sl] s.heap:=(xl.jf (cl:=cl) (sl:=sl) ⟨hS,hT⟩ bV hk).ok R2;have x3:vi b ρ s1.heap D ys:=x2.step I2 S1 sG (λm=>nQ (az.mp m).symm) hD;have BK:sl∉D:=R2.nM.1
    have lg:∀ a∈[sl,ρ],a∉D:=λa B=>by
     rcases aV.mp B with Dp|B
     .clear nQ R2 Kb Ky VE R1 S1 sG B;subst Dp;exact BK
     .rw[az]at B;clear nQ yC x2 oN Kb x3;subst B;exact hD
    obtain⟨vs1,⟨nD1,RH⟩,_⟩:=id x3
    refine aT (oy (BJ (Q:=λtT s'=>b_ (c_ H w) A (do let _ <-runOwn (.compStart (.ListComp el [⟨t,i,[],0⟩,⟨t2,i2,[],0⟩] scope p) 1 tT (.ref ρ) (j_ scope cl sl u')) (j_ scope cl sl u')) (λO s5=>Q s5) E' s') Y' RE aaK h6 cq.2.2.2.2 cq.2.2.2.1 Ky hS.kind hg hb hA I1 (R1.same Uc) e2 e3 λt3 vh it N tk I3 S3 W=>?_)
     (λx s' h'=>aT (zP (aT (r7 (gU WK x) (aT (ox h')))))) λO O e=>e)
    refine aT (wpAny_runOwn ?_);have R3:=(R1.same Uc).bl I1 S3;have hD3:ρ∉vh:=jM S3 hD RH;have x4:vi b ρ t3.heap vh ys:=x3.step I1 S3 aX.nil (λm=>nomatch m) hD;obtain⟨Uq,⟨nD4,WL⟩,_⟩:=id x4;refine ah (R3.vb) λoC Rn ahH=>?_;have I4:=I3.more (h':=N) (t:=tk) W.keep W.low;refine jj (sE I4.1 kC) λIs Kx J8 hl3=>?_;have R4:=R3.bl I3 I4.2;have x5:vi b ρ N vh ys:=x4.keep (λo e=>W.keep ρ o e) (λc B' ⟨o,g1,g2⟩=>⟨o,W.keep _ _ g1,g2⟩) eU
    have D3:∀ a∈[sl,ρ],a∉vh:=λa B=>by
     rcases aV.mp B with wM|B
     .clear nQ R2 Kb Ky VE R1 S1 sG BK lg Rn R4 B;subst wM;exact R3.nM.1
     .rw[az]at B;clear nQ yC x2 hD oN Kb x3 lg RH x4 WL x5;subst B;exact hD3
    have RI:∀ a∈[sl,ρ],∃ o,t3.heap.get? a=f o:=λa B=>by
     rcases aV.mp B with Bc|B
     .clear nQ R2 Kb Ky VE R1 S1 sG BK lg R3 R4 D3 B;subst Bc;exact⟨oC,Rn⟩
     .rw[az]at B;clear nQ yC x2 hD oN Kb x3 lg RH hD3 x4 x5 D3;subst B;exact⟨_,WL⟩
    obtain⟨fp,wr,St,h2,LY,tN⟩:=jm.make (s4:={t3 with heap:=N,toks:=tk}) (F':=[sl,ρ]) (target:=t2) hA.hh (o9 h2') I3 Is W (λO O e=>e) Kx (λa B=>.inr ⟨D3 a B,RI a B⟩) λa B=>cC (RI a B) λo ho=>⟨o,W.keep a o ho⟩;have yL:∀ a∈[sl,ρ],a∉wr:=λa B=>(h2.Kw a B).1
    have N1:∀(s:aJ) (D:cg) (a:al),ER b (j_ scope cl sl u') (iV scope sc (tn++tn2) (C'++tgt2)) (dU tgt2 eH) s D->vi b ρ s.heap D a->aX [sl,ρ] s.heap:=λs D a iv Aa c U' B' ht=>by
     rcases aV.mp U' with M9|U'
     .clear nQ R2 Kb Ky VE R1 S1 sG BK lg R3 Rn R4 D3 RI h2 yL U';subst M9;obtain⟨o,ho,hd⟩:=iv.vb;obtain⟨o',qB,_,n',u6⟩:=ht;have ho2:s.heap.get? c=f o:=ho;rw[ho2]at qB;cases qB;exact hd _ _ u6
     .rw[az]at U';clear nQ yC x2 hD oN Kb x3 lg RH hD3 x4 WL x5 D3 RI h2 yL;subst U';exact Aa.vj B' ht
    have R5:=R4.same RG
    have ok:aX ([sl,ρ]++wr) N:=λa B B' ht=>by
     rcases fH.mp B with B|B
     .exact N1 {t3 with heap:=N,toks:=tk} vh ys R5 x5 a B B' ht
     .exact h2.BF LY a B B' ht
    have jX:=Ai Ql σs WJ ys zs xo hl
    have main:U_ (c_ H w) A (.compLoop (.ListComp el [⟨t,i,[],0⟩,⟨t2,i2,[],0⟩] scope p) 1 (.ref it) (.ref ρ) (j_ scope cl sl u')) (λr s'=>match r with|.ok K'=>b_ (c_ H w) A (pure ()) (λO s5=>Q s5) E' s' | .error e=>cameBackBy (c_ H w) A (j_ scope cl sl u') E' e s') {t3 with heap:=N,toks:=tk}:=by
     refine Af (ifs:=[]) (p:=i2.pos) (BODY:=do let _ <-call (.builtin "list.append") [.ref ρ,<-J_ el (j_ scope cl sl u')]) (AR:=λh D a=>vi b ρ h D a) (sc:=iV scope sc (tn++tn2) (C'++tgt2)) (C:=dU tgt2 eH) X h2 ok (λs D τ a I iv Aa=>N1 s D a iv Aa) X X X (yL _ aQ) (λy c U' m=>?_) (λh h' D a Aa hk ht=>Aa.keep (λo e=>hk _ o (yL _ (by exact bg _ aQ)) e) ht eU)
      (λx v s D τ kR a a' Q E' Kz I S iv rv Aa Kb=>?_) LY R5 x5 jX λs6 s7 ρ7 I7 S7 hk7 R7 x7=>?_
     .obtain⟨o,ho,_⟩:=R3.qS U';rw[(tN c m).1]at ho;exact nS ho
     .dsimp only[gL]at Kz;revert Kz;refine mQ (λt' zs' ef=>aZ (λhl9 Kz=>?_) nS);revert Kb;refine gJ Kz ?_;intro Kb;exact DZ VE hS hT bV hk hA aes N0 Nm (λx h=>H0 _ h) CN.2.1 nQ yC ef hl9 I X iv rv Aa (h2.ownOut S (by exact bg _ aQ)) oN Kb
     .have S2:dD [sl,ρ] t3 s7 vh ρ7 σs WJ:=S7.past hk7 W.keep (λa B=>(tN a B).1) (λa B=>.inl B) (λa B=>⟨B,yL a B⟩) λi a hi m=>(h2.YD a m).1 (dX hi);obtain⟨I9,S9⟩:=pd I3 I7 kC ro S2;refine cB (Kb s7 ρ7 I9 (((S1.weaken (λa B=>by simp at B;simp[B]) lg).trans (S3.weaken (λO m=>nomatch m) lg)).trans S9) ?_ x7);refine(R7.same λj=>(RG j).symm).weaken λy j hy hu=>?_;rw[bL]at hu;split at hu;exact tF hu
      rename_i IT
      rotate_left;refine J (bL _ _ _) (J (ak IT) ?_);have m2:j∉tgt2:=λm=>IT (by simp[m]);exact J (mX e1 (λm=>IT (by simp[m]):j∉C')) (J (bL _ _ _) (J (ak m2) X))
    have main':U_ (c_ H w) (A.mark R) (.compStart (.ListComp el [⟨t,i,[],0⟩,⟨t2,i2,[],0⟩] scope p) 1 (.ref it) (.ref ρ) (j_ scope cl sl u')) (λr s'=>match r with|.ok K'=>b_ (c_ H w) A (pure ()) (λO s5=>Q s5) E' s' | .error e=>cameBackBy (c_ H w) A (j_ scope cl sl u') E' e s') {t3 with heap:=N,toks:=tk}:=by refine zh X main ?_;obtain⟨⟨fp',wr',St',YE,Wz,_⟩,_,_⟩:=W;exact(YE A t2 hA.hh (o9 h2')).self 0 {t3 with heap:=N,toks:=tk} _ _ Wz main
    exact main'
  exact hc
end
def IW(H:B_)(w:de)(b:aJ)(ρ:bU)(h:cH)(D:cg)(bJ:dc):Prop:=∃ Z,h.DictOfH (tk H w) ρ Z/\cO b.heap h D bJ Z
def gD(K':St->AV->af (St × aA × AV))(t:St)(x:AV)(a:dc):af (St × dc):=match K' t x with|f (t',k,v)=>if a.length<=lim then f (t',iK a k v) else .none|R=>R
theorem D4:∀(bJ:dc) (k:aA) (v:AV),bJ.length<=(iK bJ k v).length:=λw'=>by induction w' with|nil=>intro O O;dsimp only[iK];exact ji _|cons p r ih=>
  intro k v;dsimp only[iK];split
  .exact c9 _
  .simp[ih k v]
theorem N2{K':St->AV->af (St × aA × AV)}:∀(Z:al) (t t':St) (a a':dc),By K' Z t a=f (t',a')->a.length<=a'.length:=λw'=>by induction w' with|nil=>intro t t' a a' h;(dsimp only[By]at h;rw[dQ,rU]at h);exact J h.2 (c9 _)|cons x Z ih=>intro t t' a a' h;revert h;exact wK (λs1 k v e1 h=>aR (D4 a k v) (ih _ _ _ _ h))
theorem KA{K':St->AV->af (St × aA × AV)}:∀(Z:al) (t t':St) (a a':dc),By K' Z t a=f (t',a')->a'.length<=lim->qT (gD K') Z t a=f (t',a'):=λw'=>by induction w' with|nil=>intro t t' a a' h O;exact gJ h X|cons x Z ih=>intro t t' a a' h hl;have hlen:=N2 (x::Z) _ _ _ _ h;revert h;refine wK (λs1 k v e1 h=>?_);dsimp only[qT,gD];refine J e1 ?_;dsimp only;exact J (ai (by exact aR ‹_› ‹_›)) (ih _ _ _ _ h hl)
theorem N3{K':St->AV->af (St × aA × AV)}(h:DI r ik K'=f (T',z)) :
  ∃ ae v Z lk σs d5 pf bJ,r=f (ae,v)/\jd ae ik v=f (Z,lk)/\lS ae lk=f σs/\By K' Z σs []=f (d5,bJ)/\iM d5 (sd ae lk) lk=f pf/\bJ.length<=lim/\pf.push (.dict bJ)=f T'/\z=.ref pf.n:=by
 refine ib λGq zq=>?_;dsimp only[DI]at h;revert h;refine aM (λae v br=>?_);subst br;refine oS (λZ lk e2=>aZ (λO=>?_) nS);refine MX (λpf bJ e4=>aZ (λhlen h=>?_) nS);obtain⟨hp,eG⟩:=o5 h;clear h;subst eG;revert e4;refine dx (λσs kC=>mP (λd5 ys1 xo=>dx (λaem ro e4=>?_)));refine zq ?_;clear zq;revert hlen hp;refine gJ e4 ?_;intro hlen hp;exact⟨ae,v,Z,lk,σs,d5,_,_,X,e2,kC,xo,ro,hlen,hp,X⟩
section
variable{w:de}{b s s1 s':aJ}{mg mb:pY}{D mH ca F' fp wr:cg}{Y σs T' ae τ kR:St}{A:dd}{E:cP}{u' aU:t?}{nm:NM}{sc:SC}{C bh:al}{n:a_}{ρ sl:bU}
theorem IW.keep(x:IW H w b ρ h D bJ)(hD:∀ o,h.get? ρ=f o->h'.get? ρ=f o)(ht:∀ c B',h.IsTuple c B'->h'.IsTuple c B')(hp:D <+: ca):IW H w b ρ h' ca bJ:=by obtain⟨Z,⟨o,es,ep,g1,g2,g3,g4,g5,g6⟩,L⟩:=x;exact aK Z ⟨o,es,ep,hD _ g1,g2,g3,g4,λx hx=>jL ht (g5 x hx),g6⟩ (L.mono ht hp)
theorem IW.vj(x:IW H w b ρ h D bJ)(B':T_ aY):¬ h.IsTuple ρ B':=by obtain⟨Z,⟨o,es,ep,g1,g2,g3,_⟩,L⟩:=x;rintro⟨o',h3,_,n,h4⟩;rw[g1]at h3;obtain rfl:=aw h3;rw[g3]at h4;cases h4
theorem IW.live(x:IW H w b ρ h D bJ):∃ o,h.get? ρ=f o:=let ⟨_,⟨o,_,_,g1,_⟩,_⟩:=x;⟨o,g1⟩
theorem IW.step(x:IW H w b ρ s.heap D bJ)(I:Inv H w b s D Y)(S:dD F' s s' D ca Y T')(ok:aX F' s.heap)(hD:ρ∉F')(WA:ρ∉D):IW H w b ρ s'.heap ca bJ:=
 x.keep (λo e=>S.fr ρ o WA hD e) (I.gM S ok) S.pre
theorem N4(hA:FL A){Q:l?->aJ->Prop}(I:Inv H w b s D τ)(hD:ρ∉D)(oN:b.heap.get? ρ=R)(x:IW H w b ρ s.heap D bJ)(hk:R? (o? H w) s.heap ks ka)(ry:bB b.heap s.heap D y v)(hz:bJ.length<=lim)(k:∀ s',Inv H w b s' D τ->dD [ρ] s s' D D τ τ->IW H w b ρ s'.heap D (iK bJ ks y)->Q () s'):b_ (c_ H w) A (dictSet ρ (.ref ka) v) Q E s:=by
 have ok:aX [ρ] s.heap:=λa B B'=>by rw[az]at B;clear hD oN k;subst B;exact x.vj B'
 refine ah (id x) λZ hd q=>?_;have hn:(Z.map (·.1)).Nodup:=zS hd λO O O O O O O O h=>h;refine wpAny_dictSet_heap (IB hA) hk hd (λh' u6 hs=>?_) (by exact J q.length (aR hz eL))
 have vs:=I.quiet (F':=[ρ]) (h':=h') (t:=s.toks+(tk H w).draws ks) (λa o N L=>(hs.2 a λq=>N (by simp[q])).trans L) ok (λa B=>by rw[az]at B;clear oN x k ok hd u6 hs;subst B;exact hD)
  (λa B=>by rw[az]at B;clear hD x k ok hd u6 hs;subst B;exact oN) (λa B o O=>by rw[az]at B;clear hD oN x k ok hd hs;subst B;obtain⟨o',_,_,h,_⟩:=u6;exact⟨_,h⟩) (by exact J hs.1 I.low)
 exact k _ vs.1 vs.2 ⟨_,u6,(q.store hn ks ka ry).mono (I.gM vs.2 ok) eU⟩
theorem D5(Y':Gx b mg mb)(WM:Sound H w b mg mb n k)(he:Sound H w b mg mb n e)(hi:Sound H w b mg mb n vO):Sound H w b mg mb n (.jU k e C' ik vO):=by
 refine Sound.inl (λu' nm sc ex U' cq bV hk hg hb=>?_) λO O O=>X;revert U';refine QM (λke ve t i scope hv U'=>?_);obtain⟨p,iC⟩:=Wn hv;clear hv;subst iC;revert U';refine nI (λtn LZ=>dK (λi' BL U'=>bn7 U' λN L h3 h4 h5 h6 h7=>?_));have hS:=nP h3;have hT:=sD h4
 have hc:VS H w b n u' sc (.jU k e C' ik vO) (.DictComp ke ve [⟨t,i,[],0⟩] scope p):=by
  intro A E s D Y T' C z Q hA I iv aN K;dsimp only[ev]at aN;obtain⟨ae,v,Z,lk,σs,d5,pf,bJ,e1,e2,kC,xo,ro,hlen,hp,hz⟩:=N3 aN;refine bZ (xn iv hS bV) λcl NW Gl Gm=>?_;have jX:=KA Z σs d5 [] bJ xo hlen;refine wpAny_comprehension_free (use:=R) X (gU N) NW hS.kind hS.locals (BJ Y' hi BL h5 cq.2.2.2 cq.2.2.1 bV hk hg hb hA I iv e1 e2 λt1 cU it hh1 tk1 I1 S1 W=>?_)
  refine Ah (AR:=IW H w b) (a0:=([]:dc)) (g:=gD (Rl (ev k) (ev e) C' C)) (BODY:=λG' aU=>do
    let kv <-J_ ke aU
    let vv <-v? [kv] (J_ ve aU)
    match G' with
    |.ref d=>do
     zk {ke.pos with endLine:=ve.pos.endLine,endCol:=ve.pos.endCol}
     v? [kv,vv] (dictSet d kv vv)
    |_=>unsupported "internal:dictcomp") (o0:={cls:=.type "dict",data:=.dict #[]}) (tups:=BH ik) (λs Q h=>kX h) X (.inr X)
   (λρ h D h0=>⟨[],⟨_,_,0,h0,⟨X,X,X⟩,X,X,(λO hx=>nomatch hx),r6⟩,X⟩) (λρ h h' D a x g1 g2=>x.keep g1 g2 eU) (λρ h D a x=>x.vj)
   (λtT G' aU iv s h0 h=>codeAny_compStart_dict h0 h) (λO O O=>X) (λO O O=>X) (λO O O=>X) (λO O O=>X) hS hT bV Gl Gm hA.hh (o9 L) I1 (iv.bl I S1) W kC jX ro (λsl ρ nQ yC x v s D τ kR a a' Q E' Kz I2 R2 rv x2 hD oN Wy Kb=>?_) λs2 gI ρ sl m I2 S2 d1 d2 d3 d4 c1 c2 c3 c4 hm x2=>?_
  .have Ky:=jv (scope:=scope) (cl:=cl) (sl:=sl) bV hk;have VK:=(WM (j_ scope cl sl u') (iU scope.names nm) (iV scope sc tn C') (.inl ke) h6 cq.1 Ky hS.kind hg hb).1;have VE:=(he (j_ scope cl sl u') (iU scope.names nm) (iV scope sc tn C') (.inl ve) h7 cq.2.1 Ky hS.kind hg hb).1;dsimp only[gD]at Kz;revert Kz;refine wK (λt' ks y ef=>aZ (λhl9 Kz=>?_) nS);revert Kb;refine gJ Kz ?_;intro Kb;revert ef;refine d0 (λeH hbt=>qP (λs3 kt ek=>aM (λs4 y' ey=>fz (λks' IX ef=>?_))));revert Kb;refine JM ef ?_;intro Kb;refine ah (o8 hT.nodup hbt) λRz sF vH=>lW ⟨hS,hT⟩ bV hk hA.hh LZ hT.len (λO h=>h) (λO h=>h) sF I2 R2 rv λs1 I3 R3 S3=>Mt (J (ai X) ?_);have sG:aX [sl] s.heap:=(xl.jf (cl:=cl) (sl:=sl) ⟨hS,hT⟩ bV hk).ok R2;have x3:IW H w b ρ s1.heap D a:=x2.step I2 S3 sG (λm=>nQ (az.mp m).symm) hD;have BK:sl∉D:=R2.nM.1
   have lg:∀ a∈[sl,ρ],a∉D:=λa B=>by
    rcases aV.mp B with j6|B
    .clear nQ R2 Ky VK VE Kb R3 S3 sG B;subst j6;exact BK
    .rw[az]at B;clear nQ yC x2 oN Wy Kb x3;subst B;exact hD
   refine aT (VK A _ s1 D τ s3 eH _ _ hA I3 (R3.same vH) ek λkv t4 ρ4 I4 S4 r4=>?_);refine cC (x3.live) λoD WB=>?_;have Uo:ρ∉ρ4:=jM S4 hD WB;have x4:=x3.step I3 S4 aX.nil (λm=>nomatch m) hD;have R4:=(R3.same vH).bl I3 S4;refine aT (ox (VE A _ t4 ρ4 s3 s4 eH _ _ hA I4 R4 ey λvv t5 WE I5 S5 r5=>?_));refine cC (x4.live) λoD2 WN=>?_;have hD5:ρ∉WE:=jM S5 Uo WN;have x5:=x4.step I4 S5 aX.nil (λm=>nomatch m) Uo;have R5:=R4.bl I4 S5;have r4':=I4.rep S5 aX.nil r4;rw[ie IX]at r4';refine ah (g8 (w:=w) r4') λka bK hka=>?_;clear r4 r4';subst bK;refine aT (zP (ox (N4 hA.a I5 hD5 oN x5 hka r5 hl9 λs6 I6 S6 x6=>?_)));have okD:aX [ρ] t5.heap:=λa B B'=>by rw[az]at B;clear nQ yC x2 hD oN Wy Kb x3 lg WB Uo x4 WN hD5 S6 x6;subst B;exact x5.vj B'
   have aaM:∀ a∈[sl,ρ],a∉WE:=λa B=>by
    rcases aV.mp B with mr|B
    .clear nQ R2 Ky VK VE Kb R3 S3 sG BK lg R4 B;subst mr;exact R5.nM.1
    .rw[az]at B;clear nQ yC x2 hD oN Wy Kb x3 lg WB Uo x4 WN x5 S6 x6 okD;subst B;exact hD5
   have R6:=R5.step I5 S6 okD (λm=>nQ (az.mp m)) λy c U' m=>yC y c U' (az.mp m);exact Kb s6 WE I6 (((S3.weaken (λa B=>by simp at B;simp[B]) lg).trans ((S4.trans S5).weaken (λO m=>nomatch m) lg)).trans (S6.weaken (λa B=>by simp at B;simp[B]) aaM)) (rp sF vH R6) x6
  .exact DY hp hz I I2 (S1.trans S2) d1 (S1.tV I1 d2) d3 d4 c1 (S1.tV I1 c2) c3 c4 hm (λh' Fz ht'=>x2.keep (λo e=>Fz ρ o (kz c4) e) ht' eU) (ah x2 λO Ab O=>DictOfH.cls Ab) K
 exact⟨hc,TS.qC hc X⟩
end
section
variable{w:de}{b:aJ}{mg mb:pY}{n:a_}
theorem D6(U':eJ (.bq e C' ik it) nm sc arg=V):∃ el g gs scope p,arg=.inl (.ListComp el (g::gs) scope p)/\(g.is_async != 0)=N':=by cases arg with|inr es=>exact fT U'|inl ex=>revert U';refine T6 (λel t i scope hv U'=>?_);obtain⟨p,eG⟩:=BB hv;clear hv;subst eG;exact TV _ _ _ _ _ X X
theorem xu(U':eJ (.bR e C' ik it c) nm sc arg=V):∃ el g gs scope p,arg=.inl (.ListComp el (g::gs) scope p)/\(g.is_async != 0)=N':=by cases arg with|inr es=>exact fT U'|inl ex=>revert U';refine ML (λel t i q scope hv U'=>?_);obtain⟨p,iC⟩:=BB hv;clear hv;subst iC;exact TV _ _ _ _ _ X X
theorem Aj(U':eJ (.dJ e C' ik it tgt2 tH qK) nm sc arg=V):∃ el g gs scope p,arg=.inl (.ListComp el (g::gs) scope p)/\(g.is_async != 0)=N':=by refine ME λGq kq=>?_;cases arg with|inr es=>exact fT U'|inl ex=>revert U';refine Iw (λel t i t2 i2 scope hv U'=>?_);obtain⟨p,j6⟩:=IL hv;clear hv;subst j6;exact kq _ _ _ _ _ X X
theorem D7(Y':Gx b mg mb)(he:Sound H w b mg mb n e)(hi:Sound H w b mg mb n vO):Sound H w b mg mb n (.bq e C' ik vO):=Sound.ofU (sH Y' he hi) λO O O h=>D6 h
theorem zi(Y':Gx b mg mb)(he:Sound H w b mg mb n e)(hi:Sound H w b mg mb n vO)(U':Sound H w b mg mb n c):Sound H w b mg mb n (.bR e C' ik vO c):=Sound.ofU (ph Y' he hi U') λO O O h=>xu h
theorem BN(Y':Gx b mg mb)(he:Sound H w b mg mb n e)(hi:Sound H w b mg mb n vO)(RE:Sound H w b mg mb n RF):Sound H w b mg mb n (.dJ e C' ik vO tgt2 tH RF):=Sound.ofU (qU Y' he hi RE) λO O O h=>Aj h
theorem sound(Y':Gx b mg mb):∀ c:CE,Sound H w b mg mb n c:=by intro c;induction c with|k v=>exact Rw Y' v|glob x v=>exact Gb Y' x v|var i=>exact Kk i|bin o x y hx hy=>exact Kl hx hy|neg a B=>exact Km B|cmp o x y hx hy=>exact Ko hx hy|isNone y a B=>exact BD B|isin y x d hx hd=>exact Ge hx hd|and x y hx hy=>exact Kr hx hy|or x y hx hy=>exact NK hx hy|not a B=>exact Kn B|ite t x y ht hx hy=>exact Ks ht hx hy|call K' F P as B=>exact Gg Y' B|bi k as B=>exact NL Y' B|idx a i B hi=>exact Ku B hi|gK a k B hk=>exact Gh B hk|fu a k B hk=>exact BE B hk|bc as B=>exact Gi B|lst as B=>exact Kv B|gA=>exact DT|kZ k v hk hv=>exact DU hk hv|bq e C' ik it he hi=>exact D7 Y' he hi|bR e C' ik it c he hi U'=>exact zi Y' he hi U'|dJ e C' ik it tgt2 tH qK he hi RE=>exact BN Y' he hi RE|jU k v C' ik it hk hv hi=>exact D5 Y' hk hv hi|bad=>exact Kp|nil=>exact Kq|cons e r he hr=>exact Gf he hr
theorem WO(Y':Gx b mg mb)(c:CE):xr H w b mg mb n c:=by cases c with|bq e C' ik it=>exact sH Y' (sound Y' e) (sound Y' it)|bR e C' ik it c=>exact ph Y' (sound Y' e) (sound Y' it) (sound Y' c)|dJ e C' ik it tgt2 tH qK=>exact qU Y' (sound Y' e) (sound Y' it) (sound Y' qK)|bad=>intro u' nm sc e hl U' cq bV hk hg hb A E s D Y T' C z use Q Go i scope hA I iv aN;exact nS aN|_=>intro u' nm sc e hl U';refine Zo (RD hl) λel gens scope lp q94=>?_;subst q94;exact fT U'
end
set_option backward.match.sparseCases false
noncomputable def N5 (e:I_):af {x:av × av × Pos // e=.Assign [x.1] x.2.1 x.2.2}:=match e with|.Assign [t] v p=>f ⟨(t,v,p),X⟩|_=>R
def v7(e:I_):af (av × av × Pos):=(N5 e).map m_
noncomputable def aaN (e:I_):af {x:av × C? × av // ∃ p,e=.AugAssign x.1 x.2.1 x.2.2 p}:=match e with|.AugAssign t o v p=>f ⟨(t,o,v),p,X⟩|_=>R
def WQ(e:I_):af (av × C? × av):=(aaN e).map m_
noncomputable def aaO (e:I_):af {x:av // ∃ p,e=.Return (f x) p}:=match e with|.Return (f r) p=>f ⟨r,p,X⟩|_=>R
def aaP(e:I_):af (av):=(aaO e).map m_
noncomputable def aex (e:I_):af {x:av × d_ I_ × d_ I_ // ∃ p,e=.If x.1 x.2.1 x.2.2 p}:=match e with|.If t a b p=>f ⟨(t,a,b),p,X⟩|_=>R
def sIf(e:I_):af (av × d_ I_ × d_ I_):=(aex e).map m_
noncomputable def RJ (e:I_):af {x:av × d_ I_ // ∃ p,e=.While x.1 x.2 [] p}:=match e with|.While t b [] p=>f ⟨(t,b),p,X⟩|_=>R
def N6(e:I_):af (av × d_ I_):=(RJ e).map m_
noncomputable def aaQ (e:I_):af {x:av × av × d_ I_ // ∃ p,e=.For x.1 x.2.1 x.2.2 [] p}:=match e with|.For t i b [] p=>f ⟨(t,i,b),p,X⟩|_=>R
def aaR(e:I_):af (av × av × d_ I_):=(aaQ e).map m_
noncomputable def WR (e:I_):af {x:l? // ∃ p,e=.Continue p}:=match e with|.Continue p=>f ⟨(),p,X⟩|_=>R
def Ur(e:I_):e_:=(WR e).isSome
noncomputable def WS (e:I_):af {x:av // ∃ p,e=.Expr x p}:=match e with|.Expr r p=>f ⟨r,p,X⟩|_=>R
def xv(e:I_):af (av):=(WS e).map m_
noncomputable def WT:I_->e_|.Raise ..=>V|_=>N'
noncomputable def WU (e:av):af {x:av × o_ × dF // ∃ n p ap cp,x.1=.Name n p/\e=.Call (.Attribute (.Name n p) x.2.1 ap) x.2.2 [] cp/\(ap.endLine==cp.line)=V}:=match e with|.Call (.Attribute (.Name n p) m ap) as [] cp=>if q:(ap.endLine==cp.line)=V then f ⟨(.Name n p,m,as),n,p,ap,cp,X,X,q⟩ else .none|_=>R
def Ut(e:av):af (av × o_ × dF):=(WU e).map m_
theorem rq(h:v7 e=f (t,v,p)):e=.Assign [t] v p:=(vL h :)
theorem IY(h:WQ e=f (t,o,v)):∃ p,e=.AugAssign t o v p:=(vL h :)
theorem RK(h:aaP e=f r):∃ p,e=.Return (f r) p:=(vL h :)
theorem WV(h:sIf e=f (t,a,b)):∃ p,e=.If t a b p:=(vL h :)
theorem KB(h:N6 e=f (t,b)):∃ p,e=.While t b [] p:=(vL h :)
theorem RL(h:aaR e=f (t,i,b)):∃ p,e=.For t i b [] p:=(vL h :)
theorem N7(h:Ur e=V):∃ p,e=.Continue p:=(aae h :)
theorem mY(h:xv e=f r):∃ p,e=.Expr r p:=(vL h :)
theorem N8(h:Ut e=f (o,m,as)):∃ x p ap cp,o=.Name x p/\e=.Call (.Attribute (.Name x p) m ap) as [] cp/\(ap.endLine==cp.line)=V:=(vL h :)
noncomputable def N9:av->e_
 |.ListComp .. | .SetComp .. | .DictComp ..=>N'
 |_=>V
noncomputable def Ak:av->e_
 |.SetComp .. | .DictComp ..=>N'
 |_=>V
noncomputable def xw:av->e_|.Tuple M O O'=>(M.all (foldedForSure 8)||!(M.all (constantsAlone 8)))|_=>V
set_option backward.match.sparseCases true
def tX(m:o_)(k:a_)(e:av):af (av × dF):=match Ut e with|f (o,m',as)=>if m=m'/\as.length=k then f (o,as) else .none|R=>R
def sI:CS->NM->SC->I_ ⊕ d_ I_->e_
 |.assign i e,nm,sc,q=>match q with|.inr _=>N' | .inl st=>match v7 st with|f (t,v,O)=>(match vc t with|f x=>sc.any (λq=>decide (q=(x,i)))&&Ak v&&eJ e nm sc (.inl v)|R=>N')|R=>N'
 |.bj is e,nm,sc,q=>match q with|.inr _=>N' | .inl st=>match v7 st with|f (t,v,O)=>(match eM t with|f tn=>rg t&&decide (tn.length=is.length)&&j8 is&&j8 tn&&(tn.zip is).all (λp=>sc.any λq=>decide (q=p))&&xw v&&eJ e nm sc (.inl v)|R=>N')|R=>N'
 |.dh o i e,nm,sc,q=>match q with|.inr _=>N' | .inl st=>match v7 st with|f (t,v,O)=>(match Kh t with|f (a,j)=>eJ (.var o) nm sc (.inl a)&&eJ i nm sc (.inl j)&&eJ e nm sc (.inl v)|R=>N')|R=>N'
 |.aug k i e,nm,sc,q=>match q with|.inr _=>N' | .inl st=>match WQ st with|f (t,op,v)=>(match vc t with|f x=>decide (op=binOp k)&&(decide (op=.Add)||decide (op=.Sub))&&sc.any (λq=>decide (q=(x,i)))&&eJ e nm sc (.inl v)|R=>N')|R=>N'
 |.iL k o i e,nm,sc,q=>match q with|.inr _=>N' | .inl st=>match WQ st with|f (t,op,v)=>(match Kh t with|f (a,j)=>decide (op=binOp k)&&(decide (op=.Add)||decide (op=.Sub))&&xf j&&eJ (.var o) nm sc (.inl a)&&eJ i nm sc (.inl j)&&eJ e nm sc (.inl v)|R=>N')|R=>N'
 |.ret e,nm,sc,q=>match q with|.inr _=>N' | .inl st=>match aaP st with|f v=>eJ e nm sc (.inl v)|R=>N'
 |.iff t a b,nm,sc,q=>match q with|.inr _=>N' | .inl st=>match sIf st with|f (x,y,z)=>eJ t nm sc (.inl x)&&sI a nm sc (.inr y)&&sI b nm sc (.inr z)|R=>N'
 |.kH t b,nm,sc,q=>match q with|.inr _=>N' | .inl st=>match N6 st with|f (x,y)=>eJ t nm sc (.inl x)&&sI b nm sc (.inr y)|R=>N'
 |.gF C' ik it b,nm,sc,q=>match q with|.inr _=>N' | .inl st=>match aaR st with|f (t,i,y)=>(match eM t with|f tn=>(match nN nm ik i with|f i'=>fM i&&vd ik t&&decide (tn.length=C'.length)&&j8 C'&&(tn.zip C').all (λp=>sc.any λq=>decide (q=p))&&eJ it nm sc (.inl i')&&sI b nm sc (.inr y)|R=>N')|R=>N')|R=>N'
 |.cont,O,O',q=>match q with|.inr _=>N' | .inl st=>Ur st
 |.qy d k,nm,sc,q=>match q with|.inr _=>N' | .inl st=>match xv st with|f e=>(match tX "pop" 2 e with|f (o,[a,x])=>eJ (.var d) nm sc (.inl o)&&gS a&&eJ k nm sc (.inl a)&&decide (Bz x=f .none)|_=>N')|R=>N'
 |.qz d k,nm,sc,q=>match q with|.inr _=>N' | .inl st=>match xv st with|f e=>(match tX "pop" 1 e with|f (o,[a])=>eJ (.var d) nm sc (.inl o)&&gS a&&eJ k nm sc (.inl a)|_=>N')|R=>N'
 |.append l x,nm,sc,q=>match q with|.inr _=>N' | .inl st=>match xv st with|f e=>(match tX "append" 1 e with|f (o,[a])=>eJ (.var l) nm sc (.inl o)&&gS a&&eJ x nm sc (.inl a)|_=>N')|R=>N'
 |.extend l x,nm,sc,q=>match q with|.inr _=>N' | .inl st=>match xv st with|f e=>(match tX "extend" 1 e with|f (o,[a])=>eJ (.var l) nm sc (.inl o)&&gS a&&eJ x nm sc (.inl a)|_=>N')|R=>N'
 |.sort l,nm,sc,q=>match q with|.inr _=>N' | .inl st=>match xv st with|f e=>(match tX "sort" 0 e with|f (o,[])=>eJ (.var l) nm sc (.inl o)|_=>N')|R=>N'
 |.expr e,nm,sc,q=>match q with|.inr _=>N' | .inl st=>match xv st with|f v=>N9 v&&eJ e nm sc (.inl v)|R=>N'
 |.raise,O,O',q=>match q with|.inr _=>N' | .inl st=>WT st
 |.skip,O,O',q=>match q with|.inl _=>N' | .inr L0=>L0.isEmpty
 |.seq a b,nm,sc,q=>match q with|.inl _=>N' | .inr L0=>match L0 with|st::L0=>sI a nm sc (.inl st)&&sI b nm sc (.inr L0)|[]=>N'
end Mine.Internal
end
section
open PySem PyProof.Rows
namespace Mine.Internal
noncomputable def jf (u':t?) (sc:SC):cg:=u'.locals::sc.filterMap λp=>u'.cells.lookup p.1
theorem kK(h:∀ x∈ns,∃ i,(x,i)∈sc):DV u' (jf u' sc) ns:=by
 refine⟨λa B=>?_,aQ,λx hx O c U'=>?_⟩
 .rcases aV.mp B with eG|B
  .clear B;subst eG;exact .inl X
  .refine ah (Vc.mp B) λp O L=>?_;exact .inr ⟨_,L⟩
 .obtain⟨i,hi⟩:=h x hx;exact bg _ (Vc.mpr ⟨(x,i),hi,U'⟩)
section
variable(H:B_)(w:de)(b:aJ)(mg mb:pY)
def Uu(J' h:cH)(D:cg):Fl->Flow->Prop|.next,.next=>j?|.cont,.cont=>j?|.ret v,.ret u=>bB J' h D v u|O,O'=>False
def Qo(n:a_):CS->Prop|.assign O e=>Ok H w b mg mb n e|.bj O e=>Ok H w b mg mb n e|.dh o i e=>Ok H w b mg mb n (.var o)/\Ok H w b mg mb n i/\Ok H w b mg mb n e|.aug O O' e=>Ok H w b mg mb n e|.iL O o i e=>Ok H w b mg mb n (.var o)/\Ok H w b mg mb n i/\Ok H w b mg mb n e|.ret e=>Ok H w b mg mb n e|.iff t a c=>Ok H w b mg mb n t/\Qo n a/\Qo n c|.kH t a=>Ok H w b mg mb n t/\Qo n a|.gF O ik it a=>sB mg mb ik/\Ok H w b mg mb n it/\Qo n a|.cont=>j?|.qy d k=>Ok H w b mg mb n (.var d)/\Ok H w b mg mb n k|.qz d k=>Ok H w b mg mb n (.var d)/\Ok H w b mg mb n k|.append l e=>Ok H w b mg mb n (.var l)/\Ok H w b mg mb n e|.extend l e=>Ok H w b mg mb n (.var l)/\Ok H w b mg mb n e|.sort l=>Ok H w b mg mb n (.var l)|.expr e=>Ok H w b mg mb n e|.raise=>j?|.skip=>j?|.seq a c=>Qo n a/\Qo n c
def SSx(n:a_)(u':t?)(sc:SC)(c:CS)(run:Sem Flow):Prop:=
 ∀(A:dd) (E:cP) (s:aJ) (D:cg) (Y T':St) (C bh:al) (K':Fl) (Q:Flow->aJ->Prop),DO n A->Inv H w b s D Y->ER b u' sc C s D->ex c Y C=f (T',bh,K') ->
  (∀ fl s' ca,Inv H w b s' ca T'->ER b u' sc bh s' ca->dD (jf u' sc) s s' D ca Y T'->Uu b.heap s'.heap ca K' fl->Q fl s')->b_ (c_ H w) A run Q E s
def bG(n:a_)(c:CS):Prop:=∀(u':t?) (nm:NM) (sc:SC) (arg:I_ ⊕ d_ I_),sI c nm sc arg=V->Qo H w b mg mb n c->(∀ x,u'.kindOf x=nm.lookup x)->u'.scope.kind=.function->u'.globals=p_->u'.builtins=K_->match arg with|.inl st=>SSx H w b n u' sc c (exec st u')|.inr L0=>SSx H w b n u' sc c (execs L0 u')
end
section
variable{w:de}{b s s1 s':aJ}{mg mb:pY}{D mH ca F' fp wr:cg}{Y σs T' ae τ kR:St}{A:dd}{E:cP}{u':t?}{nm:NM}{sc:SC}{C bh:al}{n:a_}
theorem bG.inl{c:CS}(h:∀(u':t?) (nm:NM) (sc:SC) (st:I_),sI c nm sc (.inl st)=V->Qo H w b mg mb n c->(∀ x,u'.kindOf x=nm.lookup x)->u'.scope.kind=.function->u'.globals=p_->u'.builtins=K_->SSx H w b n u' sc c (exec st u'))(hr:∀ nm sc es,sI c nm sc (.inr es)=N'):bG H w b mg mb n c:=λu' nm sc arg=>match arg with|.inl e=>h u' nm sc e|.inr es=>λU'=>fT ((hr nm sc es).symm.trans U')
theorem mZ(iv:ER b u' sc C s D):∀ a∈jf u' sc,a∉D:=(kK (ns:=[]) (λO h=>nomatch h)).out iv
theorem xx(iv:ER b u' sc C s D):aX (jf u' sc) s.heap:=(kK (ns:=[]) (λO h=>nomatch h)).ok iv
theorem dD.up(S:dD [] s s' D ca Y T')(iv:ER b u' sc C s D):dD (jf u' sc) s s' D ca Y T':=S.weaken (λO m=>nomatch m) (mZ iv)
theorem RM:bG H w b mg mb n .skip:=by intro u' nm sc arg U' cq bV hk hg hb;cases arg with|inl st=>exact fT U'|inr L0=>dsimp only[sI]at U';obtain rfl:=U6.mp U';intro A E s D Y T' C bh K' Q hA I iv aN K;dsimp only[ex]at aN;simp only[dQ,rU]at aN;obtain⟨iC,j6,mr⟩:=aN;subst iC;subst j6;subst mr;exact Mo (K .next s D I iv (dD.refl _ _ _ _) Z')
theorem WW(B:bG H w b mg mb n a)(hcc:bG H w b mg mb n c):bG H w b mg mb n (.seq a c):=by intro u' nm sc arg U' cq bV hk hg hb;cases arg with|inl st=>exact fT U'|inr L0=>cases L0 with|nil=>exact fT U'|cons st L0=>
   dsimp only[sI]at U';rw[jc]at U';have SA:=B u' nm sc (.inl st) U'.1 cq.1 bV hk hg hb;have SC':=hcc u' nm sc (.inr L0) U'.2 cq.2 bV hk hg hb;intro A E s D Y T' C bh K' Q hA I iv aN K;dsimp only[ex]at aN;refine wpAny_execs_cons ?_;revert aN;refine VW (λs1 lh e1 aN=>?_) (λej aN=>?_)
   .refine SA A E s D Y s1 C lh .next _ hA I iv e1 λfl t1 cU I1 R1 S1 hf=>?_;cases fl with|next=>exact SC' A E t1 cU s1 T' lh bh K' Q hA I1 R1 aN λfl s' ca I' R' S' hf'=>K fl s' ca I' R' (S1.trans S') hf'|_=>exact hf.elim
   .refine SA A E s D Y T' C bh K' _ hA I iv aN λfl t1 cU I1 R1 S1 hf=>?_;cases fl with|next=>(cases K' with|next=>exact(ej T' bh aN).elim|_=>exact hf.elim)|brk=>(clear K aN;cases K')<;>exact hf.elim|cont=>exact K _ t1 cU I1 R1 S1 hf|ret u=>exact K _ t1 cU I1 R1 S1 hf
theorem Oa:bG H w b mg mb n .raise:=by refine bG.inl (λu' nm sc st U' cq bV hk hg hb=>?_) λO O O=>X;intro A E s D Y T' C bh K' Q hA I iv aN K;exact nS aN
theorem RN:bG H w b mg mb n .cont:=by refine bG.inl (λu' nm sc st U' cq bV hk hg hb=>?_) λO O O=>X;dsimp only[sI]at U';refine cC (N7 U') λp aL=>?_;clear U';subst aL;intro A E s D Y T' C bh K' Q hA I iv aN K;dsimp only[ex]at aN;simp only[dQ,rU]at aN;obtain⟨oU,qA,vF⟩:=aN;subst oU;subst qA;subst vF;exact wpAny_Continue (K .cont s D I iv (dD.refl _ _ _ _) Z')
theorem WX(Y':Gx b mg mb):bG H w b mg mb n (.ret e):=by refine bG.inl (λu' nm sc st U' cq bV hk hg hb=>?_) λO O O=>X;revert U';refine dK (λv hv U'=>?_);obtain⟨p,yI⟩:=RK hv;clear hv;subst yI;intro A E s D Y T' C bh K' Q hA I iv aN K;revert aN;refine aM (λs1 x e1 aN=>?_);revert K;refine JM aN ?_;intro K;exact wpAny_Return_some (((sound Y' e u' nm sc (.inl v) U' cq bV hk hg hb).1) A E s D Y s1 C x _ hA I iv e1 λu t1 cU I1 S1 r1=>K (.ret u) t1 cU I1 (iv.bl I S1) (S1.up iv) r1)
theorem WY(Y':Gx b mg mb)(hx:bG H w b mg mb n x)(hy:bG H w b mg mb n y):bG H w b mg mb n (.iff t x y):=by
 refine bG.inl (λu' nm sc st U' cq bV hk hg hb=>?_) λO O O=>X;revert U';refine MY (λte bs os hv U'=>?_);obtain⟨p,Dp⟩:=WV hv;clear hv;subst Dp;simp only[jc]at U';have T:=(sound Y' t u' nm sc (.inl te) U'.1.1 cq.1 bV hk hg hb).2;intro A E s D Y T' C bh K' Q hA I iv aN K;revert aN;refine sh (λs1 e1 aN=>?_) (λs1 e1 aN=>?_)
 .exact wpAny_If (T A E s D Y s1 C V _ hA I iv e1 λt1 cU I1 S1=>(hx u' nm sc (.inr bs) U'.1.2 cq.2.1 bV hk hg hb) A E t1 cU s1 T' C bh K' Q hA I1 (iv.bl I S1) aN λfl s' ca I' R' S' hf=>K fl s' ca I' R' ((S1.up iv).trans S') hf)
 .exact wpAny_If (T A E s D Y s1 C N' _ hA I iv e1 λt1 cU I1 S1=>(hy u' nm sc (.inr os) U'.2 cq.2.2 bV hk hg hb) A E t1 cU s1 T' C bh K' Q hA I1 (iv.bl I S1) aN λfl s' ca I' R' S' hf=>K fl s' ca I' R' ((S1.up iv).trans S') hf)
theorem BO{t:St->al->jq}{K':St->al->af (St × al × Fl)}(h:eZ t K' k Y C=f r):∃ k',k=k'+1:=by cases k with|zero=>exact nS h|succ k=>exact⟨k,X⟩
theorem RO(Y':Gx b mg mb)(hx:bG H w b mg mb n x):bG H w b mg mb n (.kH t x):=by
 refine bG.inl (λu' nm sc st U' cq bV hk hg hb=>?_) λO O O=>X;revert U';refine M5 (λte bs hv U'=>?_);obtain⟨p,wM⟩:=KB hv;clear hv;subst wM;simp only[jc]at U';have T:=(sound Y' t u' nm sc (.inl te) U'.1 cq.1 bV hk hg hb).2;have aj:=hx u' nm sc (.inr bs) U'.2 cq.2 bV hk hg hb;intro A E s D Y T' C bh K' Q hA I iv aN K;dsimp only[ex]at aN;refine wpAny_While (codeAny_whileLoop (λk s1=>∃ cU τ lh,Inv H w b s1 cU τ/\ER b u' sc lh s1 cU/\dD (jf u' sc) s s1 D cU Y τ/\eZ (ev t) (ex x) k τ lh=f (T',bh,K')) ?_ 100000 ⟨D,Y,C,I,iv,dD.refl _ _ _ _,aN⟩);rintro k s1 ⟨cU,τ,lh,I1,R1,S1,hw⟩;obtain⟨k',Bc⟩:=BO hw;subst Bc;revert hw;refine sh (λs2 e1 hw=>?_) (λs2 e1 hw=>?_)
 .refine T A _ s1 cU τ s2 lh V _ hA I1 R1 e1 λt2 gI I2 S2=>J (ai X) ?_;have R2:=R1.bl I1 S2;revert hw;refine M8 (λs3 sl3 v e2 hw=>?_) (λs3 sl3 f3 e2 ej hw=>?_) nS
  .revert K;refine JM hw ?_;intro K;refine aj A _ t2 gI s2 s3 lh sl3 _ _ hA I2 R2 e2 λfl t3 vh I3 R3 S3 hf=>?_;cases fl with|ret u=>exact K (.ret u) t3 vh I3 R3 ((S1.trans (S2.up R1)).trans S3) hf|_=>exact hf.elim
  .refine aj A _ t2 gI s2 s3 lh sl3 f3 _ hA I2 R2 e2 λfl t3 vh I3 R3 S3 hf=>?_;have S':=(S1.trans (S2.up R1)).trans S3;cases f3 with|ret v=>exact(ej v X).elim|next=>(cases fl with|next=>exact⟨k',ky _,vh,s3,sl3,I3,R3,S',hw⟩|_=>exact hf.elim)|cont=>cases fl with|cont=>exact⟨k',ky _,vh,s3,sl3,I3,R3,S',hw⟩|_=>exact hf.elim
 .revert K;refine JM hw ?_;intro K;exact T A _ s1 cU τ s2 lh N' _ hA I1 R1 e1 λt2 gI I2 S2=>J (ak (by decide)) (Mo (K .next t2 gI I2 (R1.bl I1 S2) (S1.trans (S2.up R1)) Z'))
end
section
variable{w:de}{b s s1 s':aJ}{mg mb:pY}{D mH ca F' fp wr:cg}{Y σs T' ae τ kR:St}{A:dd}{E:cP}{u':t?}{nm:NM}{sc:SC}{C bh:al}{n:a_}
theorem ly(h:iS r C=f (T',bh,K')):r=f T'/\bh=C/\K'=.next:=by delta iS at h;revert h;refine dx (λO br h=>?_);subst br;exact JM h (qM X X X)
theorem D8(hx:(x,i)∈sc)(I:Inv H w b s D Y)(iv:ER b u' sc C s D)(rv:bB b.heap s.heap D v u){Q:l?->aJ->Prop}(k:∀ s',Inv H w b s' D Y->ER b u' sc (aE C i v) s' D->dD (jf u' sc) s s' D D Y Y->Q () s') :
  b_ (c_ H w) A (storeName u' x u) Q E s:=by
 have W:=kK (u':=u') (sc:=sc) (ns:=[x]) λy hy=>⟨i,by rw[az]at hy;subst hy;exact hx⟩;exact iv.store I hx rv W.loc (λhk c U'=>W.Wq x aQ hk c U') (W.out iv) λs' I' R' S' O=>k s' I' R' S'
theorem BP(h:sc.any (λp=>decide (p=q))=V):q∈sc:=by refine ah (L7.mp h) λp N L=>?_;exact dT (dY L) N
theorem D9(h:NY v=N')(hd:Ak v=V)(t:af av)(l:a_):V? v t l u'=pure N':=by cases v<;>first|rfl|((dsimp only[NY]at h;simp at h);done)|(exact fT hd;done)
theorem ER.aaT(iv:ER b u' sc C s D){t:Tok}{m:pY}(hm:s.heap.Ns sl m)(hs:s_ sl s.heap h')(hL:u'.locals≠sl)(hC:∀ x c,u'.cells.lookup x=f c->c≠sl):ER b u' sc C {s with heap:=h',toks:=t} D:=by
 have ok:aX [sl] s.heap:=aX.of λa B oo LX Z n e=>by rw[az]at B;clear hs hL hC;subst B;obtain⟨o',_,_,N,L,_⟩:=hm;rw[N]at LX;obtain rfl:=aw LX;rw[L]at e;cases e
 exact iv.kept (F':=[sl]) (λa o N L=>(hs.2 a λq=>N (by simp[q])).trans L) ok (λq=>hL (az.mp q)) λx c U' q=>hC x c U' (az.mp q)
theorem KD{Q:Flow->aJ->Prop}(hx:(x,i)∈sc)(I:Inv H w b s D Y)(iv:ER b u' sc C s D)(K:∀ s' ca,Inv H w b s' ca T'->ER b u' sc (aE C i z) s' ca->dD (jf u' sc) s s' D ca Y T'->Q .next s') :
  pg H w b A E (f (assign (.Name x px) u')) (λO s'=>Q .next s') s D Y T' z:=by
 intro s2 gI ρ sl m pf ys hp hz I2 S2 d1 d2 d3 d4 c1 c2 c3 c4 hm x2;refine ah (id x2) λM Ab hr=>?_;obtain⟨I3,Bd⟩:=I2.adopt (PlainList.cls Ab) d1 d3 d4 hp ⟨M,Ab,hr⟩;have S3:=S2.adopt I I2 (o:=.list ys) d2 hp;have R3:=iv.bl I S3;subst hz;have hLC:u'.locals≠sl:=λq=>by refine ah (iv.vb) λo ho O=>?_;rw[q,c2]at ho;exact nS ho
 have hCC:∀ x c,u'.cells.lookup x=f c->c≠sl:=λy c U' q=>by refine ah (iv.qS U') λo ho O=>?_;rw[q,c2]at ho;exact nS ho
 have BK:sl∉jf u' sc:=λq=>by
  rcases(kK (u':=u') (sc:=sc) (ns:=[]) (λO h=>nomatch h)).sub sl q with q|⟨y,q⟩
  .exact hLC q.symm
  .exact hCC y sl q X
 have NP:sl∉gI++[ρ]:=λq=>by
  rcases fH.mp q with q|q
  .exact c1 q
  .exact c4 (az.mp q)
 show b_ _ A (assign (.Name x px) u' (.ref ρ)) _ _ s2;have W:=kK (u':=u') (sc:=sc) (ns:=[x]) λy hy=>⟨i,by rw[az]at hy;subst hy;exact hx⟩;refine Mn (R3.store I3 hx (bB.ref Bd) W.loc (λhk c U'=>W.Wq x aQ hk c U') (W.out R3) λs4 I4 R4 S4 IQ=>?_);have hm4:s4.heap.Ns sl m:=Ns.kept hm λo e=>IQ sl o BK e;refine aK m hm4 (λh' hs=>?_);have hk:∀ a o,a∉[sl]->s4.heap.get? a=f o->h'.get? a=f o:=λa o N L=>(hs.2 a λq=>N (by simp[q])).trans L;have sG:aX [sl] s4.heap:=aX.of λa B oo LX Z n e=>by rw[az]at B;clear c1 c2 c3 c4 hm hLC hCC BK NP hs hk;subst B;obtain⟨o',_,_,N,L,_⟩:=hm4;rw[N]at LX;obtain rfl:=aw LX;rw[L]at e;cases e
 have R5:=R4.aaT (h':=h') (t:=s4.toks) hm4 hs hLC hCC;refine K {s4 with heap:=h'} _ (I4.kept (F':=[sl]) (h':=h') (t:=s4.toks) hk sG (λa B=>by rw[az]at B;clear c1 c2 c3 c4 hm hLC hCC BK hm4 hs hk sG;subst B;exact NP) (λa B=>by rw[az]at B;clear c1 c2 c4 hm hLC hCC BK NP hm4 hs hk sG;subst B;exact c3) (by exact J hs.1 I4.low)) R5 ?_;have Uv:=(S3.weaken (λO m=>nomatch m) (mZ iv)).trans S4;refine⟨Uv.pre,Uv.new,λa o N L h3=>(hs.2 a λq=>?_).trans (Uv.fr a o N L h3),Uv.flags,λj a o N L h3=>(hs.2 a λq=>?_).trans (Uv.lock j a o N L h3),λa B o ho=>?_⟩
 .rw[q,c2]at h3;exact nS h3
 .rw[q,c2]at h3;exact nS h3
 .obtain⟨o',qB⟩:=Uv.Dq a B o ho;exact⟨o',(hs.2 a λq=>BK (q▸B)).trans qB⟩
theorem WZ(U':eJ c nm sc (.inl (.ListComp el gens scope lp))=V):(∃ g gs,gens=g::gs/\(g.is_async != 0)=N')\/c=.bad:=by cases c with|bq e C' ik it=>(refine wI (D6 U') λel' g gs Ob p q h=>?_;clear U';cases q;exact .inl ⟨g,gs,X,h⟩)|bR e C' ik it c=>(refine wI (xu U') λel' g gs Ob p q h=>?_;clear U';cases q;exact .inl ⟨g,gs,X,h⟩)|dJ e C' ik it tgt2 tH qK=>(refine wI (Aj U') λel' g gs Ob p q h=>?_;clear U';cases q;exact .inl ⟨g,gs,X,h⟩)|bad=>exact .inr X|_=>exact fT U'
theorem KF(Y':Gx b mg mb):bG H w b mg mb n (.assign i e):=by
 refine bG.inl (λu' nm sc st U' cq bV hk hg hb=>?_) λO O O=>X;revert U';refine wL (λt v p hv U'=>?_);obtain rfl:=rq hv;revert U';refine vY (λx hx U'=>?_);obtain⟨px,eG⟩:=lj hx;clear hx;subst eG;refine JL U' λN L h3=>?_;have fD:=BP N;have hc:=(sound Y' e u' nm sc (.inl v) h3 cq bV hk hg hb).1;intro A E s D Y T' C bh K' Q hA I iv aN K;revert aN;refine aM (λs1 z e1 aN=>?_);revert K;refine JM aN ?_;intro K
 have plain:V? v (f (.Name x px)) p.line u'=pure N'->b_ (c_ H w) A (exec (.Assign [.Name x px] v p) u') Q E s:=λKG=>
  wpAny_Assign_Name (hc A E s D Y s1 C z _ hA I iv e1 λu t1 cU I1 S1 r1=>D8 fD I1 (iv.bl I S1) r1 λs2 I2 R2 S2=>K .next s2 cU I2 R2 ((S1.up iv).trans S2) Z') KG
 cases hl:NY v with|false=>exact plain (D9 hl L _ _)|true=>
  have U:=WO Y' e u' nm sc v hl h3 cq bV hk hg hb
  cases v with
  |ListComp el gens scope lp=>have KG:∃ bb,V? (.ListComp el gens scope lp) (f (.Name x px)) p.line u'=pure bb:=⟨_,X⟩;obtain⟨bb,KG⟩:=KG;cases bb with|false=>exact plain KG|true=>
    refine J (exec_Assign_Name_used _ _ _ _ KG) (aT (zP (aT ?_)));rcases WZ h3 with ⟨g,gs,rfl,has⟩|rfl
    .obtain⟨t0,i0,D0,a0⟩:=g;have e2:firstAsync (⟨t0,i0,D0,a0⟩::gs)=N':=has;show b_ (c_ H w) A (do let _ <-comprehension (.ListComp el (⟨t0,i0,D0,a0⟩::gs) scope lp) scope u' (firstIterPos (⟨t0,i0,D0,a0⟩::gs) lp) (newList []) (firstAsync (⟨t0,i0,D0,a0⟩::gs)) (firstIter (⟨t0,i0,D0,a0⟩::gs) u') (f (assign (.Name x px) u'))) _ _ _;refine J e2 (aT (oy (U A E s D Y s1 C z (f (assign (.Name x px) u')) (λO s'=>Q .next s') _ i0 scope hA I iv e1 X (KD fD I iv λs' ca I' R' S'=>K .next s' ca I' R' S' Z')) (λO s' hq=>cB (cB hq)) λO O h=>h))
    .exact nS e1
  |_=>exact fT hl
end
section
variable{w:de}{b s s1 s':aJ}{mg mb:pY}{D mH ca F' fp wr:cg}{Y σs T' ae τ kR:St}{A:dd}{E:cP}{u':t?}{nm:NM}{sc:SC}{C bh:al}{n:a_}
theorem BQ(P:o_->Pos->e_):∀(es:dF) (tn:d_ o_),namesOf es=f tn->(es.filterMap λ| .Name id pos=>if P id pos then f id else R|_=>R).length<=es.length/\((es.filterMap λ| .Name id pos=>if P id pos then f id else R|_=>R).length=es.length->(es.filterMap λ| .Name id pos=>if P id pos then f id else R|_=>R)=tn):=λw'=>by induction w' with|nil=>intro tn h;(dsimp only[namesOf]at h;rw[dQ]at h);subst h;exact⟨c9 _,λO=>X⟩|cons e es ih=>
  intro tn h;revert h
  .refine Iy (λx hx=>Iu (λr hr h=>?_));obtain⟨p,eG⟩:=lj hx;clear hx;subst eG;obtain rfl:=aw h;obtain⟨N,L⟩:=ih r hr;dsimp only[List.filterMap];cases hP:P x p with|true=>refine J (ai X) ⟨zI N,λq=>?_⟩;exact J (L (Me q)) X|false=>refine J (ak (by decide)) ⟨CX N,λq=>?_⟩;exact(jh (zG N) q).elim
theorem zj(ht:namesOf es=f tn)(hv:xw v=V):swappedStores [.Tuple es k p] v u'=pure R\/swappedStores [.Tuple es k p] v u'=pure (f tn):=by
 cases v with
 |Tuple M k2 p2=>
  unfold swappedStores;dsimp only;split
  .exact .inl X
  .split
   .exact .inl X
   .split
    .exact .inl X
    .split
     .exact .inl X
     .split
      .rename_i N L h3 h4 h5
       dsimp only[xw]at hv;rw[qx,rW]at hv;rcases hv with h|h
       .exact g_ h h4
       .rw[h5]at h;exact tF h
      .rename_i h3 _ _
       refine .inr ?_;have key:=(BQ (λid pos=>u'.kindOf id==f .local&&pos.line==(es.head?.map (·.pos.line)).getD 0) es tn ht).2;simp -iota only [qx,bne_iff_ne,ne_eq,wA,Decidable.not_not]at h3;exact cb (λl=>(pure (f l):Sem (af (d_ o_)))) (key h3.1)
 |_=>exact .inl X
theorem Gr(ht:eM t=f tn)(hi:rg t=V):∃ es k p,t=.Tuple es k p/\namesOf es=f tn/\2<=es.length:=by refine MD λGq kq=>?_;cases t with|Tuple es k p=>dsimp only[eM,vc,Rq]at ht;revert ht;refine aZ (λL ht=>?_) nS;exact kq es k p X ht L|_=>exact fT hi
theorem Ea(u':t?):∀(es:dF) (ns:d_ o_),namesOf es=f ns->ns.length=es.length:=λes ns h=>(o6 (u':=u') es ns h).2.2.2.2
theorem vk{tn:d_ o_}{is:cj}(h:(tn.zip is).all (λp=>sc.any λq=>decide (q=p))=V):∀ p∈tn.zip is,p∈sc:=λp hp=>BP (mK.mp h p hp)
theorem Eb{tn:d_ o_}{is:cj}(hl:tn.length=is.length){x:o_}(hx:x∈tn):∃ i,(x,i)∈tn.zip is:=by obtain⟨k,hk⟩:=Ma hx;have iE:k<tn.length:=(mq.mp hk).1;refine⟨is[k]'(by lia),dX (i:=k) ?_⟩;refine J (propext Y5) ?_;exact⟨hk,lL (by omega)⟩
theorem Ec:∀(is:cj) (Z C:al),Z.length=is.length->∃ c,bindL is Z C=f c:=λw'=>by induction w' with|nil=>(intro z1;cases z1 with|nil=>intro C O;exact⟨C,X⟩|cons O O=>intro O h;cases h)|cons i is ih=>intro z1;cases z1 with|nil=>(intro O h;cases h)|cons x Z=>intro C h;exact ih Z (aE C i x) (Me h)
theorem Gs(Y':Gx b mg mb){is:cj}:bG H w b mg mb n (.bj is e):=by
 refine bG.inl (λu' nm sc st U' cq bV hk hg hb=>?_) λO O O=>X;revert U';refine wL (λt v p hv U'=>?_);obtain rfl:=rq hv;revert U';refine nI (λtn LZ U'=>?_);simp only[jc,jR]at U';obtain⟨⟨⟨⟨⟨⟨N,L⟩,h3⟩,h4⟩,h5⟩,h6⟩,h7⟩:=U';have hm:=vk h5;refine zR (Gr LZ N) λes k tp aL hns N0=>?_;clear N;subst aL;have W:=kK (u':=u') (sc:=sc) (ns:=tn) λy hy=>cC (Eb L hy) λi hi=>⟨i,hm _ hi⟩;have hc:=(sound Y' e u' nm sc (.inl v) h7 cq bV hk hg hb).1;intro A E s D Y T' C bh K' Q hA I iv aN K;revert aN;refine qP (λs1 Z e1=>d0 (λlh e2 aN=>?_));revert K;refine JM aN ?_;intro K;have KG:swapsWithSole [.Tuple es k tp] v p.line u'=pure N':=by(clear h7 h6 hv hc;cases v)<;>rfl
 rcases zj (u':=u') (k:=k) (p:=tp) hns h6 with hw|hw
 .refine Assign_Tuple (hc A E s D Y s1 C (.tup Z) _ hA I iv e1 λu t1 cU I1 S1 r1=>?_) KG hw
  have sF:dw is (.tup Z) C=f lh:=by
   have:2<=is.length:=by(refine dT L (J (Ea u' es tn hns) ?_));exact N0
   match is,this with|O::O'::O'',O'''=>exact e2
  exact tS hA.hh LZ L hm W sF I1 (iv.bl I S1) r1 λs2 I2 R2 S2 O=>K .next s2 cU I2 R2 ((S1.up iv).trans S2) Z'
 .refine Assign_Tuple_swapped (hc A E s D Y s1 C (.tup Z) _ hA I iv e1 λu t1 cU I1 S1 r1=>?_) KG hw;refine aW (r1.bD) λa M aL tt q=>?_;clear r1;subst aL;have hxl:Z.length=is.length:=(fk _ _ _ _ e2).2.1;refine J (by simp -iota only [dZ,q.length,hxl,L]:tn.length=M.toArray.size) (wpAny_unpackItems_tuple hA.hh tt λh' hx=>?_);have hk:=vg I1 hx;have vs:=I1.more (t:=t1.toks) hk (I1.g7 hk);have CN:is.Nodup:=ju h3;obtain⟨c,Wg⟩:=Ec is.reverse Z.reverse C (by exact J uR (J hxl (J uR X)));have NX:=ze e2 Wg CN;refine Ad (F':=jf u' sc) (tn.reverse.map λn=>bindName u' n) tn.reverse is.reverse Z.reverse M.reverse _ C c (by simp) (λp hp=>?_) (λp hp=>?_) (by simp[L]) ⟨W.sub,W.loc,λy hy=>W.Wq y (by simpa using hy)⟩ (aG.reverse (I1.FK vs.2 aX.nil q)) Wg vs.1 ((iv.bl I S1).bl I1 vs.2) _ λs2 I2 R2 S2 k2=>K .next s2 cU I2 (R2.same NX) (((S1.trans vs.2).up iv).trans S2) Z'
  .refine ah (fN hp) λi h8 h9=>?_;rw[mL]at h8;rw[h9]at h8;simp only[zL,dQ]at h8;exact dT h8 (λvs A E s v Q h=>bindName_ h)
  .refine ah (fN hp) λi h8 h9=>?_
   have hi:i<tn.length:=by
    have:=(mq.mp h8).1
    simpa using this
   rw[JJ (by omega)]at h8;rw[JJ (by lia),<-L]at h9;refine hm p (dX (i:=tn.length-1-i) (J (propext Y5) ?_));exact⟨h8,h9⟩
end
section
variable{w:de}{b s s1 s':aJ}{mg mb:pY}{D mH ca F' fp wr:cg}{Y σs T' ae τ kR:St}{A:dd}{E:cP}{u':t?}{nm:NM}{sc:SC}{C bh:al}{n:a_}
theorem ER.aaX(iv:ER b u' sc C s D)(hx:(x,i)∈sc)(hu:(ao C i).DL=N'){Q:cP}(k:∀ u,bB b.heap s.heap D (ao C i) u->Q u s) :
  b_ (c_ H w) A (loadName u' x) Q E s:=by
 rcases iv.kinds x i hx with h|⟨h,c,U'⟩
 .exact ah (iv.ns) λm hm hr=>ah (hr x i hx h hu) λu N L=>wpAny_loadName_local iv.kind h hm N (k u L)
 .refine ah (iv.cells x c U') λu N L=>?_;refine ah (L i hx h hu) λv bK h3=>?_;clear L;subst bK;exact wpAny_loadName_cell iv.kind h U' N (k v h3)
theorem KH(Y':Gx b mg mb):bG H w b mg mb n (.dh o i e):=by
 refine bG.inl (λu' nm sc st U' cq bV hk hg hb=>?_) λO O O=>X;revert U';refine wL (λt v p hv U'=>?_);obtain rfl:=rq hv;revert U';refine pZ (λa j ht U'=>?_);obtain⟨tp,rfl⟩:=sA ht;refine JL U' λN L h3=>?_;have VO:=(sound Y' (.var o) u' nm sc (.inl a) N cq.1 bV hk hg hb).1;have VI:=(sound Y' i u' nm sc (.inl j) L cq.2.1 bV hk hg hb).1;have VE:=(sound Y' e u' nm sc (.inl v) h3 cq.2.2 bV hk hg hb).1;intro A E s D Y T' C bh K' Q hA I iv aN K;revert aN;refine aM (λs1 x e1=>iP (λs2 la e2=>aM (λs3 M' e3 aN=>?_)));refine dH (ly aN) λe4 bK fJ=>?_;subst bK;clear aN;subst fJ;have KG:V? v (f (.Subscript a j tp)) p.line u'=pure N':=by(clear hv h3 VE;cases v)<;>rfl
 refine wpAny_Assign_Subscript (VE A E s D Y s1 bh x _ hA I iv e1 λu1 t1 cU I1 S1 r1=>?_) KG;have R1:=iv.bl I S1;refine VO A E t1 cU s1 s2 bh _ _ hA I1 R1 e2 λu2 t2 gI I2 S2 r2=>?_;have R2:=R1.bl I1 S2;refine VI A E t2 gI s2 s3 bh _ _ hA I2 R2 e3 λu3 t3 vh I3 S3 r3=>?_;exact DF hA.a I3 (I2.rep S3 aX.nil r2) r3 (I2.rep S3 aX.nil (I1.rep S2 aX.nil r1)) e4 λt4 ρ4 I4 S4=>K .next t4 ρ4 I4 ((R2.bl I2 S3).bl I3 S4) ((((S1.trans S2).trans S3).trans S4).up iv) Z'
theorem Oc{t u:Tok}{Q:cP}(hk:binOp k=.Add\/binOp k=.Sub)(e:cX k x y=f z)(K:∀ t t',Q (.int z t) {s with toks:=t'}) :
  b_ (c_ H w) A (inplaceOp (binOp k) (.int x t) (.int y u)) Q E s:=by
 cases k<;>first|(rcases hk with h|h<;>cases h;done)|skip
 .dsimp only[cX]at e;rw[dQ]at e;subst e;exact AutoIntOps.iadd_0 (K _ _)
 .dsimp only[cX]at e;rw[dQ]at e;subst e;exact AutoIntOps.isub_0 (K _ _)
theorem W3(Y':Gx b mg mb):bG H w b mg mb n (.aug k i e):=by refine bG.inl (λu' nm sc st U' cq bV hk hg hb=>?_) λO O O=>X;revert U';refine A9 (λt op v hv U'=>?_);obtain⟨p,rfl⟩:=IY hv;revert U';refine vY (λx hx U'=>?_);obtain⟨px,rfl⟩:=lj hx;simp only[jc,qx,jR]at U';obtain⟨⟨⟨N,L⟩,h3⟩,h4⟩:=U';clear hv;subst N;have fD:=BP h3;intro A E s D Y T' C bh K' Q hA I iv aN K;revert aN;refine MN (λx1 Uw=>Dk (λs1 y e1=>gQ (λz ez aN=>?_)));revert K;refine JM aN ?_;intro K;refine wpAny_AugAssign_Name (iv.aaX fD (by exact J Uw X) λu0 r0=>?_);rw[Uw]at r0;refine cC (r0.int_inv) λt0 aL=>?_;clear r0;subst aL;refine((sound Y' e u' nm sc (.inl v) h4 cq bV hk hg hb).1) A E s D Y s1 C _ _ hA I iv e1 λu1 t1 cU I1 S1 r1=>?_;obtain⟨t2,rfl⟩:=r1.int_inv;refine Oc L ez λt3 tk=>?_;have vs:=I1.toks tk;exact D8 fD vs.1 ((iv.bl I S1).bl I1 vs.2) (bB.int _ _) λs4 I4 R4 S4=>K .next s4 cU I4 R4 (((S1.trans vs.2).up iv).trans S4) Z'
theorem KI{Q:cP}(hA:FL A)(I:Inv H w b s D Y)(rx:bB b.heap s.heap D (.ref a) u)(ry:bB b.heap s.heap D y v)(e:ic Y (.ref a) y=f z)(k:fK H w b s D Y Y z Q):b_ (c_ H w) A (getItem u v) Q E s:=by
 cases y with
 |int i=>dsimp only[ic]at e;revert e;refine lT (λZ ex=>aZ (λhz e=>?_) nS);refine bA (I.cW ex rx) λa M aL h0 N L=>?_;clear rx;subst aL;obtain⟨t,oU⟩:=ry.int_inv;clear ry;subst oU;exact wV N.isList L hz e λv r=>k.here I r
 |tup kk=>
  dsimp only[ic]at e;revert e;refine Io (λbJ ex=>fz (λks hk e=>?_));obtain rfl:=ie hk;refine bA (I.kI ex rx) λa Z aL h0 N L=>?_;clear rx;subst aL;refine ah (g8 (w:=w) ry) λc bK h3=>?_;clear ry;subst bK;rcases v5 L ks with ⟨q,_⟩|⟨x,p,h4,h5,h6⟩
  .rw[q]at e;exact nS e
  .rw[h4]at e;obtain rfl:=aw e;exact wpAny_getItem_heap (mT hA) h3 N h5 (k.tok I h6)
 |_=>exact nS e
theorem KJ(Y':Gx b mg mb):bG H w b mg mb n (.iL k o i e):=by
 refine bG.inl (λu' nm sc st U' cq bV hk hg hb=>?_) λO O O=>X;revert U';refine A9 (λt op v hv U'=>?_);obtain⟨p,rfl⟩:=IY hv;revert U';refine pZ (λa j ht U'=>?_);obtain⟨tp,rfl⟩:=sA ht;simp only[jc,qx,jR]at U';obtain⟨⟨⟨⟨⟨N,L⟩,h3⟩,h4⟩,h5⟩,h6⟩:=U';subst N;have VI:=(sound Y' i u' nm sc (.inl j) h5 cq.2.1 bV hk hg hb).1;intro A E s D Y T' C bh K' Q hA I iv aN K;revert aN;refine iP (λs1 la e1=>aM (λs2 M' e2=>T2 (λx1 ex1=>Dk (λs3 y1 e3=>gQ (λz ez aN=>?_)))));refine dH (ly aN) λe4 bK fJ=>?_;subst bK;clear aN;subst fJ;have hst:∀ ov M' new,augStore j ov M' new=(do v? [new,ov,M'] (setItem ov M' new);release [new,ov,M'] [];pure .next):=by intro ov M' new;(clear ht h5 hv VI;cases j)<;>first|rfl|(exact fT h3)
 refine wpAny_AugAssign_SubscriptAny (((sound Y' (.var o) u' nm sc (.inl a) h4 cq.1 bV hk hg hb).1) A E s D Y s1 bh _ _ hA I iv e1 λu1 t1 cU I1 S1 r1=>?_) hst;have R1:=iv.bl I S1;refine VI A E t1 cU s1 s2 bh _ _ hA I1 R1 e2 λu2 t2 gI I2 S2 r2=>?_;have R2:=R1.bl I1 S2;refine KI hA.a I2 (I1.rep S2 aX.nil r1) r2 ex1 λu3 t3 vh I3 S3 r3=>?_;have R3:=R2.bl I2 S3;obtain⟨q3,rfl⟩:=r3.int_inv;refine((sound Y' e u' nm sc (.inl v) h6 cq.2.2 bV hk hg hb).1) A E t3 vh s2 s3 bh _ _ hA I3 R3 e3 λu4 t4 ρ4 I4 S4 r4=>?_;obtain⟨q4,rfl⟩:=r4.int_inv;refine Oc L ez λq5 tk=>?_;have vs:=I4.toks tk;have S24:=(S3.trans S4).trans vs.2;exact DF hA.a vs.1 (I2.rep S24 aX.nil (I1.rep S2 aX.nil r1)) (I2.rep S24 aX.nil r2) (bB.int _ _) e4 λt6 CO I6 S6=>K .next t6 CO I6 (((R3.bl I3 S4).bl I4 vs.2).bl vs.1 S6) ((((S1.trans S2).trans S24).trans S6).up iv) Z'
end
section
variable{w:de}{b s s1 s':aJ}{mg mb:pY}{D mH ca F' fp wr:cg}{Y σs T' ae τ kR:St}{A:dd}{E:cP}{u':t?}{nm:NM}{sc:SC}{C bh:al}{n:a_}
theorem oF(h:u'.scope.kind=.function):interactive u'=N':=by unfold interactive;exact J h X
theorem W4(B:∀ e∈as,gS e=V)(hl:as.length<=3) :((X? pos (Gq as u')).all (λx=>!x.1)&&(backToKw pos (keywordEach [] u')).all (λx=>x.1.isSome)&&decide (as.length+([]:d_ Keyword).length+(if ([]:d_ Keyword).isEmpty then 0 else 1)<30))=V:=by
 have N:=xi (u':=u') (pos:=pos) as B;have L:(X? pos (Gq as u')).all (λx=>!x.1)=V:=by refine J (propext mK) ?_;intro x hx;rw[List.any_eq_false]at N;simpa using N x hx
 refine J L ?_;simp;refine⟨(λa c h=>nomatch h),(by lia)⟩
theorem Od{x m:o_}{px ap cp p:Pos}{as:dF}{T id:String}{Q:Flow->aJ->Prop}(hf:u'.scope.kind=.function)(mU:(ap.endLine==cp.line)=V)(B:∀ e∈as,gS e=V)(hl:as.length<=3)(pa:PlainAttrs T)(slot:Slot T m id)(hty:typeOf (.builtin id)=pure (.type "method_descriptor"))(h:b_ (c_ H w) A (J_ (.Name x px) u') (λov cy=>cy.TypeIs ov T/\(∀ a,ov=.ref a->∃ ob,cy.heap.get? a=f ob/\ob.dict=R)/\b_ (c_ H w) A (callWith cp (.builtin id) [ov] (X? cp (Gq as u')) []) (λO=>Q .next) E cy) E s) :
  b_ (c_ H w) A (exec (.Expr (.Call (.Attribute (.Name x px) m ap) as [] cp) p) u') Q E s:=
 wpAny_Expr_any (wpAny_Call_method X (W4 B hl) mU pa slot hty h) (oF hf)
theorem RP(h:Qm Y a=V):∃ Z,Y.get a=f (.list Z):=by revert h;exact ZH (λO O h=>⟨_,by assumption⟩)
theorem RQ(h:Qn Y a=V):∃ Z,Y.get a=f (.dict Z):=by revert h;exact ZJ (λO O h=>⟨_,by assumption⟩)
theorem Gu(I:Inv H w b s D Y)(r:bB b.heap s.heap D (.ref a) u)(h:Qm Y a=V):s.TypeIs u "list"/\(∀ a,u=.ref a->∃ ob,s.heap.get? a=f ob/\ob.dict=R):=by obtain⟨Z,hx⟩:=RP h;obtain⟨c,M,eG,hm,⟨n,t⟩,q⟩:=I.cW hx r;clear r;subst eG;exact⟨⟨_,t,X⟩,λd e=>by cases e;exact⟨_,t,X⟩⟩
theorem Oe(I:Inv H w b s D Y)(r:bB b.heap s.heap D (.ref a) u)(h:Qn Y a=V):s.TypeIs u "dict"/\(∀ a,u=.ref a->∃ ob,s.heap.get? a=f ob/\ob.dict=R):=by obtain⟨Z,hx⟩:=RQ h;refine bA (I.kI hx r) λc M aL hm t q=>?_;clear r;subst aL;refine zR (id t) λo es ep N L O=>?_;exact⟨t.typeIs,λd e=>by cases e;exact⟨_,N,L.2.1⟩⟩
theorem m0(h:tX m k e=f (o,as)):∃ x p ap cp,o=.Name x p/\e=.Call (.Attribute (.Name x p) m ap) as [] cp/\(ap.endLine==cp.line)=V/\as.length=k:=by revert h;refine M6 (λo' m' as' q=>aZ (λhm h=>?_) nS);refine gJ h (fh (N8 q) λx p ap cp N L h3=>?_);obtain⟨iC,h5⟩:=hm;clear q;subst iC;exact TU x p ap cp N L h3 h5
theorem KL(Y':Gx b mg mb):bG H w b mg mb n (.append l e):=by refine bG.inl (λu' nm sc st U' cq bV hk hg hb=>?_) λO O O=>X;revert U';refine dK (λee hv U'=>?_);obtain⟨p,rfl⟩:=mY hv;revert U';refine FH (λo a hm U'=>?_);refine wH (m0 hm) λx px ap cp aL Ka mU O=>?_;subst aL;subst Ka;refine JL U' λN L h3=>?_;have VO:=(sound Y' (.var l) u' nm sc (.inl _) N cq.1 bV hk hg hb).1;have VE:=(sound Y' e u' nm sc (.inl a) h3 cq.2 bV hk hg hb).1;intro A E s D Y T' C bh K' Q hA I iv aN K;revert aN;refine iP (λs1 la e1=>aZ (λhL=>?_) nS);refine aM (λs2 v e2 aN=>?_);refine dH (ly aN) λe3 bK fJ=>?_;subst bK;clear aN;subst fJ;refine Od hk mU (λe he=>by rw[az]at he;clear hv hm h3 VE;subst he;exact L) (by exact iG _) UT UW F.type_list_append (VO A E s D Y s1 bh _ _ hA I iv e1 λu1 t1 cU I1 S1 r1=>?_);refine cF (Gu I1 r1 hL) λg1 g2=>?_;refine⟨g1,g2,HT (wC ?_ (aH L)) (aH L)⟩;exact VE A E t1 cU s1 s2 bh _ _ hA I1 (iv.bl I S1) e2 λu2 t2 gI I2 S2 r2=>zO (J4 I2 (I1.rep S2 aX.nil r1) r2 e3 λt3 vh I3 S3=>K .next t3 vh I3 (((iv.bl I S1).bl I1 S2).bl I2 S3) (((S1.trans S2).trans S3).up iv) Z')
theorem KM(Y':Gx b mg mb):bG H w b mg mb n (.extend l e):=by refine bG.inl (λu' nm sc st U' cq bV hk hg hb=>?_) λO O O=>X;revert U';refine dK (λee hv U'=>?_);obtain⟨p,rfl⟩:=mY hv;revert U';refine FH (λo a hm U'=>?_);refine wH (m0 hm) λx px ap cp aL Ka mU O=>?_;subst aL;subst Ka;refine JL U' λN L h3=>?_;have VO:=(sound Y' (.var l) u' nm sc (.inl _) N cq.1 bV hk hg hb).1;have VE:=(sound Y' e u' nm sc (.inl a) h3 cq.2 bV hk hg hb).1;intro A E s D Y T' C bh K' Q hA I iv aN K;revert aN;refine iP (λs1 la e1=>aZ (λhL=>?_) nS);refine aM (λs2 v e2 aN=>?_);refine dH (ly aN) λe3 bK fJ=>?_;subst bK;clear aN;subst fJ;refine Od hk mU (λe he=>by rw[az]at he;clear hv hm h3 VE;subst he;exact L) (by exact iG _) UT F.slot_list_extend F.type_list_extend (VO A E s D Y s1 bh _ _ hA I iv e1 λu1 t1 cU I1 S1 r1=>?_);refine cF (Gu I1 r1 hL) λg1 g2=>?_;refine⟨g1,g2,HT (wC ?_ (aH L)) (aH L)⟩;exact VE A E t1 cU s1 s2 bh _ _ hA I1 (iv.bl I S1) e2 λu2 t2 gI I2 S2 r2=>zO (J5 I2 (I1.rep S2 aX.nil r1) r2 e3 λt3 vh I3 S3=>K .next t3 vh I3 (((iv.bl I S1).bl I1 S2).bl I2 S3) (((S1.trans S2).trans S3).up iv) Z')
theorem RT(Y':Gx b mg mb):bG H w b mg mb n (.qz l e):=by refine bG.inl (λu' nm sc st U' cq bV hk hg hb=>?_) λO O O=>X;revert U';refine dK (λee hv U'=>?_);obtain⟨p,rfl⟩:=mY hv;revert U';refine FH (λo a hm U'=>?_);refine wH (m0 hm) λx px ap cp aL Ka mU O=>?_;subst aL;subst Ka;refine JL U' λN L h3=>?_;have VO:=(sound Y' (.var l) u' nm sc (.inl _) N cq.1 bV hk hg hb).1;have VE:=(sound Y' e u' nm sc (.inl a) h3 cq.2 bV hk hg hb).1;intro A E s D Y T' C bh K' Q hA I iv aN K;revert aN;refine iP (λs1 la e1=>aZ (λhL=>?_) nS);refine aM (λs2 v e2 aN=>?_);refine dH (ly aN) λe3 bK fJ=>?_;subst bK;clear aN;subst fJ;refine Od hk mU (λe he=>by rw[az]at he;clear hv hm h3 VE;subst he;exact L) (by exact iG _) F.plainAttrs_dict Qu F.type_dict_pop (VO A E s D Y s1 bh _ _ hA I iv e1 λu1 t1 cU I1 S1 r1=>?_);refine cF (Oe I1 r1 hL) λg1 g2=>?_;refine⟨g1,g2,HT (wC ?_ (aH L)) (aH L)⟩;exact VE A E t1 cU s1 s2 bh _ _ hA I1 (iv.bl I S1) e2 λu2 t2 gI I2 S2 r2=>zO (Nr (two:=N') (more:=[]) hA.a I2 (I1.rep S2 aX.nil r1) r2 X e3 λO t3 vh I3 S3=>K .next t3 vh I3 (((iv.bl I S1).bl I1 S2).bl I2 S3) (((S1.trans S2).trans S3).up iv) Z')
theorem RU(Y':Gx b mg mb):bG H w b mg mb n (.qy l e):=by refine bG.inl (λu' nm sc st U' cq bV hk hg hb=>?_) λO O O=>X;revert U';refine dK (λee hv U'=>?_);obtain⟨p,rfl⟩:=mY hv;refine ib λGq zq=>?_;revert U';refine Vx (λo a z hm U'=>?_);refine wH (m0 hm) λx px ap cp aL Ka mU O=>?_;subst aL;subst Ka;simp only[jc,jR]at U';obtain⟨⟨⟨N,L⟩,h3⟩,h4⟩:=U';refine gy (tQ h4) λzk zp fJ=>?_;clear hv hm h4;subst fJ;have VO:=(sound Y' (.var l) u' nm sc (.inl _) N cq.1 bV hk hg hb).1;refine zq ?_;clear zq;intro A E s D Y T' C bh K' Q hA I iv aN K;refine ib λGq zq=>?_;revert aN;refine iP (λs1 la e1=>aZ (λhL=>?_) nS);refine aM (λs2 v e2 aN=>?_);refine dH (ly aN) λe3 bK fJ=>?_;subst bK;clear aN;subst fJ;refine zq ?_;clear zq;refine Od hk mU (Y2.mpr ⟨L,Y2.mpr ⟨X,λO h=>nomatch h⟩⟩) (by simp) F.plainAttrs_dict Qu F.type_dict_pop (VO A E s D Y s1 bh _ _ hA I iv e1 λu1 t1 cU I1 S1 r1=>?_);refine cF (Oe I1 r1 hL) λg1 g2=>?_;refine⟨g1,g2,HT (wC ?_ (aH L)) (aH L)⟩;refine((sound Y' e u' nm sc (.inl a) h3 cq.2 bV hk hg hb).1) A E t1 cU s1 s2 bh _ _ hA I1 (iv.bl I S1) e2 λu2 t2 gI I2 S2 r2=>wC (Mm (zO ?_)) X;exact Nr (two:=V) (more:=[.none]) hA.a I2 (I1.rep S2 aX.nil r1) r2 X e3 λO t3 vh I3 S3=>K .next t3 vh I3 (((iv.bl I S1).bl I1 S2).bl I2 S3) (((S1.trans S2).trans S3).up iv) Z'
theorem RV(Y':Gx b mg mb):bG H w b mg mb n (.sort l):=by refine bG.inl (λu' nm sc st U' cq bV hk hg hb=>?_) λO O O=>X;revert U';refine dK (λee hv U'=>?_);obtain⟨p,rfl⟩:=mY hv;revert U';refine Vv (λo hm U'=>?_);refine wH (m0 hm) λx px ap cp aL Ka mU O=>?_;subst aL;clear hv hm;subst Ka;have VO:=(sound Y' (.var l) u' nm sc (.inl _) U' cq bV hk hg hb).1;intro A E s D Y T' C bh K' Q hA I iv aN K;refine ib λGq zq=>?_;revert aN;refine iP (λs1 la e1=>aZ (λhL aN=>?_) nS);refine dH (ly aN) λe3 bK fJ=>?_;subst bK;clear aN;subst fJ;refine zq ?_;clear zq;refine Od hk mU (λe he=>nomatch he) (by exact ji _) UT F.slot_list_sort F.type_list_sort (VO A E s D Y s1 bh _ _ hA I iv e1 λu1 t1 cU I1 S1 r1=>?_);refine cF (Gu I1 r1 hL) λg1 g2=>?_;refine⟨g1,g2,callWith_method0 ?_⟩;exact Rj hA.a I1 r1 e3 λt3 vh I3 S3=>K .next t3 vh I3 ((iv.bl I S1).bl I1 S3) ((S1.trans S3).up iv) Z'
theorem RW(Y':Gx b mg mb):bG H w b mg mb n (.expr e):=by
 refine bG.inl (λu' nm sc st U' cq bV hk hg hb=>?_) λO O O=>X;revert U';refine dK (λv hv U'=>?_);obtain⟨p,rfl⟩:=mY hv;simp only[jc]at U';have hc:=(sound Y' e u' nm sc (.inl v) U'.2 cq bV hk hg hb).1;intro A E s D Y T' C bh K' Q hA I iv aN K;revert aN;refine aM (λs1 x e1 aN=>?_);revert K;refine JM aN ?_;intro K;have KG:V? v R p.line u'=pure N':=by(clear hv hc;cases v)<;>first|rfl|((dsimp only[N9]at U';simp at U');done)
 exact wpAny_Expr_any (hc A E s D Y s1 C x _ hA I iv e1 λu t1 cU I1 S1 r1=>K .next t1 cU I1 (iv.bl I S1) (S1.up iv) Z') (oF hk) KG
end
section
variable{w:de}{b s s1 s':aJ}{mg mb:pY}{D mH ca F' fp wr:cg}{Y σs T' ae τ kR:St}{A:dd}{E:cP}{u':t?}{nm:NM}{sc:SC}{C bh:al}{n:a_}
theorem KN(iv:ER b u' sc C s D):∀ a∈jf u' sc,∃ o,s.heap.get? a=f o:=λa B=>by
 rcases(kK (u':=u') (sc:=sc) (ns:=[]) (λO h=>nomatch h)).sub a B with rfl|⟨x,hx⟩
 .refine ah (iv.vb) λo ho O=>?_;exact⟨o,ho⟩
 .refine ah (iv.qS hx) λo ho O=>?_;exact⟨o,ho⟩
theorem W5(Y':Gx b mg mb)(hx:bG H w b mg mb n x):bG H w b mg mb n (.gF C' ik it x):=by
 refine bG.inl (λu' nm sc st U' cq bV hk hg hb=>?_) λO O O=>X;refine ib λGq zq=>?_;revert U';refine MZ (λt i y hv U'=>?_);obtain⟨p,eG⟩:=RL hv;clear hv;subst eG;revert U';refine nI (λtn LZ=>dK (λi' BL U'=>?_));simp only[jc,jR]at U';obtain⟨⟨⟨⟨⟨⟨N,L⟩,h3⟩,h4⟩,h5⟩,h6⟩,h7⟩:=U';have hm:=vk h5;refine zq ?_;clear zq;have W0:=kK (u':=u') (sc:=sc) (ns:=tn) λy hy=>cC (Eb h3 hy) λi hi=>⟨i,hm _ hi⟩;have aj:=hx u' nm sc (.inr y) h7 cq.2.2 bV hk hg hb;intro A E s D Y T' C bh K' Q hA I iv aN K;refine ib λGq zq=>?_;dsimp only[ex]at aN;revert aN;refine aM (λae v e1=>oS (λZ lk e2=>dx (λσs kC=>mP (λd5 r Wr=>dx (λpf ro aN=>?_)))));simp only[dQ,rU]at aN;obtain⟨iC,j6⟩:=aN;subst iC;subst j6;refine zq ?_;clear zq;refine wpAny_For (BJ Y' (sound Y' it) BL h6 cq.2.1 cq.1 bV hk hg hb hA I iv e1 e2 λt1 cU itA WK tk I1 S1 W=>?_) (gU N);have M1:=I1.more (h':=WK) (t:=tk) W.keep W.low;refine jj (sE M1.1 kC) λIs Kx J8 hl3=>?_;have R1:=iv.bl I S1;have Ux:=KN R1;refine zR (jm.make (F':=jf u' sc) (target:=t) hA.hh (o9 L) I1 Is W (λO O e=>e) Kx (λa B=>.inr ⟨mZ R1 a B,Ux a B⟩) (λa B=>cC (Ux a B) λo ho=>⟨o,W.keep a o ho⟩)) λfp wr St h2 LY tN=>?_;have R4:=R1.bl I1 M1.2
 have ok:aX (jf u' sc++wr) WK:=λa B B' ht=>by
  rcases fH.mp B with B|B
  .exact xx R4 a B B' ht
  .exact h2.BF LY a B B' ht
 have hLw:u'.locals∉wr:=(h2.Kw _ aQ).1;have hCw:∀ x c,u'.cells.lookup x=f c->c∉wr:=λy c U' m=>by refine ah (R1.qS U') λo ho O=>?_;rw[(tN c m).1]at ho;exact nS ho
 have fin:∀(s6 s7:aJ) (CO:cg) (fl:Flow),Inv H w b s7 CO d5->ER b u' sc bh s7 CO->dD (jf u' sc++wr) {t1 with heap:=WK,toks:=tk} s6 cU CO σs d5->(∀ a o,a∉wr->s6.heap.get? a=f o->s7.heap.get? a=f o)->Uu b.heap s7.heap CO K' fl->Q fl s7:=by intro s6 s7 CO fl I6 R6 S6 hk6 hf;have S2:dD (jf u' sc) t1 s7 cU CO σs d5:=S6.past hk6 W.keep (λa B=>(tN a B).1) (λa B=>.inl B) (λa B=>⟨B,(h2.Kw a B).1⟩) λi a hi m=>(h2.YD a m).1 (dX hi);obtain⟨I9,S9⟩:=pd I1 I6 kC ro S2;exact K fl s7 CO I9 R6 ((S1.up iv).trans S9) hf
 refine codeAny_forLoop_any (λk s3=>∃ j gI τ eH,k=Z.length-j/\j<=Z.length/\St j s3.heap/\Inv H w b s3 gI τ/\ER b u' sc eH s3 gI/\dD (jf u' sc++wr) {t1 with heap:=WK,toks:=tk} s3 cU gI σs τ/\lU (oE (ex x) C') (Z.drop j) τ eH=f (d5,bh,K')) ?_ Z.length ⟨0,cU,σs,C,X,ji _,LY,Is,R4,dD.refl _ _ _ _,by exact J List.drop_zero Wr⟩;rintro k s3 ⟨j,gI,τ,eH,rfl,hj,st,I3,R3,S3,qD⟩;by_cases Qp:j<Z.length
 .rw[Y1 Qp]at qD;dsimp only[lU]at qD;refine h2.next Qp st I3 S3 ok λv cy z hz aeA=>?_;rw[lL Qp]at hz;obtain rfl:=aw hz;refine aeA _ _ λs4 I4 Uv S4 st4 r4 k4=>?_;have R4':ER b u' sc eH s4 gI:=R3.step I3 Uv (h2.BF st) hLw hCw;cases hb4:dw C' Z[j] eH with|none=>(dsimp only[oE]at qD;simp[hb4]at qD)|some Rm=>
   dsimp only[oE]at qD;rw[hb4]at qD;refine tS (F':=jf u' sc) hA.hh LZ h3 hm W0 hb4 I4 R4' r4 λs5 I5 R5 S5 O=>?_;have st5:=h2.frame st4 I4 S4 S5 ok (xx R4')
   have up:∀{sa sb:aJ} {ρa ρb:cg} {τa τb:Mine.Internal.St},(∀ a∈wr,a∉ρa)->ER b u' sc Rm sa ρa->dD (jf u' sc) sa sb ρa ρb τa τb->dD (jf u' sc++wr) sa sb ρa ρb τa τb:=λhw Ra S=>S.weaken (λa B=>uS _ B) λa B=>by
    rcases fH.mp B with B|B
    .exact mZ Ra a B
    .exact hw a B
   have hw2:∀ a∈wr,a∉gI:=λa B=>h2.Ae S4 B
   have S15:=S4.trans (S5.weaken (λa B=>uS _ B) λa B=>by
    rcases fH.mp B with B|B
    .exact mZ R4' a B
    .exact hw2 a B)
   revert qD;refine M8 (λs6' sl6 v6 e6 qD=>?_) (λs6' sl6 f6 e6 ej qD=>?_) nS
   .simp only[dQ,rU]at qD;obtain⟨mr,oU,qA⟩:=qD;clear ro;subst mr;subst oU;clear K Wr;subst qA;refine aj A _ s5 gI τ _ Rm _ _ _ hA I5 R5 e6 λfl s6 CO I6 R6 S6 hf=>?_;cases fl with|ret u=>exact fin s6 s6 CO (.ret u) I6 R6 (S15.trans (up hw2 R5 S6)) (λO O O e=>e) hf|_=>exact hf.elim
   .refine aj A _ s5 gI τ _ Rm _ _ _ hA I5 R5 e6 λfl s6 CO I6 R6 S6 hf=>?_
    have go:∃ m,m<Z.length-j/\∃ j gI τ eH,m=Z.length-j/\j<=Z.length/\St j s6.heap/\Inv H w b s6 gI τ/\ER b u' sc eH s6 gI/\dD (jf u' sc++wr) {t1 with heap:=WK,toks:=tk} s6 cU gI σs τ/\lU (oE (ex x) C') (Z.drop j) τ eH=f (d5,bh,K'):=
     ⟨Z.length-(j+1),Tw Qp (ky j),j+1,CO,_,_,X,Qp,h2.frame st5 I5 S15 S6 ok (xx R5),I6,R6,S15.trans (up hw2 R5 S6),qD⟩
    cases f6 with|ret v=>exact(ej v X).elim|next=>(cases fl with|next=>exact go|_=>exact hf.elim)|cont=>cases fl with|cont=>exact go|_=>exact hf.elim
 .have Qp:j=Z.length:=by lia
  clear hj;subst Qp;rw[List.drop_length]at qD;dsimp only[lU]at qD;simp only[dQ,rU]at qD;obtain⟨vF,yI,Dp⟩:=qD;clear ro;subst vF;subst yI;clear K Wr;subst Dp;exact h2.done st I3 S3 λh' tk' I' Fz=>Mo (fin s3 _ gI .next I' (R3.kept Fz (h2.BF st) hLw hCw) S3 Fz Z')
theorem W6(Y':Gx b mg mb):∀ c:CS,bG H w b mg mb n c:=by intro c;induction c with|assign i e=>exact KF Y'|bj is e=>exact Gs Y'|dh o i e=>exact KH Y'|aug k i e=>exact W3 Y'|iL k o i e=>exact KJ Y'|ret e=>exact WX Y'|iff t a c B U'=>exact WY Y' B U'|kH t a B=>exact RO Y' B|gF C' ik it a B=>exact W5 Y' B|cont=>exact RN|qy d k=>exact RU Y'|qz d k=>exact RT Y'|append l e=>exact KL Y'|extend l e=>exact KM Y'|sort l=>exact RV Y'|expr e=>exact RW Y'|raise=>exact Oa|skip=>exact RM|seq a c B U'=>exact WW B U'
end
theorem RX:∀(n i:a_),ao (rl n) i=.ub:=λw'=>by induction w' with|zero=>(intro i;cases i<;>rfl)|succ n ih=>intro z1;cases z1 with|zero=>exact X|succ i=>exact ih i
theorem xy:∀(as bs:al) (i:a_),ao (as++bs) i=if i<as.length then ao as i else ao bs (i-as.length):=λw'=>by induction w' with|nil=>intro bs i;rfl|cons a as ih=>intro bs z2;cases z2 with|zero=>rfl|succ i=>refine J Mk ?_;refine J (ih bs i) ?_;simp only[fE,Nat.add_lt_add_iff_right,Nat.add_sub_add_right];rfl
theorem xA(kf:o_->af u?):∀(bs:d_ (o_ × aY)) (m:pY) (x:o_),x∉bs.map (·.1)->N? kf bs m x=m x
 |[],O,O',O''=>X
 |(y,v)::bs,m,x,h=>by
  simp only[bW,aV,wA]at h;refine J (xA kf bs _ x h.2) ?_;split
  .exact ak h.1
  .rfl
theorem Of(kf:o_->af u?):∀(ps:d_ o_) (M:dI) (m:pY) (i:a_) (x:o_) (v:aY),ps.Nodup->ps[i]?=f x->M[i]?=f v->kf x=f .local->N? kf (ps.zip M) m x=f v:=λw'=>by induction w' with|nil=>intro O O i O O O h O O;exact nS h|cons p ps ih=>intro z1;cases z1 with|nil=>intro O i O O O O h O;exact nS h|cons u M=>
   intro m z3
   cases z3 with
   |zero=>
    intro x v hn N L hk;simp only[QE,dQ]at N L;subst N L;dsimp only[zip_cons_cons,N?];rw[xA]
    .rw[ai hk,ai X]
    .intro m;exact ah (eT.mp m) λq hq e=>(gw.mp hn).1 (e▸(Vg hq).1)
   |succ i=>intro x v hn N L hk;exact J uV (ih M _ i x v (gw.mp hn).2 (by simpa using N) (by simpa using L) hk)
theorem xB(kf:o_->af u?):∀(bs:d_ (o_ × aY)) (m:pY) (x:o_),x∉bs.map (·.1)->O? kf bs m x=m x
 |[],O,O',O''=>X
 |(y,v)::bs,m,x,h=>by
  simp only[bW,aV,wA]at h;refine J (xB kf bs _ x h.2) ?_;split
  .rfl
  .exact ak h.1
theorem Og(kf:o_->af u?):∀(ps:d_ o_) (M:dI) (m:pY) (i:a_) (x:o_) (v:aY),ps.Nodup->ps[i]?=f x->M[i]?=f v->kf x≠f .local->O? kf (ps.zip M) m x=f v:=λw'=>by induction w' with|nil=>intro O O i O O O h O O;exact nS h|cons p ps ih=>intro z1;cases z1 with|nil=>intro O i O O O O h O;exact nS h|cons u M=>
   intro m z3
   cases z3 with
   |zero=>
    intro x v hn N L hk;simp only[QE,dQ]at N L;subst N L;dsimp only[zip_cons_cons,O?];rw[xB]
    .rw[ak hk,ai X]
    .intro m;exact ah (eT.mp m) λq hq e=>(gw.mp hn).1 (e▸(Vg hq).1)
   |succ i=>intro x v hn N L hk;exact J uV (ih M _ i x v (gw.mp hn).2 (by simpa using N) (by simpa using L) hk)
theorem gG:∀{l l':d_ (o_ × bU)} (x:o_),l.map (·.1)=l'.map (·.1)->(l.lookup x).isSome=(l'.lookup x).isSome|[],[],O,O'=>X|[],O::O',O'',h=>by simp at h|O::O',[],O'',h=>by simp at h|(a,c)::l,(a',c')::l',x,h=>by simp only[bW,List.cons.injEq]at h;obtain⟨eG,h⟩:=h;subst eG;simp -iota only [qE,qE];cases x==a with|true=>rfl|false=>exact gG x h
def Ed(names:NM)(ps:d_ o_)(sc:SC):e_:=
 sc.all (λp=>(decide (names.lookup p.1=f .local)||(decide (names.lookup p.1=f .cell)&&((cellsFrom 0 names []).lookup p.1).isSome))&&!(p.1==("__debug__":o_))&&(decide (ps.length<=p.2)||decide (ps[p.2]?=f p.1))) &&
 j8 (sc.map (·.1))&&j8 (sc.map (·.2))&&j8 ps&&ps.all (λx=>decide (names.lookup x=f .local)||(decide (names.lookup x=f .cell)&&((cellsFrom 0 names []).lookup x).isSome))
section
variable{w:de}{b s s1 s':aJ}{mg mb:pY}{D ca:cg}{Y T':St}{A:dd}{nm:NM}{sc:SC}{n:a_}
theorem Oh(h:(ao (as++rl k) i).DL=N'):i<as.length/\ao (as++rl k) i=ao as i:=by
 rw[xy]at h ⊢;split
 .rename_i q;exact⟨q,X⟩
 .rename_i q
  rw[ak q,RX]at h;exact tF h
theorem vl:∀{as:al} {i:a_} {z:AV},as[i]?=f z->ao as i=z|[],O,O',h=>by exact nS h|a::as,0,z,h=>by(dsimp only[ao]at h ⊢;simpa using h)|a::as,i+1,z,h=>vl (as:=as) (i:=i) (by simpa using h)
theorem sJ{α β:Type}{K':α->β}:∀{l:d_ α},(l.map K').Nodup->∀{a b:α},a∈l->b∈l->K' a=K' b->a=b:=by intro w';induction w' with|nil=>(intro O O O h O O;exact nomatch h)|cons x l ih=>
  intro hn a b B hb e;rw[bW,gw]at hn;rcases aV.mp B with N|N<;>rcases aV.mp hb with L|L
  .exact J N (J L X)
  .exact g_ (eT.mpr ⟨b,L,by exact dT e (J N X)⟩) hn.1
  .exact g_ (eT.mpr ⟨a,N,by exact J e (J L X)⟩) hn.1
  .exact ih hn.2 N L e
theorem Gv{tk:Tok}(RG:Ed scope.names ps sc=V)(Ee:scope.kind=.function)(I:Inv H w b s D Y)(hlen:as.length=ps.length)(r:aG b.heap s.heap D as M)(F:Fr s.heap s.heap.objs.size su (N? (envOfC name scope s.heap.objs.size fa cd).kindOf (ps.zip M) λO=>R)) (aj:Cl s.heap.objs.size (cellsFrom (s.heap.objs.size+1) scope.names []) su (O? (envOfC name scope s.heap.objs.size fa cd).kindOf (ps.zip M) λO=>R)) :
  ER b (envOfC name scope s.heap.objs.size fa cd) sc (as++rl k) {s with heap:=su,toks:=tk} D:=by
 refine ib λGq zq=>?_;dsimp only[Ed]at RG;simp only[jc,mK,qx,jR,rW]at RG;obtain⟨⟨⟨⟨c1,c2⟩,c3⟩,c4⟩,c5⟩:=RG;have CN:=ju c4;have hr:aG b.heap su D as M:=r.mono (λc B' t=>ah t λo N L=>⟨o,F.keep c o N,L⟩) eU;refine zq ?_;clear zq
 have arg:∀ x i,(x,i)∈sc->(ao (as++rl k) i).DL=N'->∃ u,ps[i]?=f x/\M[i]?=f u/\bB b.heap su D (ao (as++rl k) i) u:=λx i hx hu=>by
  refine cF (Oh hu) λN L=>?_;rcases(c1 (x,i) hx).2 with h|h
  .exact g_ h (Nat.not_le.mpr (hlen▸N))
  .have hi:i<M.length:=J hr.length N;have hv:M[i]?=f M[i]:=lL hi;refine ah (hr.get' hv) λz Nl Nm=>kB (M[i]) h hv ?_;refine J L (J (vl Nl) ?_);exact Nm
 have fresh:∀ a,s.heap.objs.size<=a->s.heap.get? a=R:=λa B=>by cases q:s.heap.get? a with|none=>rfl|some o=>exact g_ (mJ q) (wu.mpr B)
 have out:∀ a,s.heap.objs.size<=a->a∉D/\b.heap.get? a=R:=λa B=>by
  refine⟨λm=>?_,?_⟩
  .refine ah (I.cls a m) λo ho O=>?_;rw[fresh a B]at ho;exact nS ho
  .cases q:b.heap.get? a with|none=>rfl|some o=>(exact dT (fresh a B) (J (I.keep a o q) X))
 have above:∀ x c,(cellsFrom (s.heap.objs.size+1) scope.names []).lookup x=f c->s.heap.objs.size<c:=λx c e=>aj.above x c (HP e);refine⟨Ee,X,X,⟨_,F.ns,λx i hx hl hu=>?_⟩,λx c U'=>⟨_,aj.cell x c U',λi hx hl hu=>?_⟩,λx i hx=>?_,out _ (c9 _),λx c U'=>⟨(out c (kF (above x c U'))).1,(out c (kF (above x c U'))).2,rZ (above x c U')⟩,λx y c N L=>?_,λx y i N L=>?_,λx i j N L=>?_,λx i hx=>?_⟩
 .exact bZ (arg x i hx hu) λu N L h3=>aK u (Of _ ps M _ i x u CN N L hl) h3
 .refine bZ (arg x i hx hu) λu N L h3=>?_;exact aK u (Og _ ps M _ i x u CN N L (by refine J hl ?_;decide)) h3
 .rcases(c1 (x,i) hx).1.1 with h|⟨h,L⟩
  .exact .inl h
  .refine .inr ⟨h,?_⟩;rw[gG x (cellsFrom_names scope.names 0 (s.heap.objs.size+1) [] [] X)]at L;exact wy.mp L
 .exact PySem.name_of_addr aj.apart (HP N) (HP L)
 .exact cb Prod.fst (sJ (ju c3) N L X)
 .exact cb Prod.snd (sJ (ju c2) N L X)
 .exact(c1 (x,i) hx).1.2
theorem W8(Y':Gx b mg mb)(hmg:mg K'=f (.ref fa))(ho:b.heap.get? fa=f o)(hd:o.data=.func (Z_ name params body scope pm cd doc))(Yz:b.heap.CodeRec cd name)(aaY:∀ M:dI,M.length=ps.length->bindArgs (Z_ name params body scope pm cd doc) ⟨M,[]⟩=pure (ps.zip M)) (RG:Ed scope.names ps sc=V) (aeG:sI ha scope.names sc (.inr body)=V) (cq:Qo H w b mg mb n ha)(Ee:scope.kind=.function) (hco:scope.isCoroutine=N') (aeH:scope.isGenerator=N'):gh H w b mg (n+1) K' (bt ps.length more ha):=by
 refine Dj fa o _ hmg ho hd (λA E s D Y T' as M z Q hA I r aN K=>?_);revert aN;refine aZ (λhlen aN=>?_) nS;have hvl:M.length=ps.length:=r.length.trans hlen;have W9:=RG;dsimp only[Ed]at W9;simp only[jc,mK,qx,jR,rW]at W9;refine wpAny_call (call_cells_ret (by have:=hA.dp;omega) (I.keep fa o ho) hd ?_ ?_ (aaY M hvl) (λx hx=>?_) (λsu tk F aj=>?_) hco aeH Ee)
 .exact Y'.nl.keeps I.keep
 .exact Yz.keeps I.keep
 .have hx1:=(Vg (a:=x.1) (b:=x.2) hx).1;rcases W9.2 x.1 hx1 with h|⟨h,L⟩
  .exact .inl h
  .exact .inr ⟨h,by exact dT (gG x.1 (cellsFrom_names scope.names 0 (s.heap.objs.size+1) [] [] X)) L⟩
 .have iv:=Gv (k:=more) (tk:=tk) RG Ee I hlen r F aj;have vs:=I.more (t:=tk) F.keep (I.g7 F.keep);have SB:=W6 (w:=w) (n:=n) Y' ha (envOfC name scope s.heap.objs.size fa cd) scope.names sc (.inr body) aeG cq (λO=>X) Ee X X;have hA':DO n (A.deeper (envOfC name scope s.heap.objs.size fa cd)):=⟨hA.hh,by have:=hA.un;show A.units+3+200+20*n<oL;omega,by have:=hA.dp;show A.depth+1+n<recursionLimit;omega⟩
  have fresh:∀ a∈jf (envOfC name scope s.heap.objs.size fa cd) sc,s.heap.get? a=R:=λa B=>by
   have hge:s.heap.objs.size<=a:=by
    rcases(kK (u':=envOfC name scope s.heap.objs.size fa cd) (sc:=sc) (ns:=[]) (λO h=>nomatch h)).sub a B with rfl|⟨x,hx⟩
    .exact c9 _
    .exact kF (aj.above x a (HP hx))
   cases q:s.heap.get? a with|none=>rfl|some o=>exact g_ (mJ q) (wu.mpr hge)
  have step:∀{s':aJ} {ca:cg} {T':St},dD (jf (envOfC name scope s.heap.objs.size fa cd) sc) {s with heap:=su,toks:=tk} s' D ca Y T'->dD [] s s' D ca Y T':=λS'=>((vs.2.weaken (λO m=>nomatch m) (mZ iv)).trans S').forget fresh;revert aN;refine Vy (λs1 lh v e1 aN=>?_) (λs1 lh e1 aN=>?_)
  .revert K;refine gJ aN ?_;intro K;refine SB _ _ _ D Y _ _ _ _ _ hA' vs.1 iv e1 λfl s' ca I' R' S' hf=>?_;cases fl with|ret u=>exact K u s' ca I' (step S') hf|_=>exact hf.elim
  .revert K;refine gJ aN ?_;intro K;refine SB _ _ _ D Y _ _ _ _ _ hA' vs.1 iv e1 λfl s' ca I' R' S' hf=>?_;cases fl with|next=>exact K .none s' ca I' (step S') bB.none|_=>exact hf.elim
end
end Mine.Internal
end
section
namespace Mine.Internal
noncomputable def bf:aC->a_->PV|[],O=>.any|x::O,0=>x|O::r,i+1=>bf r i
noncomputable def bM:aC->a_->PV->aC|[],O,O'=>[]|O::r,0,v=>v::r|x::r,i+1,v=>x::bM r i v
noncomputable def allB:aC->af (al)
 |[]=>f []
 |.b v::r=>match allB r with|f l=>f (v::l) |R=>R
 |O::O'=>R
def ig(Z:aC):PV:=match allB Z with|f ws=>.b (.tup ws)|R=>.tup Z
def eo:cj->aC->aC->af (aC)|[],[],M=>f M|i::is,x::Z,M=>eo is Z (bM M i x)|O,O',O''=>R
noncomputable def fv:PV->af (aC)|.b (.tup Z)=>f (Z.map .b)|.tup Z=>f Z|_=>R
def cV(is:cj)(v:PV)(M:aC):af (aC):=match is with|[i]=>f (bM M i v)|is=>match fv v with|f Z=>eo is Z M|R=>R
def Oi(o:A0)(x y:PV):ft:=match x,y with|.b (.int a),.b (.int c)=>(match cX o a c with|f z=>f (.b (.int z))|R=>R)|.list Z,.list ys=>(match o with|.add=>if Z.length<=lim/\ys.length<=lim then f (.list (Z++ys)) else .none|_=>R)|.list Z,.b (.int k)=>(match o with|.mul=>(match Z with|[.b (.int v)]=>if 0<=k/\k<=1000000 then f (.list (l_ k.toNat (.b (.int v)))) else .none|_=>R)|_=>R)|O,O'=>R
def nR(o:A6)(x y:PV):af e_:=match x,y with|.b x,.b y=>fy ⟨0,.nil⟩ o x y|.list Z,.list ys=>(match Z.isEmpty||ys.isEmpty with|V=>(match o with|.eq=>f (Z.isEmpty&&ys.isEmpty)|.ne=>f (!(Z.isEmpty&&ys.isEmpty))|_=>R)|N'=>R)|O,O'=>R
def Xa(x c:PV):af e_:=match x with|.b x=>(match c with|.b (.tup Z)=>jk x Z|.list ys=>(match allB ys with|f Z=>jk x Z|R=>R)|.dict bJ=>(match x with|.tup k=>(match keyOf k with|f k=>f (jS bJ k).isSome|R=>R)|_=>R)|_=>R)|_=>R
noncomputable def yD {α:Type} (Z:d_ α) (i:G):af α:=match i with|.ofNat n=>Z[n]?|.negSucc n=>if n<Z.length then Z[Z.length-1-n]? else .none
def mv(a i:PV):ft:=match a,i with
 |.b (.tup Z),.b (.int i)=>if Z.length<=lim then(match yD Z i with|f v=>f (.b v) |R=>R) else .none
 |.tup Z,.b (.int i)=>if Z.length<=lim then yD Z i else .none
 |.list Z,.b (.int i)=>if Z.length<=lim then yD Z i else .none
 |.dict bJ,.b (.tup k)=>match keyOf k with
  |f k=>match jS bJ k with|f v=>f (.b v) |R=>R
  |R=>R
 |O,O'=>R
def nT:PV->af (al)|.b (.tup Z)=>f Z|.list ys=>allB ys|.dict bJ=>f (bJ.map λp=>iJ p.1)|_=>R
def tC(b:BI)(as:aC):ft:=match b with|.abs=>(match as with|[.b (.int i)]=>f (.b (.int (if i<0 then -i else i)))|_=>R)|.int=>(match as with|[.b (.int i)]=>f (.b (.int i))|_=>R)|.len=>(match as with|[.b (.tup Z)]=>if Z.length<=lim then f (.b (.int Z.length)) else .none|[.list Z]=>if Z.length<=lim then f (.b (.int Z.length)) else .none|[.dict Z]=>if Z.length<=lim then f (.b (.int Z.length)) else .none|_=>R)|.list=>(match as with|[.list Z]=>if Z.length<=lim then f (.list Z) else .none|_=>R)|.tuple=>(match as with|[.list Z]=>if Z.length<=lim then f (ig Z) else .none|_=>R)|.dict=>(match as with|[.dict Z]=>if Z.length<=lim/\Z.all (λp=>smallKey p.1)=V then f (.dict Z) else .none|_=>R)|.sum=>(match as with|[v]=>(match nT v with|f Z=>(match sumInts Z 0 with|f z=>f (.b (.int z))|R=>R)|R=>R)|_=>R)|.yH=>(match as with|[v]=>(match nT v with|f (.int x::Z)=>(match iN Z x with|f z=>f (.b (.int z))|R=>R)|_=>R)|_=>R)|.max2=>(match as with|[.b (.int a),.b (.int c)]=>f (.b (.int (if c>a then c else a)))|_=>R)|.min2=>(match as with|[.b (.int a),.b (.int c)]=>f (.b (.int (if c<a then c else a)))|_=>R)|.any=>(match as with|[v]=>(match nT v with|f Z=>(match boolsOf Z with|f l=>f (.b (.bool (l.any id)))|R=>R)|R=>R)|_=>R)|.all=>match as with|[v]=>(match nT v with|f Z=>(match boolsOf Z with|f l=>f (.b (.bool (l.all id)))|R=>R)|R=>R)|_=>R
def Al(a k:PV):ft:=match a,k with|.b (.tup Z),.b (.int (.ofNat k))=>if k<Z.length/\Z.length<=lim then f (.b (.tup (Z.take k))) else .none|.list Z,.b (.int (.ofNat k))=>if Z.length<=lim then f (.list (Z.take k)) else .none|O,O'=>R
def sK(a k:PV):ft:=match a,k with|.list Z,.b (.int (.ofNat k))=>if Z.length<=lim then f (.list (Z.drop k)) else .none|O,O'=>R
def fA:a_->aC->aC|O,[]=>[]|i,x::r=>ig [.b (.int i),x]::fA (i+1) r
def Ef(k:tG)(v:PV):af (aC):=match k,v with|.plain,.b (.tup Z)=>f (Z.map .b)|.plain,.tup Z=>f Z|.plain,.list Z=>f Z|.plain,.dict bJ=>f (bJ.map λp=>.b (iJ p.1))|.range,.b (.int n)=>if 0<=n/\n<=1000000 then f ((gZ n).map .b) else .none|.enum,.b (.tup Z)=>f (fA 0 (Z.map .b))|.enum,.list Z=>f (fA 0 Z)|.rev,.list Z=>f Z.reverse|O,O'=>R
noncomputable abbrev Xb:=aC->ft
noncomputable def lz (K':PV->af (aC)):aC->af (aC)|[]=>f []|x::Z=>match K' x with|f ys=>(match lz K' Z with|f zs=>f (ys++zs)|R=>R)|R=>R
def Am(K':PV->af (aA × AV)):aC->dc->af (dc)|[],G'=>f G'|x::Z,G'=>match K' x with|f (k,v)=>Am K' Z (iK G' k v)|R=>R
def Eg(g:Xb)(C':cj)(M:aC)(x:PV):af (aC):=match cV C' x M with|f vs2=>(match g vs2 with|f y=>f [y]|R=>R)|R=>R
def rz(c g:Xb)(C':cj)(M:aC)(x:PV):af (aC):=match cV C' x M with|f vs2=>(match c vs2 with|f (.b (.bool V))=>(match g vs2 with|f y=>f [y]|R=>R)|f (.b (.bool N'))=>f []|_=>R)|R=>R
def Gw:cj->aC->aC|[],M=>M|i::is,M=>bM (Gw is M) i .any
def Xc(qK:Xb)(tH:tG)(g:Xb)(C' tgt2:cj)(M:aC)(x:PV):af (aC):=match cV C' x (Gw tgt2 M) with|f vs2=>(match qK vs2 with|f v2=>(match Ef tH v2 with|f Ql=>lz (Eg g tgt2 vs2) Ql|R=>R)|R=>R)|R=>R
def rA(r:ft)(ik:tG)(K':PV->af (aC)):ft:=match r with|f v=>(match Ef ik v with|f Z=>(match lz K' Z with|f ys=>if ys.length<=lim then f (.list ys) else .none|R=>R)|R=>R)|R=>R
def xC(k g:Xb)(C':cj)(M:aC)(x:PV):af (aA × AV):=match cV C' x M with|f vs2=>(match k vs2 with|f (.b (.tup kt))=>(match g vs2 with|f (.b y)=>(match keyOf kt with|f ks=>f (ks,y)|R=>R)|_=>R)|_=>R)|R=>R
def BR(r:ft)(ik:tG)(K':PV->af (aA × AV)):ft:=match r with
 |f v=>match Ef ik v with
  |f Z=>if Z.length<=lim then match Am K' Z []with
   |f bJ=>if bJ.length<=lim then f (.dict bJ) else .none
   |R=>R else .none
  |R=>R
 |R=>R
def dR:PV->af e_|.b v=>f v.isNone|.any=>R|_=>f N'
def ax:CE->Xb|.k v,O=>f (.b v)|.glob O v,O'=>f (.b v)|.var i,M=>(match bf M i with|.any=>R|.b .ub=>R|v=>f v)|.bin o a b,M=>(match ax a M with|f x=>(match ax b M with|f y=>Oi o x y|R=>R)|R=>R)|.neg a,M=>(match ax a M with|f (.b (.int i))=>f (.b (.int (-i)))|_=>R)|.cmp o a b,M=>(match ax a M with|f x=>(match ax b M with|f y=>(match nR o x y with|f r=>f (.b (.bool r))|R=>R)|R=>R)|R=>R)|.isNone y a,M=>(match ax a M with|f x=>(match dR x with|f r=>f (.b (.bool (r==y)))|R=>R)|R=>R)|.isin y a b,M=>(match ax a M with|f x=>(match ax b M with|f c=>(match Xa x c with|f r=>f (.b (.bool (r==y)))|R=>R)|R=>R)|R=>R)|.and a b,M=>(match ax a M with|f (.b (.bool V))=>ax b M|f (.b (.bool N'))=>f (.b (.bool N'))|_=>R)|.or a b,M=>(match ax a M with|f (.b (.bool N'))=>ax b M|f (.b (.bool V))=>f (.b (.bool V))|_=>R)|.not a,M=>(match ax a M with|f (.b (.bool b))=>f (.b (.bool (!b)))|_=>R)|.ite t a b,M=>(match ax t M with|f (.b (.bool V))=>ax a M|f (.b (.bool N'))=>ax b M|_=>R)|.call O O' P as,M=>(match P.mu with|V=>R|N'=>match ax as M with|f (.tup Z)=>P.fn Z|_=>R)|.bi b as,M=>(match ax as M with|f (.tup Z)=>tC b Z|_=>R)|.idx a i,M=>(match ax a M with|f x=>(match ax i M with|f y=>mv x y|R=>R)|R=>R)|.gK a k,M=>(match ax a M with|f x=>(match ax k M with|f y=>Al x y|R=>R)|R=>R)|.fu a k,M=>(match ax a M with|f x=>(match ax k M with|f y=>sK x y|R=>R)|R=>R)|.bc as,M=>(match ax as M with|f (.tup Z)=>f (ig Z)|_=>R)|.lst as,M=>(match ax as M with|f (.tup Z)=>f (.list Z)|_=>R)|.gA,O=>f (.dict [])|.kZ k v,M=>(match ax k M with|f (.b (.tup kt))=>(match ax v M with|f (.b y)=>(match keyOf kt with|f ks=>f (.dict [(ks,y)])|R=>R)|_=>R)|_=>R)|.bq e C' ik it,M=>rA (ax it M) ik (Eg (ax e) C' M)|.bR e C' ik it c,M=>rA (ax it M) ik (rz (ax c) (ax e) C' M)|.dJ e C' ik it tgt2 tH qK,M=>rA (ax it M) ik (Xc (ax qK) tH (ax e) C' tgt2 M)|.jU k e C' ik it,M=>BR (ax it M) ik (xC (ax k) (ax e) C' M)|.bad,O=>R|.nil,O=>f (.tup [])|.cons e r,M=>match ax e M with|f x=>(match ax r M with|f (.tup Z)=>f (.tup (x::Z))|_=>R)|R=>R
def eN(i:a_):CE->e_|.var j=>i==j|.bin O a b=>(eN i a||eN i b)|.neg a=>eN i a|.cmp O a b=>(eN i a||eN i b)|.isNone O a=>eN i a|.isin O a b=>(eN i a||eN i b)|.and a b=>(eN i a||eN i b)|.or a b=>(eN i a||eN i b)|.not a=>eN i a|.ite t a b=>(eN i t||eN i a||eN i b)|.call O O' O'' as=>eN i as|.bi O as=>eN i as|.idx a b=>(eN i a||eN i b)|.gK a b=>(eN i a||eN i b)|.fu a b=>(eN i a||eN i b)|.bc as=>eN i as|.lst as=>eN i as|.kZ k v=>(eN i k||eN i v)|.bq e O O' it=>(eN i e||eN i it)|.bR e O O' it c=>(eN i e||eN i it||eN i c)|.dJ e O O' it O'' O''' qK=>(eN i e||eN i it||eN i qK)|.jU k v O O' it=>(eN i k||eN i v||eN i it)|.cons e r=>(eN i e||eN i r)|.k ..=>N'|.glob ..=>N'|.gA=>N'|.bad=>N'|.nil=>N'
noncomputable def Xd:BI->e_|.list=>V|.dict=>V|_=>N'
def fresh:CE->e_|.bin ..=>V|.gA=>V|.kZ ..=>V|.lst O=>V|.bq ..=>V|.bR ..=>V|.dJ ..=>V|.jU ..=>V|.gK ..=>V|.fu ..=>V|.call O O' P O''=>P.fr|.bi b O=>Xd b|.ite O a b=>fresh a&&fresh b|.k ..=>N'|.glob ..=>N'|.var ..=>N'|.neg ..=>N'|.cmp ..=>N'|.isNone ..=>N'|.isin ..=>N'|.and ..=>N'|.or ..=>N'|.not ..=>N'|.idx ..=>N'|.bc ..=>N'|.bad=>N'|.nil=>N'|.cons ..=>N'
set_option genCtorIdx false in
inductive kS where
 |next|cont|ret (v:PV)
gen_injective_theorems% kS
def fw(mu:cj)(c:CE):e_:=mu.any λi=>eN i c
def rC(m rd fr:e_)(hc:PV):e_:=match hc with|.b O=>!m|.dict O=>(if m then fr else !rd||fr)|.list Vs=>(if m then fr&&(!rd||(allB Vs).isSome) else !rd||(fr&&(allB Vs).isSome))|_=>!m&&!rd
noncomputable def isObj:PV->e_|.list O=>V|.dict O=>V|_=>N'
noncomputable abbrev Uy:=aC->af (aC × kS)
noncomputable def dS (K':PV->Uy):aC->Uy|[],M=>f (M,.next)|x::Z,M=>match K' x M with|f (vs1,.ret v)=>f (vs1,.ret v)|f (vs1,O)=>dS K' Z vs1|R=>R
def ct(g:Uy)(C':cj)(x:PV)(M:aC):af (aC × kS):=match cV C' x M with|f Uq=>g Uq|R=>R
noncomputable def fc (t:Xb) (K':Uy):a_->Uy|0,O=>R|n+1,M=>match t M with|f (.b (.bool V))=>(match K' M with|f (vs2,.ret v)=>f (vs2,.ret v)|f (vs2,O)=>fc t K' n vs2|R=>R)|f (.b (.bool N'))=>f (M,.next)|_=>R
def j9(o:PV)(M' v:AV):ft:=match o with|.list Z=>(match M' with|.int (.ofNat i)=>if i<Z.length/\Z.length<=lim then f (.list (Z.set i (.b v))) else .none|_=>R)|.dict bJ=>(match M' with|.tup k=>(match keyOf k with|f k=>if bJ.length<=lim then f (.dict (iK bJ k v)) else .none|R=>R)|_=>R)|_=>R
def Eh(two:e_)(o:PV)(k:AV):ft:=match o with|.dict bJ=>(match k with|.tup k=>(match keyOf k with|f k=>(if bJ.length<=lim then match two||(jS bJ k).isSome with|V=>f (.dict (lM bJ k))|N'=>R else .none)|R=>R)|_=>R)|_=>R
def Ei(o:PV):ft:=match o with|.list ys=>(match allB ys with|f Z=>(if 2<=Z.length/\Z.length<64 then match xb Z&&sy Z with|V=>f (.list ys.reverse)|N'=>R else .none)|R=>R)|_=>R
def lA(M:aC)(i:a_)(r:ft):af (aC × kS):=match r with|f hc=>f (bM M i hc,.next)|R=>R
def aD(mu:cj):CS->Uy|.assign i e,M=>(match ax e M with|f hc=>(match rC (mu.contains i) (fw mu e) (fresh e) hc with|V=>f (bM M i hc,.next)|N'=>R)|R=>R)|.bj is e,M=>(match ax e M with|f hc=>(match (!(is.any mu.contains))&&rC N' (fw mu e) N' hc with|V=>(match fv hc with|f Z=>(match eo is Z M with|f vs1=>f (vs1,.next)|R=>R)|R=>R)|N'=>R)|R=>R)|.dh o i e,M=>(match mu.contains o with|V=>(match ax e M with|f (.b v)=>(match ax i M with|f (.b M')=>lA M o (j9 (bf M o) M' v)|_=>R)|_=>R)|N'=>R)|.aug k i e,M=>(match mu.contains i with|V=>R|N'=>match bf M i with|.b (.int x)=>(match ax e M with|f (.b (.int y))=>(match cX k x y with|f z=>f (bM M i (.b (.int z)),.next)|R=>R)|_=>R)|_=>R)|.iL k o i e,M=>(match mu.contains o with|V=>(match ax i M with|f (.b M')=>(match mv (bf M o) (.b M') with|f (.b (.int x))=>(match ax e M with|f (.b (.int y))=>(match cX k x y with|f z=>lA M o (j9 (bf M o) M' (.int z))|R=>R)|_=>R)|_=>R)|_=>R)|N'=>R)|.ret e,M=>(match ax e M with|f hc=>f (M,.ret hc)|R=>R)|.iff t a b,M=>(match ax t M with|f (.b (.bool V))=>aD mu a M|f (.b (.bool N'))=>aD mu b M|_=>R)|.kH t b,M=>fc (ax t) (aD mu b) 100000 M|.gF C' ik it b,M=>(match C'.any mu.contains with|V=>R|N'=>match it with|.var i=>(match mu.contains i with|V=>(match ik with|.plain=>(match bf M i with|.list Z=>dS (ct (aD mu b) C') Z (bM M i .any)|_=>R)|_=>R)|N'=>match Ef ik (bf M i) with|f Z=>dS (ct (aD mu b) C') Z M|R=>R)|it=>match fw mu it with|V=>R|N'=>match ax it M with|f hc=>(match Ef ik hc with|f Z=>dS (ct (aD mu b) C') Z M|R=>R)|R=>R)|.cont,M=>f (M,.cont)|.qy d k,M=>(match mu.contains d with|V=>(match ax k M with|f (.b kv)=>lA M d (Eh V (bf M d) kv)|_=>R)|N'=>R)|.qz d k,M=>(match mu.contains d with|V=>(match ax k M with|f (.b kv)=>lA M d (Eh N' (bf M d) kv)|_=>R)|N'=>R)|.append l e,M=>(match mu.contains l with|V=>(match bf M l with|.list Z=>(match ax e M with|f hc=>(match rC N' (fw mu e) (fresh e) hc with|V=>if Z.length<=lim then f (bM M l (.list (Z++[hc])),.next) else .none|N'=>R)|R=>R)|_=>R)|N'=>R)|.extend l e,M=>(match mu.contains l with|V=>(match bf M l with|.list Z=>(match ax e M with|f (.list ys)=>(match (fresh e&&(allB ys).isSome) with|V=>if Z.length<=lim/\ys.length<=lim then f (bM M l (.list (Z++ys)),.next) else .none|N'=>R)|_=>R)|_=>R)|N'=>R)|.sort l,M=>(match mu.contains l with|V=>lA M l (Ei (bf M l))|N'=>R)|.expr (.call K' F P as),M=>(match P.mu with|V=>(match as with|.cons (.var i) r=>(match mu.contains i with|V=>(match ax r M with|f (.tup Vs)=>(match (allB Vs).isSome with|V=>(match isObj (bf M i) with|V=>lA M i (P.fn (bf M i::Vs))|N'=>R)|N'=>R)|_=>R)|N'=>R)|_=>R)|N'=>match ax as M with|f (.tup Vs)=>(match P.fn Vs with|f O=>f (M,.next)|R=>R)|_=>R)|.skip,M=>f (M,.next)|.seq a b,M=>(match aD mu a M with|f (vs1,.next)=>aD mu b vs1|r=>r)|O,O'=>R
noncomputable def bz:a_->aC|0=>[]|n+1=>.any::bz n
def prun(mu:cj)(np more:a_)(ha:CS):aC->ft:=λas=>if as.length=np then match aD mu ha (as++bz more) with|f (O,.ret hc)=>f hc|f (O,.next)=>f (.b .none)|_=>R else .none
def CP(mu:cj):CS->e_|.ret (.var i)=>mu.contains i|.ret e=>fresh e|.iff O a b=>CP mu a&&CP mu b|.kH O b=>CP mu b|.gF O O' O'' b=>CP mu b|.seq a b=>CP mu a&&CP mu b|_=>V
def bO(K:Fn->gz->Prop):CE->Prop|.bin O a b=>bO K a/\bO K b|.neg a=>bO K a|.cmp O a b=>bO K a/\bO K b|.isNone O a=>bO K a|.isin O a b=>bO K a/\bO K b|.and a b=>bO K a/\bO K b|.or a b=>bO K a/\bO K b|.not a=>bO K a|.ite t a b=>bO K t/\bO K a/\bO K b|.call O F P as=>K F P/\bO K as|.bi O as=>bO K as|.idx a b=>bO K a/\bO K b|.gK a b=>bO K a/\bO K b|.fu a b=>bO K a/\bO K b|.bc as=>bO K as|.lst as=>bO K as|.kZ k v=>bO K k/\bO K v|.bq e O O' it=>bO K e/\bO K it|.bR e O O' it c=>bO K e/\bO K it/\bO K c|.dJ e O O' it O'' O''' qK=>bO K e/\bO K it/\bO K qK|.jU k v O O' it=>bO K k/\bO K v/\bO K it|.cons e r=>bO K e/\bO K r|.k ..=>j?|.glob ..=>j?|.var ..=>j?|.gA=>j?|.bad=>j?|.nil=>j?
def fi(K:Fn->gz->Prop):CS->Prop|.assign O e=>bO K e|.bj O e=>bO K e|.dh o i e=>bO K (.var o)/\bO K i/\bO K e|.aug O O' e=>bO K e|.iL O o i e=>bO K (.var o)/\bO K i/\bO K e|.ret e=>bO K e|.iff t a b=>bO K t/\fi K a/\fi K b|.kH t b=>bO K t/\fi K b|.gF O O' it b=>bO K it/\fi K b|.qy d k=>bO K (.var d)/\bO K k|.qz d k=>bO K (.var d)/\bO K k|.append l e=>bO K (.var l)/\bO K e|.extend l e=>bO K (.var l)/\bO K e|.sort l=>bO K (.var l)|.expr e=>bO K e|.seq a b=>fi K a/\fi K b|.cont=>j?|.raise=>j?|.skip=>j?
theorem tY:ax (.var i) M=(match bf M i with|.any=>R|.b .ub=>R|v=>f v):=rfl
theorem m7:ax (.bin o a b) M=(match ax a M with|f x=>(match ax b M with|f y=>Oi o x y|R=>R)|R=>R):=rfl
theorem jw:ax (.cmp o a b) M=(match ax a M with|f x=>(match ax b M with|f y=>(match nR o x y with|f r=>f (.b (.bool r))|R=>R)|R=>R)|R=>R):=rfl
theorem sL:ax (.or a b) M=(match ax a M with|f (.b (.bool N'))=>ax b M|f (.b (.bool V))=>f (.b (.bool V))|_=>R):=rfl
theorem qa:ax (.ite t a b) M=(match ax t M with|f (.b (.bool V))=>ax a M|f (.b (.bool N'))=>ax b M|_=>R):=rfl
theorem rD:ax (.call u1 u2 P as) M=(match P.mu with|V=>R|N'=>match ax as M with|f (.tup Z)=>P.fn Z|_=>R):=rfl
theorem jY:ax (.bi b as) M=(match ax as M with|f (.tup Z)=>tC b Z|_=>R):=rfl
theorem m8:ax (.idx a i) M=(match ax a M with|f x=>(match ax i M with|f y=>mv x y|R=>R)|R=>R):=rfl
theorem fe:ax (.bc as) M=(match ax as M with|f (.tup Z)=>f (ig Z)|_=>R):=rfl
theorem An:ax (.lst as) M=(match ax as M with|f (.tup Z)=>f (.list Z)|_=>R):=rfl
theorem bX:ax (.cons e r) M=(match ax e M with|f x=>(match ax r M with|f (.tup Z)=>f (.tup (x::Z))|_=>R)|R=>R):=rfl
theorem eu:aD mu (.bj is e) M=(match ax e M with|f hc=>(match (!(is.any mu.contains))&&rC N' (fw mu e) N' hc with|V=>(match fv hc with|f Z=>(match eo is Z M with|f vs1=>f (vs1,.next)|R=>R)|R=>R)|N'=>R)|R=>R):=rfl
theorem Ao:aD mu (.iff t a b) M=(match ax t M with|f (.b (.bool V))=>aD mu a M|f (.b (.bool N'))=>aD mu b M|_=>R):=rfl
theorem qc:aD mu (.seq a b) M=(match aD mu a M with|f (vs1,.next)=>aD mu b vs1|r=>r):=rfl
theorem tZ:ax (.and a b) M=(match ax a M with|f (.b (.bool V))=>ax b M|f (.b (.bool N'))=>f (.b (.bool N'))|_=>R):=rfl
theorem BS:aD mu (.assign i e) M=(match ax e M with|f hc=>(match rC (mu.contains i) (fw mu e) (fresh e) hc with|V=>f (bM M i hc,.next)|N'=>R)|R=>R):=rfl
theorem Ap:aD mu (.ret e) M=(match ax e M with|f hc=>f (M,.ret hc)|R=>R):=rfl
theorem KO:ax (.not a) M=(match ax a M with|f (.b (.bool b))=>f (.b (.bool (!b)))|_=>R):=rfl
theorem Gy:ax (.isin y a b) M=(match ax a M with|f x=>(match ax b M with|f c=>(match Xa x c with|f r=>f (.b (.bool (r==y)))|R=>R)|R=>R)|R=>R):=rfl
end Mine.Internal
end
section
open PySem
namespace Mine.Internal
variable{ha:Sort _}{r:ha}{Y':Prop}
theorem Oj{x:af (aC × kS)}{F:(aC)->ha}{j':(af (aC × kS))->ha}:(∀ a,x=f (a,kS.next)->F a=r->Y')->(j' x=r->Y')->(match x with|f (a,kS.next)=>F a|a=>j' a)=r->Y':=by rcases x with _|w1<;>first|exact λk O=>k _ X|exact λO k=>k|(rcases w1 with ⟨_,w3⟩<;>rcases w3 with _|_|_<;>first|exact λk O=>k _ X|exact λO k=>k)
theorem aaZ{x:af (aC × kS)}{F:(aC)->PV->ha}{j':(aC)->ha}{K:(af (aC × kS))->ha}:(∀ a b,x=f (a,kS.ret b)->F a b=r->Y')->(∀ a,x=f (a,kS.next)->j' a=r->Y')->(K x=r->Y')->(match x with|f (a,kS.ret b)=>F a b|f (a,kS.next)=>j' a|a=>K a)=r->Y':=by rcases x with _|w1<;>first|exact λk O O=>k _ _ X|exact λO k O=>k _ X|exact λO O k=>k|(rcases w1 with ⟨_,w3⟩<;>rcases w3 with _|_|_<;>first|exact λk O O=>k _ _ X|exact λO k O=>k _ X|exact λO O k=>k)
theorem aa0{x:af (aC × kS)}{F j':(aC)->ha}{K:(af (aC × kS))->ha}:(∀ a,x=f (a,kS.cont)->F a=r->Y')->(∀ a,x=f (a,kS.next)->j' a=r->Y')->(K x=r->Y')->(match x with|f (a,kS.cont)=>F a|f (a,kS.next)=>j' a|a=>K a)=r->Y':=by rcases x with _|w1<;>first|exact λk O O=>k _ X|exact λO k O=>k _ X|exact λO O k=>k|(rcases w1 with ⟨_,w3⟩<;>rcases w3 with _|_|_<;>first|exact λk O O=>k _ X|exact λO k O=>k _ X|exact λO O k=>k)
theorem spW{x:af (aC × kS)}{F:aC->PV->ha}{j':aC->kS->ha}{K:ha}:(∀ a b,x=f (a,kS.ret b)->F a b=r->Y')->(∀ a b,x=f (a,b)->(∀ v,b≠kS.ret v)->j' a b=r->Y')->(K=r->Y')->(match x with|f (a,kS.ret b)=>F a b|f (a,b)=>j' a b|R=>K)=r->Y':=by
 intro k l m;rcases x with _|⟨a,b⟩
 .exact m
 .cases b
  .exact l _ _ X (λO=>nofun)
  .exact l _ _ X (λO=>nofun)
  .exact k _ _ X
end Mine.Internal
end
section
namespace Mine.Internal
noncomputable def Tr.has:Tr->a_->e_|.nil,O=>N'|.node O l r,i=>if i=0 then V else if i%2=1 then l.has (i/2) else r.has (i/2-1)
theorem Tr.v8(e:Ent):∀(t:Tr) (a i:a_),t.has i=V->(t.put a e).has i=V
 |.nil,O,O',h=>by exact fT h
 |.node v l r,a,i,h=>by
  dsimp only[Tr.put];by_cases B:a=0
  .exact J (ai B) h
  .refine J (ak B) ?_;by_cases pa:a%2=1
   .refine J (ai pa) ?_;dsimp only[Tr.has]at h ⊢;by_cases hi:i=0
    .simp[hi]
    .rw[ak hi]at h ⊢;by_cases pi:i%2=1
     .rw[ai pi]at h ⊢;exact Tr.v8 e l _ _ h
     .rw[ak pi]at h ⊢;exact h
   .refine J (ak pa) ?_;dsimp only[Tr.has]at h ⊢;by_cases hi:i=0
    .simp[hi]
    .rw[ak hi]at h ⊢;by_cases pi:i%2=1
     .rw[ai pi]at h ⊢;exact h
     .rw[ak pi]at h ⊢;exact Tr.v8 e r _ _ h
theorem Tr.BU:∀(t:Tr) (i:a_),(t.get i).isSome=V->t.has i=V
 |.nil,O,h=>by exact fT h
 |.node v l r,i,h=>by
  dsimp only[Tr.get,Tr.has]at h ⊢;by_cases hi:i=0
  .simp[hi]
  .rw[ak hi]at h ⊢;by_cases pi:i%2=1
   .rw[ai pi]at h ⊢;exact Tr.BU l _ h
   .rw[ak pi]at h ⊢;exact Tr.BU r _ h
theorem Tr.Gz(e:Ent):∀(t:Tr) (a:a_),t.has a=V->((t.put a e).get a).isSome=V
 |.nil,O,h=>by exact fT h
 |.node v l r,a,h=>by
  dsimp only[Tr.put];by_cases B:a=0
  .refine J (ai B) ?_;(dsimp only[Tr.get];simp[B])
  .refine J (ak B) ?_;dsimp only[Tr.has]at h;rw[ak B]at h;by_cases pa:a%2=1
   .rw[ai pa]at h ⊢;(dsimp only[Tr.get];refine J (ak B) (J (ai pa) ?_));exact Tr.Gz e l _ h
   .rw[ak pa]at h ⊢;(dsimp only[Tr.get];refine J (ak B) (J (ak pa) ?_));exact Tr.Gz e r _ h
theorem IZ{i a:a_}(h:i<a/2):2*i+1<a:=eE (show 2*i+1<2*(i+1) from ky _) (aR (HN 2 h) (Nat.mul_div_le a 2))
theorem Xe{i a:a_}(h:i<a/2-1):2*i+2<a:=rY (ky _) (IZ (Nat.add_lt_of_lt_sub h))
theorem Tr.xD(e:Ent):∀(t:Tr) (a:a_),(∀ i,i<a->t.has i=V)->((t.put a e).get a).isSome=V
 |.nil,a,h=>by cases a with|zero=>rfl|succ a=>have:=h 0 (by exact rX _ _);exact fT this
 |.node v l r,a,h=>by
  dsimp only[Tr.put];by_cases B:a=0
  .refine J (ai B) ?_;(dsimp only[Tr.get];simp[B])
  .refine J (ak B) ?_;by_cases pa:a%2=1
   .refine J (ai pa) ?_;dsimp only[Tr.get];refine J (ak B) (J (ai pa) ?_);refine Tr.xD e l _ λi hi=>?_
    have:=h (2*i+1) (IZ hi)
    dsimp only[Tr.has]at this;rw[ak (by simp),ai (by simp)]at this;rwa [show(2*i+1)/2=i from by lia]at this
   .refine J (ak pa) ?_;dsimp only[Tr.get];refine J (ak B) (J (ak pa) ?_);refine Tr.xD e r _ λi hi=>?_
    have:=h (2*i+2) (Xe hi)
    dsimp only[Tr.has]at this;rw[ak (by lia),ak (by simp)]at this;rwa [show(2*i+2)/2-1=i from by simp]at this
structure WF(Y:St):Prop where
 out:∀ i,Y.n<=i->Y.ent i=.none
 has:∀ i,i<Y.n->Y.t.has i=V
theorem WF.lt(h:WF Y)(he:Y.ent i=f e):i<Y.n:=by
 rcases Nat.lt_or_ge i Y.n with q|q
 .exact q
 .rw[h.out i q]at he;exact nS he
theorem BV{Y:St}{i:a_}{o:AO}(h:Y.get i=f o):∃ K',Y.ent i=f ⟨K',o⟩:=by unfold St.get at h;obtain⟨⟨K',o'⟩,he,eG⟩:=zK.mp h;clear h;subst eG;exact⟨K',he⟩
theorem gV{Y:St}{i:a_}{e:Ent}(h:Y.ent i=f e):Y.get i=f e.obj:=by unfold St.ent at h;unfold St.get;exact J h X
theorem iW{Y:St}{i:a_}{o:AO}(h:Y.ent i=f ⟨N',o⟩):Y.getM i=f o:=by unfold St.ent at h;unfold St.getM;exact J h X
theorem fm{Y:St}{i:a_}{o:AO}(h:Y.getM i=f o):Y.ent i=f ⟨N',o⟩:=by unfold St.getM at h;unfold St.ent;revert h;refine Zy (λO e h=>?_);refine J e ?_;obtain rfl:=aw h;rfl
theorem dz{Y T':St}{i:a_}(h:T'.ent i=Y.ent i):T'.get i=Y.get i:=by unfold St.ent at h;unfold St.get;exact J h X
theorem cQ{Y T':St}{i:a_}(h:T'.ent i=Y.ent i):T'.getM i=Y.getM i:=by unfold St.ent at h;unfold St.getM;exact J h X
theorem iX(h:WF Y)(o:AO):∃ T',Y.push o=f T'/\WF T'/\T'.n=Y.n+1/\∀ j,T'.ent j=if j=Y.n then f ⟨N',o⟩ else Y.ent j:=by
 have hq:=Tr.xD ⟨N',o⟩ Y.t Y.n h.has;have hg:=Tr.vW ⟨N',o⟩ Y.t Y.n hq;refine TR ⟨Y.n+1,Y.t.put Y.n ⟨N',o⟩⟩ ?_ ⟨λi hi=>?_,λi hi=>?_⟩ X hg
 .unfold St.push;dsimp only;exact J hq X
 .show(Y.t.put Y.n _).get i=_;replace hi:Y.n+1<=i:=hi;exact J (hg _) (J (ak (by exact rZ ‹_›)) (h.out i (by exact kF ‹_›)))
 .show(Y.t.put Y.n _).has i=V;replace hi:i<Y.n+1:=hi;rcases Nat.lt_or_ge i Y.n with q|q
  .exact Tr.v8 _ _ _ _ (h.has i q)
  .obtain rfl:i=Y.n:=by lia
   exact Tr.BU _ _ hq
theorem sM(h:WF Y)(hi:i<Y.n)(e:Ent):∃ T',Y.JN i e=f T'/\WF T'/\T'.n=Y.n/\∀ j,T'.ent j=if j=i then f e else Y.ent j:=by
 have hq:=Tr.Gz e Y.t i (h.has i hi);have hg:=Tr.vW e Y.t i hq;refine TR ⟨Y.n,Y.t.put i e⟩ ?_ ⟨λj hj=>?_,λj hj=>?_⟩ X hg
 .unfold St.JN;dsimp only;exact J hq X
 .show(Y.t.put i _).get j=_;replace hj:Y.n<=j:=hj;exact J (hg _) (J (ak (by lia)) (h.out j hj))
 .exact Tr.v8 _ _ _ _ (h.has j hj)
noncomputable abbrev Vw:=a_->af AO
def view(j':jT)(Y:St):Vw:=λn=>match j' n with|V=>R|N'=>Y.get n
noncomputable def hide (n:a_) (W:Vw):Vw:=λi=>if i=n then .none else W i
mutual
def VR(W:Vw):PV->AV->Prop|.any,O=>j?|.b w,v=>v=w|.tup Vs,v=>∃ Z,v=.tup Z/\b9 W Vs Z|.list Vs,v=>∃ n Z,v=.ref n/\W n=f (.list Z)/\b9 W Vs Z|.dict bJ,v=>∃ n,v=.ref n/\W n=f (.dict bJ)
def b9(W:Vw):aC->al->Prop|[],Z=>Z=[]|hc::Vs,Z=>∃ x r,Z=x::r/\VR W hc x/\b9 W Vs r
end
mutual
theorem VR.mono(h:∀ n o,W n=f o->W' n=f o):∀{hc:PV} {v:AV},VR W hc v->VR W' hc v|.any,O,O'=>by dsimp only[VR]|.b O,O',r=>by exact r|.tup Vs,O,r=>(by dsimp only[VR]at r ⊢;obtain⟨Z,e,q⟩:=r;exact aK Z e (b9.mono h q))|.list Vs,O,r=>(by dsimp only[VR]at r ⊢;obtain⟨n,Z,e,q,s⟩:=r;exact fI n Z e (h _ _ q) (b9.mono h s))|.dict bJ,O,r=>by dsimp only[VR]at r ⊢;obtain⟨n,e,q⟩:=r;exact aK n e (h _ _ q)
theorem b9.mono(h:∀ n o,W n=f o->W' n=f o):∀{Vs:aC} {Z:al},b9 W Vs Z->b9 W' Vs Z|[],O,r=>by exact r|hc::Vs,O,r=>by dsimp only[b9]at r ⊢;obtain⟨x,r',e,q,s⟩:=r;exact fI x r' e (VR.mono h q) (b9.mono h s)
end
section
variable{W:Vw}{j':jT}{Y T' ae aq bo:St}
theorem VR.any:VR W .any v:=by dsimp only[VR]
theorem VR.b(v:AV):VR W (.b v) v:=by dsimp only[VR]
theorem VR.bF(h:VR W (.b w) v):v=w:=by dsimp only[VR]at h;exact h
theorem VR.bD(h:VR W (.tup Vs) v):∃ Z,v=.tup Z/\b9 W Vs Z:=by dsimp only[VR]at h;exact h
theorem VR.cN(h:VR W (.list Vs) v):∃ n Z,v=.ref n/\W n=f (.list Z)/\b9 W Vs Z:=by dsimp only[VR]at h;exact h
theorem VR.gO(h:VR W (.dict bJ) v):∃ n,v=.ref n/\W n=f (.dict bJ):=by dsimp only[VR]at h;exact h
theorem VR.tup(h:b9 W Vs Z):VR W (.tup Vs) (.tup Z):=by exact aK Z X h
theorem VR.list(e:W n=f (.list Z))(h:b9 W Vs Z):VR W (.list Vs) (.ref n):=by exact fI n Z X e h
theorem VR.dict(e:W n=f (.dict bJ)):VR W (.dict bJ) (.ref n):=by exact aK n X e
theorem b9.nil:b9 W [] []:=by dsimp only[b9]
theorem b9.nil_inv(h:b9 W [] Z):Z=[]:=by dsimp only[b9]at h;exact h
theorem b9.cons(a:VR W hc x)(b:b9 W Vs Z):b9 W (hc::Vs) (x::Z):=by exact fI x Z X a b
theorem b9.cons_inv(h:b9 W (hc::Vs) Z):∃ x r,Z=x::r/\VR W hc x/\b9 W Vs r:=by dsimp only[b9]at h;exact h
theorem b9.length:∀{Vs:aC} {Z:al},b9 W Vs Z->Z.length=Vs.length:=by intro w';cases w' with|nil=>intro O h;exact J h.nil_inv X|cons hc Vs=>intro O h;(refine aW (h.cons_inv) λx r aL O q=>?_;clear h;subst aL);simp[q.length]
theorem b9.append:∀{Vs Us:aC} {Z ys:al},b9 W Vs Z->b9 W Us ys->b9 W (Vs++Us) (Z++ys):=by intro w';cases w' with|nil=>intro O O O h q;exact J h.nil_inv q|cons hc Vs=>intro O O O h q;(refine aW (h.cons_inv) λx r aL a s=>?_;clear h;subst aL);exact b9.cons a (s.append q)
theorem b9.bs:∀(Z:al),b9 W (Z.map .b) Z:=λw'=>by induction w' with|nil=>exact b9.nil|cons x Z ih=>exact b9.cons (VR.b x) (ih)
theorem b9.get:∀{Vs:aC} {Z:al},b9 W Vs Z->∀{i:a_} {hc:PV},Vs[i]?=f hc->∃ x,Z[i]?=f x/\VR W hc x:=by intro w';cases w' with|nil=>intro O O i hc e;exact nS e|cons hc Vs=>intro O h i U e;refine aW (h.cons_inv) λx r aL a s=>?_;clear h;subst aL;cases i with|zero=>simp at e;subst e;exact aK x X a|succ i=>simpa using s.get (i:=i) (hc:=U) (by simpa using e)
theorem b9.take:∀{Vs:aC} {Z:al},b9 W Vs Z->∀ k,b9 W (Vs.take k) (Z.take k):=by intro w';cases w' with|nil=>intro O h k;refine J h.nil_inv ?_;simpa using b9.nil|cons hc Vs=>intro O h k;refine aW (h.cons_inv) λx r aL a s=>?_;clear h;subst aL;cases k with|zero=>exact b9.nil|succ k=>exact b9.cons a (s.take k)
theorem b9.drop:∀{Vs:aC} {Z:al},b9 W Vs Z->∀ k,b9 W (Vs.drop k) (Z.drop k):=by intro w';cases w' with|nil=>intro O h k;refine J h.nil_inv ?_;simpa using b9.nil|cons hc Vs=>intro O h k;have h0:=h;refine aW (h.cons_inv) λx r aL a s=>?_;clear h;subst aL;cases k with|zero=>exact h0|succ k=>exact s.drop k
theorem b9.reverse:∀{Vs:aC} {Z:al},b9 W Vs Z->b9 W Vs.reverse Z.reverse:=by intro w';cases w' with|nil=>intro O h;exact J h.nil_inv b9.nil|cons hc Vs=>intro O h;refine aW (h.cons_inv) λx r aL a s=>?_;clear h;subst aL;exact J C8 (J C8 (s.reverse.append (b9.cons a b9.nil)))
theorem b9.set:∀{Vs:aC} {Z:al},b9 W Vs Z->∀(k:a_) {hc:PV} {v:AV},VR W hc v->b9 W (Vs.set k hc) (Z.set k v):=by intro w';cases w' with|nil=>intro O h k O O O;refine J h.nil_inv ?_;simpa using b9.nil|cons hc Vs=>intro O h k O O q;refine aW (h.cons_inv) λx r aL a s=>?_;clear h;subst aL;cases k with|zero=>exact b9.cons q s|succ k=>exact b9.cons a (s.set k q)
theorem b9.allB:∀{Vs:aC} {Z ws:al},b9 W Vs Z->allB Vs=f ws->Z=ws:=by intro w';cases w' with|nil=>intro O O h e;refine J h.nil_inv ?_;(dsimp only[Mine.Internal.allB]at e;simpa using e)|cons hc Vs=>intro O ws h e;refine aW (h.cons_inv) λx r aL a s=>?_;subst aL;cases hc with|b w=>(revert e;refine d0 (λl hl e=>?_);obtain rfl:=aw e;exact J a.bF (J (s.allB hl) X))|_=>exact nS e
theorem sO:∀{Vs:aC} {ws:al},allB Vs=f ws->b9 W Vs ws:=by intro w';induction w' with|nil=>intro O e;(dsimp only[allB]at e;simp at e);subst e;exact b9.nil|cons hc Vs ih=>intro ws e;cases hc with|b w=>(revert e;refine d0 (λl hl e=>?_);obtain rfl:=aw e;exact b9.cons (VR.b w) (ih hl))|_=>exact nS e
theorem VR.pack(h:b9 W Vs Z):VR W (ig Vs) (.tup Z):=by dsimp only[ig];cases e:allB Vs with|some ws=>exact J (h.allB e) (VR.b _)|none=>exact VR.tup h
theorem VR.items(h:VR W hc v)(e:fv hc=f Vs):∃ Z,v=.tup Z/\b9 W Vs Z:=by
 dsimp only[fv]at e;revert e;refine MP (λO br e=>?_) (λO br e=>?_);subst br;rotate_left;subst br;rotate_left
 .obtain rfl:=aw e;exact aK _ h.bF (b9.bs _)
 .obtain rfl:=aw e;exact h.bD
structure Ext(Y T':St):Prop where
 wf:WF T'
 le:Y.n<=T'.n
 ent:∀ i,i<Y.n->T'.ent i=Y.ent i
theorem Ext.refl(h:WF Y):Ext Y Y:=⟨h,c9 _,λO O=>X⟩
theorem Ext.trans(a:Ext ae aq)(b:Ext aq bo):Ext ae bo:=⟨b.wf,aR a.le b.le,λi hi=>(b.ent i (eE hi a.le)).trans (a.ent i hi)⟩
theorem lB(h:WF Y){n:a_}{o:AO}(e:Y.get n=f o):n<Y.n:=by obtain⟨K',q⟩:=BV e;exact h.lt q
theorem Ext.get(x:Ext Y T')(h:WF Y){n:a_}{o:AO}(e:Y.get n=f o):T'.get n=f o:=by exact J (dz (x.ent n (lB h e))) e
theorem aF(e:view j' Y n=f o):j' n=N'/\Y.get n=f o:=by revert e;exact zT nS λq e=>⟨q,e⟩
theorem dy(h:j' n=N')(e:Y.get n=f o):view j' Y n=f o:=by dsimp only[view];exact J h e
theorem Ext.view(x:Ext Y T')(h:WF Y)(n:a_)(o:AO)(e:view j' Y n=f o):view j' T' n=f o:=by obtain⟨a,b⟩:=aF e;exact dy a (x.get h b)
theorem nc{aj:jT}(h:∀ n,aj n=V->j' n=V)(n:a_)(o:AO)(e:view j' Y n=f o):view aj Y n=f o:=by obtain⟨a,b⟩:=aF e;refine dy ?_ b;cases q:aj n with|false=>rfl|true=>rw[h n q]at a;exact tF a
theorem I8(h:i≠n):hide n W i=W i:=ak h
theorem KP(n:a_)(h:∀ i o,i≠n->W i=f o->W' i=f o)(i:a_)(o:AO)(e:hide n W i=f o):hide n W' i=f o:=by dsimp only[hide]at e ⊢;revert e;refine Dl nS λq e=>?_;exact J (ak q) (h i o q e)
def Fr(k:a_)(W:Vw)(Y:St):PV->AV->Prop|.b O,O'=>j?|.list Vs,z=>∃ n Z,z=.ref n/\k<=n/\Y.getM n=f (.list Z)/\b9 (hide n W) Vs Z|.dict bJ,z=>∃ n,z=.ref n/\k<=n/\Y.getM n=f (.dict bJ)|O,O'=>False
def tD(j':jT)(Y:St):Prop:=∀ n,j' n=V->n<Y.n
theorem tD.ext(h:tD j' Y)(x:Ext Y T'):tD j' T':=λn q=>eE (h n q) x.le
theorem tD.not(h:tD j' Y)(q:Y.n<=n):j' n=N':=by cases e:j' n with|false=>rfl|true=>exact g_ (h n e) (wu.mpr q)
def Out(j':jT)(Y:St)(fr:e_)(hc:PV)(r:jq):Prop:=∃ T' z,r=f (T',z)/\Ext Y T'/\VR (view j' T') hc z/\(fr=V->Fr Y.n (view j' T') T' hc z)
theorem Fr.low(h:Fr k W Y hc z)(q:k'<=k):Fr k' W Y hc z:=by cases hc with|b O=>trivial|list Vs=>(obtain⟨n,Z,a,b,c⟩:=h;exact fI n Z a (aR q b) c)|dict bJ=>(obtain⟨n,a,b,c⟩:=h;exact kB n a (aR q b) c)|_=>exact h.elim
theorem Out.after(x:Ext Y ae)(h:Out j' ae fr hc r):Out j' Y fr hc r:=by obtain⟨T',z,a,b,c,d⟩:=h;exact qO T' z a (x.trans b) c (λq=>(d q).low x.le)
theorem Out.plain(x:Ext Y ae)(h:VR (view j' ae) hc v)(hb:fr=V->Fr Y.n (view j' ae) ae hc v):Out j' Y fr hc (f (ae,v)):=⟨ae,v,X,x,h,hb⟩
theorem Out.val(x:Ext Y ae):Out j' Y fr (.b v) (f (ae,v)):=⟨ae,v,X,x,VR.b v,λO=>Z'⟩
theorem Out.weak(h:Out j' Y fr hc r)(q:fr'=V->fr=V):Out j' Y fr' hc r:=by obtain⟨T',z,a,b,c,d⟩:=h;exact qO T' z a b c (λe=>d (q e))
theorem Out.jx{Vs:aC}{Z:al}{fr:e_}(x:Ext Y ae)(hk:tD j' Y)(h:b9 (view j' ae) Vs Z):Out j' Y fr (.list Vs) (jl ae (.list Z)):=by
 refine kA (iX x.wf (.list Z)) λT' hp hw hn he=>?_;have B:T'.ent ae.n=f ⟨N',.list Z⟩:=J (he _) (J (ai X) X);have aj:Ext ae T':=⟨hw,by lia,λi hi=>by exact J (he _) (J (ak (by lia)) X)⟩;refine qO T' (.ref ae.n) (by dsimp only[jl];exact J hp X) (x.trans aj) (VR.list (dy (hk.not x.le) (gV B)) (h.mono (aj.view x.wf))) (λO=>⟨ae.n,Z,X,x.le,iW B,h.mono λn o e=>?_⟩)
 have:=lB x.wf (aF e).2
 exact J (I8 (by omega)) (aj.view x.wf n o e)
theorem Out.qd{bJ:dc}{fr:e_}(x:Ext Y ae)(hk:tD j' Y):Out j' Y fr (.dict bJ) (jl ae (.dict bJ)):=by refine kA (iX x.wf (.dict bJ)) λT' hp hw hn he=>?_;have B:T'.ent ae.n=f ⟨N',.dict bJ⟩:=J (he _) (J (ai X) X);have aj:Ext ae T':=⟨hw,by lia,λi hi=>by exact J (he _) (J (ak (by lia)) X)⟩;exact qO T' (.ref ae.n) (by dsimp only[jl];exact J hp X) (x.trans aj) (VR.dict (dy (hk.not x.le) (gV B))) (λO=>⟨ae.n,X,x.le,iW B⟩)
def Sl(W:Vw)(P:a_->Prop)(M:aC)(C:al):Prop:=M.length<=C.length/\∀ i,P i->VR W (bf M i) (ao C i)
theorem dC:∀(M:aC) (i j:a_) (v:PV),bf (bM M i v) j=if i=j then(if i<M.length then v else .any) else bf M j:=λw'=>by induction w' with|nil=>intro i j v;dsimp only[bM,bf];simp|cons x M ih=>intro z1;cases z1 with|zero=>(intro z2;cases z2 with|zero=>intro v;rfl|succ j=>intro v;rfl)|succ i=>intro z2;cases z2 with|zero=>intro v;rfl|succ j=>intro v;dsimp only[bM,bf];simp[ih i j v]
theorem bk:∀(C:al) (i j:a_) (v:AV),ao (aE C i v) j=if i=j then(if i<C.length then v else .ub) else ao C j:=λw'=>by induction w' with|nil=>intro i j v;dsimp only[aE,ao];simp|cons x C ih=>intro z1;cases z1 with|zero=>(intro z2;cases z2 with|zero=>intro v;rfl|succ j=>intro v;rfl)|succ i=>intro z2;cases z2 with|zero=>intro v;rfl|succ j=>intro v;dsimp only[aE,ao];simp[ih i j v]
theorem ng:∀(M:aC) (i:a_) (v:PV),(bM M i v).length=M.length:=λw'=>by induction w' with|nil=>intro O O;exact X|cons O M ih=>intro z1;cases z1 with|zero=>intro O;exact X|succ i=>intro v;dsimp only[bM];simp[ih i v]
theorem pj:∀(C:al) (i:a_) (v:AV),(aE C i v).length=C.length:=λw'=>by induction w' with|nil=>intro O O;exact X|cons O C ih=>intro z1;cases z1 with|zero=>intro O;exact X|succ i=>intro v;dsimp only[aE];simp[ih i v]
theorem Sl.mono{P:a_->Prop}(s:Sl W P M C)(h:∀ n o,W n=f o->W' n=f o):Sl W' P M C:=⟨s.1,λi hi=>(s.2 i hi).mono h⟩
theorem Sl.sub{P P':a_->Prop}(s:Sl W P M C)(h:∀ i,P' i->P i):Sl W P' M C:=⟨s.1,λi hi=>s.2 i (h i hi)⟩
theorem Sl.set{P:a_->Prop}(s:Sl W P M C)(h:VR W hc v)(i:a_):Sl W P (bM M i hc) (aE C i v):=by
 refine⟨by refine J (ng _ _ _) (J (pj _ _ _) ?_);exact s.1,λj hj=>?_⟩;refine J (dC _ _ _ _) (J (bk _ _ _ _) ?_);split
 .rename_i e
  split
  .rename_i q
   refine J (ai (eE q s.1)) ?_;exact h
  .exact VR.any
 .exact s.2 j hj
theorem Sl.bindL{P:a_->Prop}:∀{is:cj} {Vs M eV:aC} {Z C:al},Sl W P M C->b9 W Vs Z->eo is Vs M=f eV->∃ bh,bindL is Z C=f bh/\Sl W P eV bh:=by intro w';cases w' with|nil=>(intro z1;cases z1 with|nil=>intro O O Z C s h e;refine J h.nil_inv ?_;dsimp only[eo]at e;rw[dQ]at e;subst e;exact aK C X s|cons O O=>intro O O O O s h e;exact nS e)|cons i is=>intro z1;cases z1 with|nil=>intro O O O O s h e;exact nS e|cons hc Vs=>intro M eV Z C s h e;refine aW (h.cons_inv) λx r aL a q=>?_;clear h;subst aL;dsimp only[eo]at e;exact(s.set a i).bindL q e
theorem xE(e:cV is hc M=f eV):(∃ i,is=[i]/\eV=bM M i hc)\/∃ Vs,fv hc=f Vs/\eo is Vs M=f eV/\∀ Z C,dw is (.tup Z) C=bindL is Z C:=by
 rcases is with _|⟨i,_|⟨j,is⟩⟩
 .revert e;exact di (λVs hi e=>.inr ⟨Vs,hi,e,λO O=>X⟩)
 .exact .inl ⟨i,X,(aw e).symm⟩
 .revert e;exact di (λVs hi e=>.inr ⟨Vs,hi,e,λO O=>X⟩)
theorem Sl.dw{P:a_->Prop}(s:Sl W P M C)(h:VR W hc v)(e:cV is hc M=f eV):∃ bh,dw is v C=f bh/\Sl W P eV bh:=by
 refine Df λGq kq=>?_;rcases xE e with ⟨i,rfl,rfl⟩|⟨Vs,hi,e,hb⟩
 .exact kq _ X (s.set h _)
 .refine ah (h.items hi) λZ bK q=>?_;clear h;subst bK;exact ah (s.bindL q e) λbh N L=>kq bh ((hb _ _).trans N) L
theorem Sl.clear{P:a_->Prop}(s:Sl W P M C):∀(is:cj),Sl W P (Gw is M) (dU is C):=λw'=>by cases w' with|nil=>exact s|cons i is=>exact(s.clear is).set VR.any i
def BW(j':jT)(Y:St)(lk:af a_):Prop:=∀ n,lk=f n->j' n=N'/\∃ e,Y.ent n=f e
theorem Ja{lk:af a_}(h:WF Y)(hl:BW j' Y lk):∃ ae,lS Y lk=f ae/\WF ae/\ae.n=Y.n/\(∀ i,ae.get i=Y.get i)/\(∀ i,lk≠f i->ae.ent i=Y.ent i)/\∀ n,lk=f n->∃ e,Y.ent n=f e/\ae.ent n=f ⟨V,e.obj⟩:=by cases lk with|none=>(exact MH Y X h X (λO=>X) (λO O=>X) (λn e=>by cases e))|some n=>
  obtain⟨_,e,he⟩:=hl n X;refine kA (sM h (h.lt he) ⟨V,e.obj⟩) λae N L h3 h4=>?_;have hs:Y.t.get n=f e:=he;refine⟨ae,by(dsimp only[lS];(dsimp only[St.kG];refine J hs ?_));exact N,L,h3,λi=>?_,λi q=>by rw[h4,ak];rintro rfl;exact q X,λm q=>?_⟩
  .by_cases q:i=n
   .clear hl N hs;subst q;exact J (gV he) (J (gV (e:=⟨V,e.obj⟩) (by exact J (h4 _) (J (ai X) X))) X)
   .exact dz (by exact J (h4 _) (J (ak q) X))
  .obtain rfl:=aw q;exact aK e he (by exact J (h4 _) (J (ai X) X))
theorem Aq{lk:af a_}(h:WF Y)(hl:BW j' Y lk)(L:WF aq)(hn:Y.n<=aq.n)(he:∀ n,lk=f n->∃ e,Y.ent n=f e/\aq.ent n=f ⟨V,e.obj⟩) :
  ∃ bo,iM aq (sd Y lk) lk=f bo/\WF bo/\bo.n=aq.n/\(∀ i,bo.get i=aq.get i)/\(∀ i,lk≠f i->bo.ent i=aq.ent i)/\∀ n,lk=f n->bo.ent n=Y.ent n:=by
 cases lk with|none=>(exact MH aq X L X (λO=>X) (λO O=>X) (λn e=>by cases e))|some n=>
  refine ah (he n X) λe h3 h4=>?_;have hs:aq.t.get n=f ⟨V,e.obj⟩:=h4;have hf:Y.flag n=e.locked:=by have:Y.t.get n=f e:=h3;unfold St.flag;exact J this X
  refine kA (sM L (L.lt h4) e) λbo h5 h6 h7 h8=>?_;refine MH bo (by(dsimp only[iM,sd,St.kG];refine J hs (J hf ?_));exact h5) h6 h7 (λi=>?_) (λi q=>by rw[h8,ak];rintro rfl;exact q X) (λm q=>?_)
  .by_cases q:i=n
   .clear hl he h3 hs hf h5;subst q;exact J (gV (e:=e) (by exact J (h8 _) (J (ai X) X))) (J (gV h4) X)
   .exact dz (by exact J (h8 _) (J (ak q) X))
  .obtain rfl:=aw q;exact J (h8 _) (J (ai X) (J h3 X))
theorem cY(h:∀ i,T'.get i=Y.get i):view j' T'=view j' Y:=by funext n;dsimp only[view];exact J (h _) X
theorem b9.enum:∀{Vs:aC} {Z:al} (i:a_),b9 W Vs Z->b9 W (fA i Vs) (qL i Z):=by intro w';cases w' with|nil=>intro O i h;exact J h.nil_inv b9.nil|cons hc Vs=>intro O i h;refine aW (h.cons_inv) λx r aL a s=>?_;clear h;subst aL;exact b9.cons (VR.pack (b9.cons (VR.b _) (b9.cons a b9.nil))) (s.enum (i+1))
theorem Jb{ik:tG}{hc:PV}{v:AV}{Vs:aC}(h:VR (view j' Y) hc v)(e:Ef ik hc=f Vs):∃ Z lk,jd Y ik v=f (Z,lk)/\b9 (view j' Y) Vs Z/\BW j' Y lk:=by
 have RY:BW j' Y .none:=λn q=>by exact nS q
 have v9:∀{n:a_} {o:AO},view j' Y n=f o->BW j' Y (f n):=λq m e=>by obtain rfl:=aw e;exact⟨(aF q).1,cC (BV (aF q).2) λK' hf=>⟨_,hf⟩⟩
 cases ik with
 |plain=>cases hc with
  |b hc=>cases hc with|tup ws=>(obtain rfl:=aw e;exact J h.bF (fI _ _ X (b9.bs _) RY))|_=>exact nS e
  |tup Ws=>obtain rfl:=aw e;((refine ah (h.bD) λZ bK q=>?_;clear h;subst bK));exact fI _ _ X q RY
  |list Ws=>obtain rfl:=aw e;(refine aW (h.cN) λn Z aL q s=>?_;clear h;subst aL);exact fI Z (f n) (by(dsimp only[jd];exact J ((aF q).2) X)) s (v9 q)
  |dict bJ=>
   obtain rfl:=aw e;refine ah (h.gO) λn bK q=>?_;clear h;subst bK;refine fI (bJ.map λp=>iJ p.1) (f n) (by(dsimp only[jd];exact J ((aF q).2) X)) ?_ (v9 q)
   have:=b9.bs (W:=view j' Y) (bJ.map λp=>iJ p.1)
   rwa [fG]at this
  |any=>exact nS e
 |range=>cases hc with|b hc=>(cases hc with|int n=>(revert e;refine aZ (λq e=>?_) nS;obtain rfl:=aw e;refine J h.bF ?_;(exact fI _ _ (by dsimp only[jd];exact J (ai q) X) (b9.bs _) RY))|_=>exact nS e)|_=>exact nS e
 |enum=>cases hc with|b hc=>(cases hc with|tup ws=>(obtain rfl:=aw e;exact J h.bF (fI _ _ X ((b9.bs _).enum 0) RY))|_=>exact nS e)|list Ws=>(obtain rfl:=aw e;(refine aW (h.cN) λn Z aL q s=>?_;clear h;subst aL);exact fI _ (f n) (by(dsimp only[jd];exact J ((aF q).2) X)) (s.enum 0) (v9 q))|_=>exact nS e
 |rev=>cases hc with|list Ws=>(obtain rfl:=aw e;(refine aW (h.cN) λn Z aL q s=>?_;clear h;subst aL);exact fI _ (f n) (by(dsimp only[jd];exact J ((aF q).2) X)) s.reverse (v9 q))|_=>exact nS e
theorem Ej{α:Type}{lk:af a_}{K':St->af (St × α)}{xs:St->α->Prop}(h:WF Y)(hl:BW j' Y lk)(hZ:∀ ae aq a,(∀ i,aq.get i=ae.get i)->(∀ i,Y.n<=i->aq.ent i=ae.ent i)->xs ae a->xs aq a)(hf:∀ ae,WF ae->ae.n=Y.n->(∀ i,ae.get i=Y.get i)->∃ aq a,K' ae=f (aq,a)/\Ext ae aq/\xs aq a):∃ bo a,j7 Y lk K'=f (bo,a)/\Ext Y bo/\xs bo a:=by
 refine Dh λGq kq=>Mw (Ja h hl) λae N L h3 h4 h5 h6=>aW (hf ae L h3 h4) λaq a h7 h8 h9=>?_;obtain⟨bo,k1,k2,k3,k4,k5,k6⟩:=Aq h hl h8.wf (by refine dT h3 ?_;exact h8.le) λn q=>by refine ah (h6 n q) λe e1 e2=>?_;(exact aK e e1 (by refine J (h8.ent n (L.lt e2)) ?_;exact e2))
 refine kq bo a (by(dsimp only[j7];refine J N ?_;try dsimp only;refine J h7 ?_;try dsimp only;exact J k1 X)) ⟨k2,by refine J k3 (dT h3 ?_);exact h8.le,λi hi=>?_⟩ (hZ _ _ _ k4 (λi hi=>k5 i λq=>?_) h9)
 .by_cases q:lk=f i
  .exact k6 i q
  ·((exact J (k5 i q) (J (h8.ent i (by refine J h3 ?_;exact hi)) (J (h5 i q) X))))
 .obtain⟨_,e,he⟩:=hl i q
  have:=h.lt he
  lia
theorem BX{α:Type}{lk:af a_}{K':St->af (St × α)}{xs:St->α->Prop}(h:WF Y)(hl:BW j' Y lk)(hZ:∀ ae aq a,(∀ i,aq.get i=ae.get i)->xs ae a->xs aq a)(hf:∀ ae,WF ae->ae.n=Y.n->(∀ i,ae.get i=Y.get i)->∃ aq a,K' ae=f (aq,a)/\Ext ae aq/\xs aq a):∃ bo a,j7 Y lk K'=f (bo,a)/\Ext Y bo/\xs bo a:=
 Ej h hl (λa b c q O r=>hZ a b c q r) hf
end
section
variable{W:Vw}{j':jT}{Y T' ae aq bo:St}
theorem Ol(h:Ext Y ae)(hk:tD j' Y)(rx:VR (view j' ae) aj x)(ry:VR (view j' ae) σ y)(e:Oi o aj σ=f hc):Out j' Y V hc (oA ae o x y):=by
 cases aj with
 |b aj=>cases aj with|int p=>(cases σ with|b σ=>(cases σ with|int q=>(revert e;refine gQ (λz hz e=>?_);obtain rfl:=aw e;refine J rx.bF (J ry.bF ?_);(dsimp only[oA];refine J hz ?_;try dsimp only);exact Out.val h)|_=>exact nS e)|_=>exact nS e)|_=>exact nS e
 |list Xs=>cases σ with
  |list Ys=>cases o with|add=>(revert e;refine aZ (λq e=>?_) nS;obtain rfl:=aw e;refine aW (rx.cN) λn Z aL q1 s1=>?_;clear rx;subst aL;refine aW (ry.cN) λm ys aL q2 s2=>?_;clear ry;subst aL;(dsimp only[oA];refine J ((aF q1).2) (J ((aF q2).2) ?_);try dsimp only);refine J (ai (show Z.length<=lim/\ys.length<=lim by rw[s1.length,s2.length];exact q)) ?_;exact Out.jx h hk (s1.append s2))|_=>exact nS e
  |b σ=>cases σ with
   |int k=>cases o with
    |mul=>
     rcases Xs with _|⟨_|(_|_|_|v|_|_|_|_)|_|_|_,_|⟨_,_⟩⟩<;>first|exact nS e|skip
     revert e;refine aZ (λq e=>?_) nS;obtain rfl:=aw e;refine aW (rx.cN) λn Z aL q1 s1=>?_;clear rx;subst aL;refine aW (s1.cons_inv) λx r aL a s=>?_;clear s1;subst aL;rw[a.bF,s.nil_inv]at q1;refine J ry.bF ?_;(dsimp only[oA];refine J ((aF q1).2) ?_;try dsimp only);refine J (ai q) ?_
     have:=b9.bs (W:=view j' ae) (l_ k.toNat (.int v))
     rw[List.map_replicate]at this;exact Out.jx h hk this
    |_=>exact nS e
   |_=>exact nS e
  |_=>exact nS e
 |_=>exact nS e
theorem b9.empty(h:b9 W Vs Z):Z.isEmpty=Vs.isEmpty:=by cases Vs with|nil=>exact J h.nil_inv X|cons hc Vs=>(refine eF (h.cons_inv) λx r aL O=>?_;clear h;subst aL);rfl
theorem t7(e:fy ⟨0,.nil⟩ o x y=f r):fy Y o x y=f r:=by cases x with|ref n=>(cases y with|ref m=>exact nS e|_=>exact e)|_=>first|exact e|(cases y<;>exact e)
theorem Om(rx:VR (view j' Y) aj x)(ry:VR (view j' Y) σ y)(e:nR o aj σ=f r):fy Y o x y=f r:=by
 dsimp only[nR]at e;revert e;refine VD (λO O br bK e=>?_) (λXs Ys br bK e=>?_);subst br;subst bK;rotate_left;subst br;subst bK;rotate_left
 ·(refine J rx.bF (J ry.bF ?_));exact t7 e
 .refine aW (rx.cN) λn Z aL q1 s1=>?_;clear rx;subst aL;refine aW (ry.cN) λm ys aL q2 s2=>?_;clear ry;subst aL;have l1:Z.isEmpty=Xs.isEmpty:=s1.empty;have l2:ys.isEmpty=Ys.isEmpty:=s2.empty;dsimp only[fy];(simp -iota only [(aF q1).2,(aF q2).2,l1,l2];dsimp only[(aF q1).2,(aF q2).2,l1,l2];simp -iota only [(aF q1).2,(aF q2).2,l1,l2]);exact e
theorem RZ(rx:VR (view j' Y) aj x)(rc:VR (view j' Y) sl c)(e:Xa aj sl=f r):FG Y x c=f r:=by
 dsimp only[Xa]at e;revert e;refine FI (λO br e=>?_);subst br;refine J rx.bF ?_;revert e;refine MR (λO br e=>?_) (λO br e=>?_) (λO br e=>?_);subst br;rotate_left;subst br;rotate_left;subst br;rotate_left
 .exact J rc.bF e
 .revert e;refine d0 (λws hw e=>?_);refine aW (rc.cN) λn Z aL q s=>?_;clear rc;subst aL;rw[s.allB hw]at q;(dsimp only[FG];refine J ((aF q).2) ?_);exact e
 .refine ah (rc.gO) λn bK q=>?_;clear rc;subst bK;(dsimp only[FG];refine J ((aF q).2) ?_);exact e
theorem aa1:∀(Z:al) (i:G),MF Z i=yD Z i:=λZ i=>by cases i<;>rfl
theorem b9.yD(h:b9 W Vs Z)(e:yD Vs i=f hc):∃ x,MF Z i=f x/\VR W hc x:=by cases i with|ofNat n=>exact h.get e|negSucc n=>revert e;refine aZ (λq e=>?_) nS;refine ah (h.get e) λx N L=>aK x ?_ L;dsimp only[MF];(refine J (ai (by rw[h.length];exact q)) (J h.length ?_));exact N
theorem Ek(rx:VR (view j' Y) aj x)(ri:VR (view j' Y) I i)(e:mv aj I=f hc):∃ z,ic Y x i=f z/\VR (view j' Y) hc z:=by
 unfold mv at e;revert e;refine VC (λO O br bK e=>?_) (λO O br bK e=>?_) (λO O br bK e=>?_) (λO O br bK e=>?_);subst br;subst bK;rotate_left;subst br;subst bK;rotate_left;subst br;subst bK;rotate_left;subst br;subst bK;rotate_left
 .revert e;refine aZ (λq=>?_) nS;refine Ba (λv hv e=>?_);obtain rfl:=aw e;(refine J rx.bF ?_;refine J ri.bF ?_);exact⟨v,by dsimp only[ic];refine J (ai q) (J (aa1 _ _) ?_);exact hv,VR.b v⟩
 .revert e;refine aZ (λq e=>?_) nS;((refine ah (rx.bD) λZ bK s=>?_;clear rx;subst bK));refine J ri.bF (ah (s.yD e) λz N L=>?_);(exact aK z (by dsimp only[ic];(refine J (ai (by rw[s.length];exact q)) ?_);exact N) L)
 .revert e;refine aZ (λq e=>?_) nS;(refine aW (rx.cN) λn Z aL q1 s=>?_;clear rx;subst aL);refine J ri.bF (ah (s.yD e) λz N L=>?_);(exact aK z (by(dsimp only[ic];refine J ((aF q1).2) ?_;try dsimp only);(refine J (ai (by rw[s.length];exact q)) ?_);exact N) L)
 .revert e;refine fz (λk hk=>Ba (λv hv e=>?_));obtain rfl:=aw e;((refine ah (rx.gO) λn bK q=>?_;clear rx;subst bK));refine J ri.bF ?_;(exact aK v (by(dsimp only[ic];refine J ((aF q).2) ?_;refine J hk ?_;try dsimp only);exact hv) (VR.b v))
theorem nU(r:VR (view j' Y) hc v)(e:nT hc=f Z):jK Y v=f Z:=by
 dsimp only[nT]at e;revert e;refine MR (λO br e=>?_) (λO br e=>?_) (λO br e=>?_);subst br;rotate_left;subst br;rotate_left;subst br;rotate_left
 .obtain rfl:=aw e;exact J r.bF X
 .refine aW (r.cN) λn ys aL q s=>?_;clear r;subst aL;dsimp only[jK];(exact J ((aF q).2) (J (s.allB e) X))
 .obtain rfl:=aw e;refine ah (r.gO) λn bK q=>?_;clear r;subst bK;dsimp only[jK];exact J ((aF q).2) X
theorem b9.gi(h:b9 W [hc] Z):∃ x,Z=[x]/\VR W hc x:=by refine aW (h.cons_inv) λx r aL a s=>?_;clear h;subst aL;exact J s.nil_inv (aK x X a)
theorem b9.wa(h:b9 W [hc,U] Z):∃ x y,Z=[x,y]/\VR W hc x/\VR W U y:=by refine aW (h.cons_inv) λx r aL a s=>?_;subst aL;refine ah (s.gi) λy bK b=>?_;clear s h;subst bK;exact fI x y X a b
theorem R0(h:Ext Y ae)(hk:tD j' Y)(r:b9 (view j' ae) Vs Z)(e:tC k Vs=f hc):Out j' Y (Xd k) hc (je ae k Z):=by
 cases k with
 |abs=>dsimp only[tC]at e;revert e;refine MQ (λO br e=>?_);subst br;refine ah (r.gi) λx bK a=>?_;clear r;subst bK;obtain rfl:=aw e;exact J a.bF (Out.val h)
 |int=>dsimp only[tC]at e;revert e;refine MQ (λO br e=>?_);subst br;refine ah (r.gi) λx bK a=>?_;clear r;subst bK;obtain rfl:=aw e;exact J a.bF (Out.val h)
 |len=>
  dsimp only[tC]at e;revert e;refine Vz (λO br e=>?_) (λO br e=>?_) (λO br e=>?_);subst br;rotate_left;subst br;rotate_left;subst br;rotate_left
  .revert e;refine aZ (λq e=>?_) nS;refine ah (r.gi) λx bK a=>?_;clear r;subst bK;obtain rfl:=aw e;refine J a.bF ?_;dsimp only[je];exact J (ai q) (Out.val h)
  .revert e;refine aZ (λq e=>?_) nS;refine ah (r.gi) λx bK a=>?_;subst bK;refine aW (a.cN) λn ys aL q1 s=>?_;clear a r;subst aL;obtain rfl:=aw e;(dsimp only[je];refine J ((aF q1).2) ?_;try dsimp only);(refine J (ai (by rw[s.length];exact q)) (J s.length ?_));exact Out.val h
  .revert e;refine aZ (λq e=>?_) nS;refine ah (r.gi) λx bK a=>?_;subst bK;refine ah (a.gO) λn bK q1=>?_;clear a r;subst bK;obtain rfl:=aw e;(dsimp only[je];refine J ((aF q1).2) ?_;try dsimp only);exact J (ai q) (Out.val h)
 |list=>dsimp only[tC]at e;revert e;refine MT (λO br=>?_);subst br;refine aZ (λq e=>?_) nS;refine ah (r.gi) λx bK a=>?_;subst bK;refine aW (a.cN) λn ys aL q1 s=>?_;clear a r;subst aL;obtain rfl:=aw e;(dsimp only[je];refine J ((aF q1).2) ?_;try dsimp only);(refine J (ai (by rw[s.length];exact q)) ?_);exact Out.jx h hk s
 |tuple=>dsimp only[tC]at e;revert e;refine MT (λO br=>?_);subst br;refine aZ (λq e=>?_) nS;refine ah (r.gi) λx bK a=>?_;subst bK;refine aW (a.cN) λn ys aL q1 s=>?_;clear a r;subst aL;obtain rfl:=aw e;(dsimp only[je];refine J ((aF q1).2) ?_;try dsimp only);(refine J (ai (by rw[s.length];exact q)) ?_);exact Out.plain h (VR.pack s) (λe=>by exact fT e)
 |dict=>dsimp only[tC]at e;revert e;refine VA (λO br=>?_);subst br;refine aZ (λq e=>?_) nS;refine ah (r.gi) λx bK a=>?_;subst bK;refine ah (a.gO) λn bK q1=>?_;clear a r;subst bK;obtain rfl:=aw e;(dsimp only[je];refine J ((aF q1).2) ?_;try dsimp only);exact J (ai q) (Out.qd h hk)
 |sum=>dsimp only[tC]at e;revert e;refine A7 (λO br=>?_);subst br;refine d0 (λO hi=>gQ (λz hz e=>?_));refine ah (r.gi) λx bK a=>?_;clear r;subst bK;obtain rfl:=aw e;(dsimp only[je];refine J (nU a hi) ?_;try dsimp only;refine J hz ?_;try dsimp only);exact Out.val h
 |yH=>dsimp only[tC]at e;revert e;refine A7 (λO br=>?_);subst br;refine T3 (λO O hi=>gQ (λz hz e=>?_));refine ah (r.gi) λx bK a=>?_;clear r;subst bK;obtain rfl:=aw e;(dsimp only[je];refine J (nU a hi) ?_;try dsimp only;refine J hz ?_;try dsimp only);exact Out.val h
 |max2=>dsimp only[tC]at e;revert e;refine MS (λO O br e=>?_);subst br;refine aW (r.wa) λx y aL a b=>?_;clear r;subst aL;obtain rfl:=aw e;(refine J a.bF (J b.bF ?_));exact Out.val h
 |min2=>dsimp only[tC]at e;revert e;refine MS (λO O br e=>?_);subst br;refine aW (r.wa) λx y aL a b=>?_;clear r;subst aL;obtain rfl:=aw e;(refine J a.bF (J b.bF ?_));exact Out.val h
 |any=>dsimp only[tC]at e;revert e;refine A7 (λO br=>?_);subst br;refine d0 (λO hi=>si (λz hz e=>?_));refine ah (r.gi) λx bK a=>?_;clear r;subst bK;obtain rfl:=aw e;(dsimp only[je];refine J (nU a hi) ?_;try dsimp only;refine J hz ?_;try dsimp only);exact Out.val h
 |all=>dsimp only[tC]at e;revert e;refine A7 (λO br=>?_);subst br;refine d0 (λO hi=>si (λz hz e=>?_));refine ah (r.gi) λx bK a=>?_;clear r;subst bK;obtain rfl:=aw e;(dsimp only[je];refine J (nU a hi) ?_;try dsimp only;refine J hz ?_;try dsimp only);exact Out.val h
theorem KQ(h:Ext Y ae)(hk:tD j' Y)(rx:VR (view j' ae) aj x)(rk:VR (view j' ae) K k)(e:Al aj K=f hc):Out j' Y V hc (tI ae x k):=by
 unfold Al at e;revert e;refine VF (λO O br bK e=>?_) (λO O br bK e=>?_);subst br;subst bK;rotate_left;subst br;subst bK;rotate_left
 .revert e;refine aZ (λq e=>?_) nS;obtain rfl:=aw e;(refine J rx.bF (J rk.bF ?_));dsimp only[tI];exact J (ai q) (Out.val h)
 .revert e;refine aZ (λq e=>?_) nS;obtain rfl:=aw e;refine aW (rx.cN) λn ys aL q1 s=>?_;clear rx;subst aL;refine J rk.bF ?_;(dsimp only[tI];refine J ((aF q1).2) ?_;try dsimp only);(refine J (ai (by rw[s.length];exact q)) ?_);exact Out.jx h hk (s.take _)
theorem El(h:Ext Y ae)(hk:tD j' Y)(rx:VR (view j' ae) aj x)(rk:VR (view j' ae) K k)(e:sK aj K=f hc):Out j' Y V hc (oQ ae x k):=by unfold sK at e;revert e;refine VB (λO O br bK=>?_);subst br;subst bK;refine aZ (λq e=>?_) nS;obtain rfl:=aw e;refine aW (rx.cN) λn ys aL q1 s=>?_;clear rx;subst aL;refine J rk.bF ?_;(dsimp only[oQ];refine J ((aF q1).2) ?_;try dsimp only);(refine J (ai (by rw[s.length];exact q)) ?_);exact Out.jx h hk (s.drop _)
theorem Em(h:VR W hc v)(e:dR hc=f r):v.isNone=r:=by cases hc with|any=>exact nS e|b w=>refine J h.bF ?_;(dsimp only[dR]at e;simpa using e)|tup Vs=>(refine ah (h.bD) λZ aL O=>?_;clear h;subst aL);(dsimp only[dR]at e;simp at e);subst e;rfl|list Vs=>(refine eF (h.cN) λn Z aL O=>?_;clear h;subst aL);(dsimp only[dR]at e;simp at e);subst e;rfl|dict bJ=>(refine ah (h.gO) λn aL O=>?_;clear h;subst aL);(dsimp only[dR]at e;simp at e);subst e;rfl
end
def OB(W:Vw)(hc:PV)(o:AO):Prop:=match hc with|.list Vs=>∃ Z,o=.list Z/\b9 W Vs Z|.dict bJ=>o=.dict bJ|_=>False
def GA(F:Fn)(P:gz):Prop:=∀(Y:St) (j':jT) (as:al) (Vs:aC) (hc:PV),WF Y->tD j' Y->b9 (view j' Y) Vs as->P.fn Vs=f hc->Out j' Y P.fr hc (F Y as)
abbrev MO(r:jq)(j':jT)(n:a_)(V':PV)(Y:St):Prop:=∃ T' o',r=f (T',.none)/\WF T'/\Y.n<=T'.n/\T'.getM n=f o'/\OB (view j' T') V' o'/\∀ i,i<Y.n->i≠n->T'.ent i=Y.ent i
def Xf(F:Fn)(P:gz):Prop:=∀(Y:St) (j':jT) (n:a_) (o:AO) (as:al) (hc V':PV) (Vs:aC),WF Y->tD j' Y->j' n=V->Y.getM n=f o->OB (view j' Y) hc o->b9 (view j' Y) Vs as->P.fn (hc::Vs)=f V' ->
 MO (F Y (.ref n::as)) j' n V' Y
def KC(F:Fn)(P:gz):Prop:=match P.mu with|V=>Xf F P|N'=>GA F P
section
variable{W:Vw}{j':jT}{Y T' da ae aq bo:St}{C:al}{M:aC}
abbrev Qq(c:CE):Prop:=∀(Y:St) (j':jT) (C:al) (M:aC) (hc:PV),WF Y->tD j' Y->Sl (view j' Y) (λi=>eN i c=V) M C->ax c M=f hc->Out j' Y (fresh c) hc (ev c Y C)
def PS(c:CE):Prop:=bO KC c->Qq c
theorem vm(pa:Qq a)(pb:Qq b)(h:WF Y)(hk:tD j' Y)(s:Sl (view j' Y) (λi=>(eN i a||eN i b)=V) M C)(ea:ax a M=f A)(eb:ax b M=f ha) :
  ∃ ae aq x y,ev a Y C=f (ae,x)/\ev b ae C=f (aq,y)/\Ext Y aq/\VR (view j' aq) A x/\VR (view j' aq) ha y:=by
 refine bA (pa Y j' C M A h hk (s.sub λi q=>by simp[q]) ea) λae x e1 x1 r1 O=>?_;refine bA (pb ae j' C M ha x1.wf (hk.ext x1) ((s.mono (x1.view h)).sub λi q=>by simp[q]) eb) λaq y e2 x2 r2 O=>?_;exact Zv ae aq x y e1 e2 (x1.trans x2) (r1.mono (x2.view x1.wf)) r2
theorem e_k(v:AV):PS (.k v):=λO Y j' C M hc h hk s e=>by dsimp only[ax]at e;rw[dQ]at e;subst e;exact Out.val (Ext.refl h)
theorem Xg(x:Y?)(v:AV):PS (.glob x v):=λO Y j' C M hc h hk s e=>by dsimp only[ax]at e;rw[dQ]at e;subst e;exact Out.val (Ext.refl h)
theorem vv{x hc:PV}(e:(match x with|.any=>R|.b .ub=>R|v=>f v)=f hc):x=hc/\x≠.any/\x≠.b .ub:=by cases x with|any=>exact nS e|b w=>(cases w<;>first|exact nS e|exact⟨aw e,nofun,nofun⟩)|_=>exact⟨aw e,nofun,nofun⟩
theorem R8(N:bf M i≠.any)(L:bf M i≠.b .ub):ax (.var i) M=f (bf M i):=by show(match bf M i with|.any=>R|.b .ub=>R|v=>f v)=_;cases h:bf M i with|any=>exact g_ h N|b w=>(cases w<;>first|rfl|exact g_ h L)|_=>rfl
theorem Xh(h:ao C i≠.ub):ev (.var i) Y C=f (Y,ao C i):=by show(match ao C i with|.ub=>R|v=>f (Y,v))=_;cases hx:ao C i<;>first|rfl|exact g_ hx h
theorem aa2(i:a_):PS (.var i):=λO Y j' C M hc h hk s e=>by
 have hr:=s.2 i (by(dsimp only[eN];simp));refine dH (vv e) λaL n1 n2=>?_;clear e;subst aL;have nu:ao C i≠.ub:=λq=>by rw[q]at hr;cases hv:bf M i with|any=>exact n1 hv|b w=>rw[hv]at hr;have:=hr.bF;clear hr;subst this;exact n2 hv|tup O=>(rw[hv]at hr;(refine ah (hr.bD) λO q O=>?_);cases q)|list O=>(rw[hv]at hr;(refine eF (hr.cN) λO O q O=>?_);cases q)|dict O=>rw[hv]at hr;(refine ah (hr.gO) λO q O=>?_);cases q
 refine J (Xh nu) ?_;exact Out.plain (Ext.refl h) hr λq=>by exact fT q
theorem aa3(B:PS a)(hb:PS b):PS (.bin o a b):=λK Y j' C M hc h hk s e=>by revert e;refine cc (λA ea=>cc (λha eb e=>r8 (vm (B K.1) (hb K.2) h hk s ea eb) λae aq x y e1 e2 x2 r1 r2=>?_));(dsimp only[ev];(refine J e1 ?_;try dsimp only;refine J e2 ?_;try dsimp only));exact Ol x2 hk r1 r2 e
theorem aa4(B:PS a):PS (.neg a):=λK Y j' C M hc h hk s e=>by revert e;refine A8 (λi ea e=>?_);obtain rfl:=aw e;refine bA (B K Y j' C M _ h hk s ea) λae x e1 x1 r1 O=>?_;rw[r1.bF]at e1;dsimp only[ev];refine J e1 ?_;exact Out.val x1
theorem aa5(B:PS a):PS (.not a):=λK Y j' C M hc h hk s e=>by revert e;refine VH (λi ea e=>?_);obtain rfl:=aw e;refine bA (B K Y j' C M _ h hk s ea) λae x e1 x1 r1 O=>?_;rw[r1.bF]at e1;dsimp only[ev];refine J e1 ?_;exact Out.val x1
theorem aa6(B:PS a)(hb:PS b):PS (.cmp o a b):=λK Y j' C M hc h hk s e=>by revert e;refine cc (λA ea=>cc (λha eb=>eI (λr er e=>?_)));obtain rfl:=aw e;refine r8 (vm (B K.1) (hb K.2) h hk s ea eb) λae aq x y e1 e2 x2 r1 r2=>?_;(dsimp only[ev];(refine J e1 ?_;try dsimp only;refine J e2 ?_;try dsimp only;refine J (Om r1 r2 er) ?_;try dsimp only));exact Out.val x2
theorem Oo(B:PS a):PS (.isNone y a):=λK Y j' C M hc h hk s e=>by revert e;refine cc (λA ea=>eI (λr er e=>?_));obtain rfl:=aw e;refine bA (B K Y j' C M _ h hk s ea) λae x e1 x1 r1 O=>?_;(dsimp only[ev];(refine J e1 ?_;try dsimp only;refine J (Em r1 er) ?_;try dsimp only));exact Out.val x1
theorem Xi(B:PS a)(hb:PS b):PS (.isin y a b):=λK Y j' C M hc h hk s e=>by revert e;refine cc (λA ea=>cc (λha eb=>eI (λr er e=>?_)));obtain rfl:=aw e;refine r8 (vm (B K.1) (hb K.2) h hk s ea eb) λae aq x y e1 e2 x2 r1 r2=>?_;(dsimp only[ev];(refine J e1 ?_;try dsimp only;refine J e2 ?_;try dsimp only;refine J (RZ r1 r2 er) ?_;try dsimp only));exact Out.val x2
theorem aa7(B:PS a)(hb:PS b):PS (.and a b):=λK Y j' C M hc h hk s e=>by
 revert e;refine tJ (λea e=>?_) (λea e=>?_)
 .refine bA (B K.1 Y j' C M _ h hk (s.sub λi q=>by(dsimp only[eN];simp[q])) ea) λae x e1 x1 r1 O=>?_;rw[r1.bF]at e1;dsimp only[ev];refine J e1 ?_;exact((hb K.2 ae j' C M hc x1.wf (hk.ext x1) ((s.mono (x1.view h)).sub λi q=>by(dsimp only[eN];simp[q])) e).after x1).weak λq=>by exact fT q
 .refine bA (B K.1 Y j' C M _ h hk (s.sub λi q=>by(dsimp only[eN];simp[q])) ea) λae x e1 x1 r1 O=>?_;obtain rfl:=aw e;rw[r1.bF]at e1;dsimp only[ev];refine J e1 ?_;exact Out.val x1
theorem aeJ(B:PS a)(hb:PS b):PS (.or a b):=λK Y j' C M hc h hk s e=>by
 revert e;refine VG (λea e=>?_) (λea e=>?_)
 .refine bA (B K.1 Y j' C M _ h hk (s.sub λi q=>by(dsimp only[eN];simp[q])) ea) λae x e1 x1 r1 O=>?_;rw[r1.bF]at e1;dsimp only[ev];refine J e1 ?_;exact((hb K.2 ae j' C M hc x1.wf (hk.ext x1) ((s.mono (x1.view h)).sub λi q=>by(dsimp only[eN];simp[q])) e).after x1).weak λq=>by exact fT q
 .refine bA (B K.1 Y j' C M _ h hk (s.sub λi q=>by(dsimp only[eN];simp[q])) ea) λae x e1 x1 r1 O=>?_;obtain rfl:=aw e;rw[r1.bF]at e1;dsimp only[ev];refine J e1 ?_;exact Out.val x1
theorem aa8(ht:PS t)(B:PS a)(hb:PS b):PS (.ite t a b):=λK Y j' C M hc h hk s e=>by
 revert e;refine tJ (λea e=>?_) (λea e=>?_)
 .refine bA (ht K.1 Y j' C M _ h hk (s.sub λi q=>by(dsimp only[eN];simp[q])) ea) λae x e1 x1 r1 O=>?_;rw[r1.bF]at e1;dsimp only[ev];refine J e1 ?_;exact((B K.2.1 ae j' C M hc x1.wf (hk.ext x1) ((s.mono (x1.view h)).sub λi q=>by(dsimp only[eN];simp[q])) e).after x1).weak λq=>by(dsimp only[fresh]at q;simp at q);exact q.1
 .refine bA (ht K.1 Y j' C M _ h hk (s.sub λi q=>by(dsimp only[eN];simp[q])) ea) λae x e1 x1 r1 O=>?_;rw[r1.bF]at e1;dsimp only[ev];refine J e1 ?_;exact((hb K.2.2 ae j' C M hc x1.wf (hk.ext x1) ((s.mono (x1.view h)).sub λi q=>by(dsimp only[eN];simp[q])) e).after x1).weak λq=>by(dsimp only[fresh]at q;simp at q);exact q.2
theorem Xj(B:PS as):PS (.call K' F P as):=λK Y j' C M hc h hk s e=>by refine ib λGq zq=>?_;revert e;refine zT nS λhm e=>?_;revert e;refine q0 (λVs ea e=>?_);refine bA (B K.2 Y j' C M _ h hk s ea) λae x e1 x1 r1 O=>?_;refine ah (r1.bD) λZ bK rs=>?_;clear r1;subst bK;refine zq ?_;clear zq;dsimp only[ev];refine J e1 ?_;have U':=K.1;dsimp only[KC]at U';rw[hm]at U';exact(U' ae j' Z Vs hc x1.wf (hk.ext x1) rs e).after x1
theorem aeK(B:PS as):PS (.bi k as):=λK Y j' C M hc h hk s e=>by revert e;refine q0 (λVs ea e=>?_);refine bA (B K Y j' C M _ h hk s ea) λae x e1 x1 r1 O=>?_;refine ah (r1.bD) λZ bK rs=>?_;clear r1;subst bK;dsimp only[ev];refine J e1 ?_;exact R0 x1 hk rs e
theorem aa9(B:PS a)(hb:PS b):PS (.idx a b):=λK Y j' C M hc h hk s e=>by revert e;refine cc (λA ea=>cc (λha eb e=>r8 (vm (B K.1) (hb K.2) h hk s ea eb) λae aq x y e1 e2 x2 r1 r2=>ah (Ek r1 r2 e) λz N L=>?_));(dsimp only[ev];(refine J e1 ?_;try dsimp only;refine J e2 ?_;try dsimp only;refine J N ?_;try dsimp only));exact Out.plain x2 L λq=>by exact fT q
theorem Xk(B:PS a)(hb:PS b):PS (.gK a b):=λK Y j' C M hc h hk s e=>by revert e;refine cc (λA ea=>cc (λha eb e=>r8 (vm (B K.1) (hb K.2) h hk s ea eb) λae aq x y e1 e2 x2 r1 r2=>?_));(dsimp only[ev];(refine J e1 ?_;try dsimp only;refine J e2 ?_;try dsimp only));exact KQ x2 hk r1 r2 e
theorem Oq(B:PS a)(hb:PS b):PS (.fu a b):=λK Y j' C M hc h hk s e=>by revert e;refine cc (λA ea=>cc (λha eb e=>r8 (vm (B K.1) (hb K.2) h hk s ea eb) λae aq x y e1 e2 x2 r1 r2=>?_));(dsimp only[ev];(refine J e1 ?_;try dsimp only;refine J e2 ?_;try dsimp only));exact El x2 hk r1 r2 e
theorem Xl(B:PS as):PS (.bc as):=λK Y j' C M hc h hk s e=>by revert e;refine q0 (λVs ea e=>?_);obtain rfl:=aw e;refine bA (B K Y j' C M _ h hk s ea) λae x e1 x1 r1 O=>?_;refine ah (r1.bD) λZ bK rs=>?_;clear r1;subst bK;dsimp only[ev];refine J e1 ?_;exact Out.plain x1 (VR.pack rs) λq=>by exact fT q
theorem aba(B:PS as):PS (.lst as):=λK Y j' C M hc h hk s e=>by revert e;refine q0 (λVs ea e=>?_);obtain rfl:=aw e;refine bA (B K Y j' C M _ h hk s ea) λae x e1 x1 r1 O=>?_;refine ah (r1.bD) λZ bK rs=>?_;clear r1;subst bK;dsimp only[ev];refine J e1 ?_;exact Out.jx x1 hk rs
theorem R9:PS .gA:=λK Y j' C M hc h hk s e=>by dsimp only[ax]at e;rw[dQ]at e;subst e;exact Out.qd (Ext.refl h) hk
theorem Sa(B:PS a)(hb:PS b):PS (.kZ a b):=λK Y j' C M hc h hk s e=>by revert e;refine MU (λkt ea=>oR (λy eb=>fz (λks IX e=>?_)));obtain rfl:=aw e;refine r8 (vm (B K.1) (hb K.2) h hk s ea eb) λae aq x y e1 e2 x2 r1 r2=>?_;rw[r1.bF]at e1;rw[r2.bF]at e2;(dsimp only[ev];(refine J e1 ?_;try dsimp only;refine J e2 ?_;refine J IX ?_;try dsimp only));exact Out.qd x2 hk
theorem abb:PS .nil:=λK Y j' C M hc h hk s e=>by dsimp only[ax]at e;rw[dQ]at e;subst e;exact Out.plain (Ext.refl h) (VR.tup b9.nil) λq=>by exact fT q
theorem Xm(B:PS a)(hb:PS b):PS (.cons a b):=λK Y j' C M hc h hk s e=>by revert e;refine cc (λA ea=>q0 (λVs eb e=>?_));obtain rfl:=aw e;refine r8 (vm (B K.1) (hb K.2) h hk s ea eb) λae aq x y e1 e2 x2 r1 r2=>?_;refine ah (r2.bD) λZ bK rs=>?_;clear r2;subst bK;(dsimp only[ev];(refine J e1 ?_;try dsimp only;refine J e2 ?_;try dsimp only));exact Out.plain x2 (VR.tup (b9.cons r1 rs)) λq=>by exact fT q
theorem abc:PS .bad:=λK Y j' C M hc h hk s e=>by exact nS e
theorem Jc{K':St->AV->af (St × al)}{g:PV->af (aC)}(hf:∀ ae aj x Ys,Ext da ae->VR (view j' ae) aj x->g aj=f Ys->∃ aq ys,K' ae x=f (aq,ys)/\Ext ae aq/\b9 (view j' aq) Ys ys) :
  ∀(Xs:aC) (Z:al) (ae:St) (Ys:aC),Ext da ae->b9 (view j' ae) Xs Z->lz g Xs=f Ys->∃ aq ys,rj K' Z ae=f (aq,ys)/\Ext ae aq/\b9 (view j' aq) Ys ys:=by
 intro w';induction w' with|nil=>intro O ae Ys x r e;refine J r.nil_inv ?_;dsimp only[lz]at e;rw[dQ]at e;subst e;exact fI ae ([]) X (Ext.refl x.wf) b9.nil|cons aj Xs ih=>intro O ae Ys x r e;refine aW (r.cons_inv) λy ys aL r1 rs=>?_;clear r;subst aL;revert e;refine di (λA ea=>di (λha eb e=>?_));obtain rfl:=aw e;exact aW (hf ae aj y A x r1 ea) λaq us N L h3=>aW (ih ys aq ha (x.trans L) (rs.mono (L.view x.wf)) eb) λbo ws h4 h5 h6=>⟨bo,us++ws,by(dsimp only[rj];refine J N ?_;try dsimp only;exact J h4 X),L.trans h5,(h3.mono (h5.view L.wf)).append h6⟩
theorem Sb{K':St->AV->af (St × aA × AV)}{g:PV->af (aA × AV)}(hf:∀ ae aj x k v,Ext da ae->VR (view j' ae) aj x->g aj=f (k,v)->∃ aq,K' ae x=f (aq,k,v)/\Ext ae aq) :
  ∀(Xs:aC) (Z:al) (ae:St) (G' bJ:dc),Ext da ae->b9 (view j' ae) Xs Z->Am g Xs G'=f bJ->∃ aq,By K' Z ae G'=f (aq,bJ)/\Ext ae aq:=by
 intro w';induction w' with|nil=>intro O ae G' bJ x r e;refine J r.nil_inv ?_;dsimp only[Am]at e;rw[dQ]at e;subst e;exact aK ae X (Ext.refl x.wf)|cons aj Xs ih=>intro O ae G' bJ x r e;refine aW (r.cons_inv) λy ys aL r1 rs=>?_;clear r;subst aL;refine ib λGq zq=>?_;revert e;refine M7 (λk v ea e=>ah (hf ae aj y k v x r1 ea) λaq N L=>ah (ih ys aq _ bJ (x.trans L) (rs.mono (L.view x.wf)) e) λbo h4 h5=>?_);refine zq ?_;clear zq;exact⟨bo,by(dsimp only[By];refine J N ?_;try dsimp only;exact J h4 X),L.trans h5⟩
theorem sP{r:jq}{iv hc:ft}{ik:tG}{K':St->AV->af (St × al)}{g:PV->af (aC)}{A hc:PV}{x:AV}(hx:Ext Y ae)(hk:tD j' Y)(ra:VR (view j' ae) A x)(hf:∀ da,WF da->da.n=ae.n->(∀ i,da.get i=ae.get i)->∀ aq aj x Ys,Ext da aq->VR (view j' aq) aj x->g aj=f Ys->∃ bo ys,K' aq x=f (bo,ys)/\Ext aq bo/\b9 (view j' bo) Ys ys)(e:rA (f A) ik g=f hc):Out j' Y V hc (lV (f (ae,x)) ik K'):=by
 revert e;refine di (λXs hi=>di (λYs hm=>aZ (λoH e=>?_) nS));obtain rfl:=aw e;refine aW (Jb ra hi) λZ lk N L h3=>?_;refine aW (BX (K':=rj K' Z) (xs:=λY ys=>b9 (view j' Y) Ys ys) hx.wf h3 (λa b c q r=>by rwa [cY q]) λda w1 w2 w3=>Jc (j':=j') (hf da w1 w2 w3) Xs Z da Ys (Ext.refl w1) (by exact J (cY w3) L) hm) λbo ys k1 k2 k3=>?_;(dsimp only[lV];(refine J N ?_;try dsimp only;refine J k1 ?_;try dsimp only));refine J (ai (by rw[k3.length];exact oH)) ?_;exact Out.jx (hx.trans k2) hk k3
theorem Ot{K':St->AV->af (St × aA × AV)}{g:PV->af (aA × AV)}(hx:Ext Y ae)(hk:tD j' Y)(ra:VR (view j' ae) A x)(hf:∀ da,WF da->da.n=ae.n->(∀ i,da.get i=ae.get i)->∀ aq aj x k v,Ext da aq->VR (view j' aq) aj x->g aj=f (k,v)->∃ bo,K' aq x=f (bo,k,v)/\Ext aq bo)(e:BR (f A) ik g=f hc):Out j' Y V hc (DI (f (ae,x)) ik K'):=by
 revert e;refine di (λXs hi=>aZ (λoH=>?_) nS);refine Dn (λbJ hm=>aZ (λabd e=>?_) nS);obtain rfl:=aw e;refine aW (Jb ra hi) λZ lk N L h3=>?_;obtain⟨bo,ys,k1,k2,k3⟩:=BX (K':=λs0=>By K' Z s0 []) (xs:=λY ys=>ys=bJ) hx.wf h3 (λa b c q r=>r) λda w1 w2 w3=>by refine ah (Sb (j':=j') (hf da w1 w2 w3) Xs Z da [] bJ (Ext.refl w1) (by exact J (cY w3) L) hm) λaq h4 h5=>?_;exact fI aq bJ h4 h5 X
 clear hm e;subst k3;(dsimp only[DI];refine J N ?_;try dsimp only);refine J (ai (by rw[L.length];exact oH)) ?_;(refine J k1 ?_;try dsimp only[Nx]);exact J (ai abd) (Out.qd (hx.trans k2) hk)
theorem GC(hg:Qq g)(h:WF Y)(hk:tD j' Y)(s:Sl (view j' Y) (λi=>eN i g=V) M C)(r:VR (view j' Y) aj x)(e:Eg (ax g) C' M aj=f Ys) :
  ∃ aq ys,one (ev g) C' C Y x=f (aq,ys)/\Ext Y aq/\b9 (view j' aq) Ys ys:=by
 refine Dh λGq kq=>?_;revert e;refine di (λvs2 hb=>cc (λσ ey e=>?_));obtain rfl:=aw e;refine ah (s.dw r hb) λeH N L=>?_;refine bA (hg Y j' eH vs2 σ h hk L ey) λaq y h3 h4 h5 O=>?_;exact kq aq ([y]) (by(dsimp only[one];refine J N ?_;try dsimp only;exact J h3 X)) h4 (b9.cons h5 b9.nil)
theorem Ou(U':Qq c)(hg:Qq g)(h:WF Y)(hk:tD j' Y)(s:Sl (view j' Y) (λi=>(eN i g||eN i c)=V) M C)(r:VR (view j' Y) aj x)(e:rz (ax c) (ax g) C' M aj=f Ys):∃ aq ys,z6 (ev c) (ev g) C' C Y x=f (aq,ys)/\Ext Y aq/\b9 (view j' aq) Ys ys:=by
 refine Dh λGq kq=>?_;revert e;refine di (λvs2 hb e=>ah (s.dw r hb) λeH N L=>?_);revert e;refine tJ (λec e=>?_) (λec e=>?_)
 .revert e;refine cc (λσ ey e=>?_);obtain rfl:=aw e;refine bA (U' Y j' eH vs2 _ h hk (L.sub λi q=>by simp[q]) ec) λae y h3 h4 h5 O=>?_;rw[h5.bF]at h3;refine bA (hg ae j' eH vs2 σ h4.wf (hk.ext h4) ((L.mono (h4.view h)).sub λi q=>by simp[q]) ey) λaq z h6 h7 h8 O=>?_;exact kq aq ([z]) (by(dsimp only[z6];refine J N ?_;try dsimp only;refine J h3 ?_;try dsimp only;exact J h6 X)) (h4.trans h7) (b9.cons h8 b9.nil)
 .obtain rfl:=aw e;refine bA (U' Y j' eH vs2 _ h hk (L.sub λi q=>by simp[q]) ec) λae y h3 h4 h5 O=>?_;rw[h5.bF]at h3;exact kq ae ([]) (by(dsimp only[z6,N,h3];refine J N ?_;dsimp only[z6,N,h3];refine J h3 ?_;dsimp only[z6,N,h3])) h4 b9.nil
theorem Xn(hi:Qq qK)(hg:Qq g)(h:WF Y)(hk:tD j' Y)(s:Sl (view j' Y) (λi=>(eN i g||eN i qK)=V) M C)(r:VR (view j' Y) aj x)(e:Xc (ax qK) tH (ax g) C' tgt2 M aj=f Ys):∃ aq ys,two (ev qK) tH (ev g) C' tgt2 C Y x=f (aq,ys)/\Ext Y aq/\b9 (view j' aq) Ys ys:=by
 refine Dh λGq kq=>?_;revert e;refine di (λvs2 hb e=>ah ((s.clear tgt2).dw r hb) λeH N L=>?_);revert e;refine cc (λA ea=>di (λXs hx e=>?_));refine bA (hi Y j' eH vs2 A h hk (L.sub λi q=>by simp[q]) ea) λae y h3 h4 h5 O=>?_;refine aW (Jb h5 hx) λZ lk k1 k2 k3=>?_;have s1:Sl (view j' ae) (λi=>eN i g=V) vs2 eH:=(L.mono (h4.view h)).sub λi q=>by simp[q]
 obtain⟨bo,ys,m1,m2,m3⟩:=BX (K':=rj (one (ev g) tgt2 eH) Z) (xs:=λY ys=>b9 (view j' Y) Ys ys) h4.wf k3 (λa b c q r=>by rwa [cY q]) λda w1 w2 w3=>
  Jc (j':=j') (λaq aj x Ys x2 rx ex=>GC hg x2.wf (λn q=>eE (hk.ext h4 n q) (by exact dT w2 x2.le)) (s1.mono λn o q=>x2.view w1 n o (by exact J (cY w3) q)) rx ex)
   Xs Z da Ys (Ext.refl w1) (by exact J (cY w3) k2) e
 exact kq bo ys (by(dsimp only[two];refine J N ?_;try dsimp only;refine J h3 ?_;try dsimp only;refine J k1 ?_;try dsimp only;exact J m1 X)) (h4.trans m2) m3
theorem Sd(WM:Qq k)(hg:Qq g)(h:WF Y)(hk:tD j' Y)(s:Sl (view j' Y) (λi=>(eN i k||eN i g)=V) M C)(r:VR (view j' Y) aj x)(e:xC (ax k) (ax g) C' M aj=f (kk,v)):∃ aq,Rl (ev k) (ev g) C' C Y x=f (aq,kk,v)/\Ext Y aq:=by
 refine ib λGq zq=>?_;revert e;refine di (λvs2 hb e=>ah (s.dw r hb) λeH N L=>?_);revert e;refine MU (λkt ec=>oR (λσ ey=>fz (λks IX e=>?_)));refine zq ?_;clear zq;refine gJ e ?_;refine bA (WM Y j' eH vs2 _ h hk (L.sub λi q=>by simp[q]) ec) λae y h3 h4 h5 O=>?_;rw[h5.bF]at h3;refine bA (hg ae j' eH vs2 _ h4.wf (hk.ext h4) ((L.mono (h4.view h)).sub λi q=>by simp[q]) ey) λaq z h6 h7 h8 O=>?_;rw[h8.bF]at h6;exact⟨aq,by(dsimp only[Rl];refine J N ?_;try dsimp only;refine J h3 ?_;try dsimp only;refine J h6 ?_;exact J IX X),h4.trans h7⟩
theorem Se{x it:CE}{C':cj}{ik:tG}(hx:PS x)(hi:PS it):PS (.bq x C' ik it):=λK Y j' C M hc h hk s e=>by dsimp only[ax]at e;cases ea:ax it M with|none=>rw[ea]at e;exact nS e|some A=>
  rw[ea]at e;refine bA (hi K.2 Y j' C M A h hk (s.sub λi q=>by(dsimp only[eN];simp[q])) ea) λae y h3 h4 h5 O=>?_;dsimp only[ev];refine J h3 ?_;have s1:Sl (view j' ae) (λi=>eN i x=V) M C:=(s.mono (h4.view h)).sub λi q=>by(dsimp only[eN];simp[q])
  exact sP (iv:=.none) (hc:=.none) (r:=.none) h4 hk h5 (λda w1 w2 w3 aq aj z Ys x2 rx ex=>GC (hx K.1) x2.wf (λn q=>eE (hk.ext h4 n q) (by exact dT w2 x2.le)) (s1.mono λn o q=>x2.view w1 n o (by exact J (cY w3) q)) rx ex) e
theorem KR{x it c:CE}{C':cj}{ik:tG}(hx:PS x)(hi:PS it)(U':PS c):PS (.bR x C' ik it c):=λK Y j' C M hc h hk s e=>by dsimp only[ax]at e;cases ea:ax it M with|none=>rw[ea]at e;exact nS e|some A=>
  rw[ea]at e;refine bA (hi K.2.1 Y j' C M A h hk (s.sub λi q=>by(dsimp only[eN];simp[q])) ea) λae y h3 h4 h5 O=>?_;dsimp only[ev];refine J h3 ?_;have s1:Sl (view j' ae) (λi=>(eN i x||eN i c)=V) M C:=(s.mono (h4.view h)).sub λi q=>by(dsimp only[eN]at q ⊢;simp only[qx]at q ⊢);rcases q with q|q<;>simp[q]
  exact sP (iv:=.none) (hc:=.none) (r:=.none) h4 hk h5 (λda w1 w2 w3 aq aj z Ys x2 rx ex=>Ou (U' K.2.2) (hx K.1) x2.wf (λn q=>eE (hk.ext h4 n q) (by exact dT w2 x2.le)) (s1.mono λn o q=>x2.view w1 n o (by exact J (cY w3) q)) rx ex) e
theorem Ov{x it qK:CE}{C' tgt2:cj}{ik tH:tG}(hx:PS x)(hi:PS it)(RE:PS qK):PS (.dJ x C' ik it tgt2 tH qK):=λK Y j' C M hc h hk s e=>by dsimp only[ax]at e;cases ea:ax it M with|none=>rw[ea]at e;exact nS e|some A=>
  rw[ea]at e;refine bA (hi K.2.1 Y j' C M A h hk (s.sub λi q=>by(dsimp only[eN];simp[q])) ea) λae y h3 h4 h5 O=>?_;dsimp only[ev];refine J h3 ?_;have s1:Sl (view j' ae) (λi=>(eN i x||eN i qK)=V) M C:=(s.mono (h4.view h)).sub λi q=>by(dsimp only[eN]at q ⊢;simp only[qx]at q ⊢);rcases q with q|q<;>simp[q]
  exact sP (iv:=.none) (hc:=.none) (r:=.none) h4 hk h5 (λda w1 w2 w3 aq aj z Ys x2 rx ex=>Xn (RE K.2.2) (hx K.1) x2.wf (λn q=>eE (hk.ext h4 n q) (by exact dT w2 x2.le)) (s1.mono λn o q=>x2.view w1 n o (by exact J (cY w3) q)) rx ex) e
theorem Sf(WM:PS k)(hx:PS x)(hi:PS it):PS (.jU k x C' ik it):=λK Y j' C M hc h hk s e=>by dsimp only[ax]at e;cases ea:ax it M with|none=>rw[ea]at e;exact nS e|some A=>
  rw[ea]at e;refine bA (hi K.2.2 Y j' C M A h hk (s.sub λi q=>by(dsimp only[eN];simp[q])) ea) λae y h3 h4 h5 O=>?_;dsimp only[ev];refine J h3 ?_;have s1:Sl (view j' ae) (λi=>(eN i k||eN i x)=V) M C:=(s.mono (h4.view h)).sub λi q=>by(dsimp only[eN]at q ⊢;simp only[qx]at q ⊢);rcases q with q|q<;>simp[q]
  exact Ot h4 hk h5 (λda w1 w2 w3 aq aj z kk v x2 rx ex=>Sd (WM K.1) (hx K.2.1) x2.wf (λn q=>eE (hk.ext h4 n q) (by exact dT w2 x2.le)) (s1.mono λn o q=>x2.view w1 n o (by exact J (cY w3) q)) rx ex) e
theorem jy:∀ c:CE,PS c:=by intro c;induction c with|k v=>exact e_k v|glob x v=>exact Xg x v|var i=>exact aa2 i|bin o a b B hb=>exact aa3 B hb|neg a B=>exact aa4 B|cmp o a b B hb=>exact aa6 B hb|isNone y a B=>exact Oo B|isin y a b B hb=>exact Xi B hb|and a b B hb=>exact aa7 B hb|or a b B hb=>exact aeJ B hb|not a B=>exact aa5 B|ite t a b ht B hb=>exact aa8 ht B hb|call K' F P as B=>exact Xj B|bi k as B=>exact aeK B|idx a b B hb=>exact aa9 B hb|gK a b B hb=>exact Xk B hb|fu a b B hb=>exact Oq B hb|bc as B=>exact Xl B|lst as B=>exact aba B|gA=>exact R9|kZ a b B hb=>exact Sa B hb|bq x C' ik it hx hi=>exact Se hx hi|bR x C' ik it c hx hi U'=>exact KR hx hi U'|dJ x C' ik it tgt2 tH qK hx hi RE=>exact Ov hx hi RE|jU k v C' ik it WM hx hi=>exact Sf WM hx hi|bad=>exact abc|nil=>exact abb|cons a b B hb=>exact Xm B hb
end
structure FR(mu:cj)(Y:St)(j' aj:jT)(C:al)(M:aC):Prop where
 len:M.length<=C.length
 xh:∀ n,aj n=V->j' n=V
 hk:tD j' Y
 pl:∀ i,mu.contains i=N'->VR (view j' Y) (bf M i) (ao C i)
 ow:∀ i,mu.contains i=V->bf M i≠.any->∃ n o,ao C i=.ref n/\j' n=V/\aj n=N'/\Y.getM n=f o/\OB (view j' Y) (bf M i) o
 ap:∀ i j n,mu.contains i=V->mu.contains j=V->bf M i≠.any->bf M j≠.any->ao C i=.ref n->ao C j=.ref n->i=j
structure XP(mu:cj)(Y T':St)(j' H' aj:jT)(bh:al)(eV:aC):Prop where
 wf:WF T'
 le:Y.n<=T'.n
 fr:FR mu T' H' aj bh eV
 hh:∀ n,H' n=V->j' n=V\/Y.n<=n
 kp:∀ i,i<Y.n->(j' i=N'\/aj i=V)->T'.ent i=Y.ent i
def Qr(k:a_)(fr:e_)(aj:jT)(Y:St):kS->Fl->Prop|.next,.next=>j?|.cont,.cont=>j?|.ret hc,.ret z=>VR (view aj Y) hc z/\(fr=V->Fr k (view aj Y) Y hc z)|O,O'=>False
section
variable{mu:cj}{W W':Vw}{j' H' Ow Sg aj:jT}{Y T' da ae aq bo:St}{C bh vo xF:al}{M eV Ox Jd:aC}{k:a_}
theorem OB.mono(h:∀ n o,W n=f o->W' n=f o)(q:OB W hc o):OB W' hc o:=by cases hc with|list Vs=>(obtain⟨Z,e,r⟩:=q;exact aK Z e (r.mono h))|dict bJ=>exact q|_=>exact q.elim
theorem OB.vr(q:OB W hc o)(h:W n=f o):VR W hc (.ref n):=by cases hc with|list Vs=>(obtain⟨Z,rfl,r⟩:=q;exact VR.list h r)|dict bJ=>(cases q;exact VR.dict h)|_=>exact q.elim
theorem cZ(h:Y.getM n=f o):Y.get n=f o:=gV (fm h)
theorem FR.Oy(F:FR mu Y j' aj C M)(h:fw mu c=N'):Sl (view j' Y) (λi=>eN i c=V) M C:=by refine⟨F.len,λi hi=>F.pl i ?_⟩;cases q:mu.contains i with|false=>rfl|true=>
  have:fw mu c=V:=by exact J (propext L7) (aK i (by simpa using q) hi)
  rw[h]at this;exact fT this
theorem FR.vt(F:FR mu Y j' aj C M){P:a_->Prop}:Sl (view aj Y) P M C:=by refine⟨F.len,λi O=>?_⟩;cases q:mu.contains i with|false=>exact(F.pl i q).mono (nc F.xh)|true=>cases hv:bf M i with|any=>exact VR.any|_=>refine fg (F.ow i q (by refine J hv ?_;intro x;cases x)) λn o e N L h3 h4=>?_;refine J e (dT hv ?_);exact(h4.mono (nc F.xh)).vr (dy L (cZ h3))
theorem FR.xk(F:FR mu Y j' aj C M):tD aj Y:=λn h=>F.hk n (F.xh n h)
theorem FR.ext(F:FR mu Y j' aj C M)(h:WF Y)(x:Ext Y T'):FR mu T' j' aj C M where
 len:=F.len
 xh:=F.xh
 hk:=F.hk.ext x
 pl:=λi q=>(F.pl i q).mono (x.view h)
 ow:=λi q1 q2=>by refine fg (F.ow i q1 q2) λn o e N L h3 h4=>?_;exact se n o e N L (by exact J (cQ (x.ent n (F.hk n N))) h3) (h4.mono (x.view h))
 ap:=F.ap
theorem FR.xp(F:FR mu Y j' aj C M)(h:WF Y)(x:Ext Y T'):XP mu Y T' j' j' aj C M:=⟨x.wf,x.le,F.ext h x,λn q=>.inl q,λi hi O=>x.ent i hi⟩
theorem XP.trans(a:XP mu Y ae j' Ow aj vo Ox)(b:XP mu ae aq Ow Sg aj xF Jd):XP mu Y aq j' Sg aj xF Jd where
 wf:=b.wf
 le:=aR a.le b.le
 fr:=b.fr
 hh:=λn q=>by
  rcases b.hh n q with q|q
  .exact a.hh n q
  .exact .inr (aR a.le q)
 kp:=λi hi q=>by
  rw[b.kp i (eE hi a.le) ?_,a.kp i hi q];rcases q with q|q
  .left;cases e:Ow i with|false=>rfl|true=>
    rcases a.hh i e with w|w
    .rw[q]at w;exact fT w
    .lia
  .exact .inr q
theorem XP.view(a:XP mu Y T' j' H' aj C M)(h:WF Y)(n:a_)(o:AO)(e:view j' Y n=f o):Mine.Internal.view H' T' n=f o:=by obtain⟨q1,q2⟩:=aF e;have hl:=lB h q2;refine dy ?_ (by exact J (dz (a.kp n hl (.inl q1))) q2);cases w:H' n with|false=>rfl|true=>
  rcases a.hh n w with w|w
  .rw[q1]at w;exact fT w
  .lia
theorem FR.ij(F:FR mu Y j' aj C M)(hi:mu.contains i=N')(r:VR (view j' Y) hc v):FR mu Y j' aj (aE C i v) (bM M i hc) where
 len:=J (ng _ _ _) (J (pj _ _ _) F.len)
 xh:=F.xh
 hk:=F.hk
 pl:=λj q=>(Sl.set (P:=λj=>mu.contains j=N') ⟨F.len,F.pl⟩ r i).2 j q
 ow:=λj q1 q2=>by
  have ej:i≠j:=by intro mr;clear q2;subst mr;rw[hi]at q1;exact fT q1
  rw[dC,ak ej]at q2;simp only[dC,bk,ak ej,ak ej];exact F.ow j q1 q2
 ap:=λj l n q1 q2 q3 q4 q5 q6=>by
  have N:i≠j:=by intro oU;clear q3 q5;subst oU;rw[hi]at q1;exact fT q1
  have L:i≠l:=by intro qA;clear q4 q6;subst qA;rw[hi]at q2;exact fT q2
  rw[dC,ak N]at q3;rw[dC,ak L]at q4;rw[bk,ak N]at q5;rw[bk,ak L]at q6;exact F.ap j l n q1 q2 q3 q4 q5 q6
theorem FR.bindL:∀{is:cj} {Vs M eV:aC} {Z C:al},FR mu Y j' aj C M->is.any mu.contains=N'->b9 (view j' Y) Vs Z->eo is Vs M=f eV->∃ bh,Mine.Internal.bindL is Z C=f bh/\FR mu Y j' aj bh eV:=by intro w';induction w' with|nil=>(intro z1;cases z1 with|nil=>intro O O Z C F hi h e;refine J h.nil_inv ?_;dsimp only[eo]at e;rw[dQ]at e;subst e;exact aK C X F|cons O O=>intro O O O O F hi h e;exact nS e)|cons i is ih=>intro z1;cases z1 with|nil=>intro O O O O F hi h e;exact nS e|cons hc Vs=>intro M eV Z C F hi h e;refine aW (h.cons_inv) λx r aL a q=>?_;clear h;subst aL;dsimp only[eo]at e;dsimp only[Mine.Internal.bindL];rw[uN,JF]at hi;exact ih (F.ij hi.1 a) hi.2 q e
theorem FR.dw(F:FR mu Y j' aj C M)(hi:is.any mu.contains=N')(h:VR (view j' Y) hc v)(e:cV is hc M=f eV):∃ bh,Mine.Internal.dw is v C=f bh/\FR mu Y j' aj bh eV:=by
 refine Df λGq kq=>?_;rcases xE e with ⟨i,rfl,rfl⟩|⟨Vs,hp,e,hb⟩
 .simp only[uN,zM,JG]at hi;exact kq _ X (F.ij hi h)
 .refine ah (h.items hp) λZ bK q=>?_;clear h;subst bK;exact ah (F.bindL hi q e) λbh N L=>kq bh ((hb _ _).trans N) L
theorem FR.BY(F:FR mu Y j' aj C M)(h:WF Y)(x:Ext Y T')(hi:mu.contains i=V)(hn:Y.n<=n)(hm:T'.getM n=f o)(r:OB (hide n (view j' T')) hc o) :
  XP mu Y T' j' (λm=>j' m||m==n) aj (aE C i (.ref n)) (bM M i hc):=by
 have iE:n<T'.n:=x.wf.lt (fm hm);have hX:aj n=N':=F.xk.not hn
 have vw:∀ m o,view j' Y m=f o->view (λm=>j' m||m==n) T' m=f o:=λm o e=>by
  obtain⟨q1,q2⟩:=aF e
  have:=lB h q2
  refine dy ?_ (x.get h q2);exact J q1 (J (tT9 _) (uO (by lia)))
 have vn:∀ m o,hide n (view j' T') m=f o->view (λm=>j' m||m==n) T' m=f o:=λm o e=>by revert e;refine Dl nS λej e=>?_;obtain⟨q1,q2⟩:=aF e;refine dy ?_ q2;exact J q1 (J (tT9 _) (uO ej))
 refine⟨x.wf,x.le,⟨by refine J (ng _ _ _) (J (pj _ _ _) ?_);exact F.len,λm q=>by exact J (F.xh m q) X,λm q=>?_,λj q=>?_,λj q1 q2=>?_,λj l m q1 q2 q3 q4 q5 q6=>?_⟩,λm q=>?_,λj hj q=>x.ent j hj⟩
 .rw[qx]at q;rcases q with q|q
  .exact eE (F.hk m q) x.le
  .rw[wz]at q;subst q;exact iE
 .have ej:i≠j:=by rintro rfl;rw[hi]at q;exact tF q
  simp only[dC,bk,ak ej,ak ej];exact(F.pl j q).mono vw
 .by_cases e:i=j
  .subst e;rw[dC,ai X]at q2 ⊢;refine J (bk _ _ _ _) (J (ai X) ?_);split at q2
   rename_i hlen
   rotate_left;exact g_ X q2;refine J (ai hlen) (J (ai (eE hlen F.len)) ?_);exact se n o X (by simp) hX hm (r.mono vn)
  .rw[dC,ak e]at q2 ⊢;refine J (bk _ _ _ _) (J (ak e) (fg (F.ow j q1 q2) λm o' e1 N L h3 h4=>?_));exact se m o' e1 (by simp[N]) L (by exact J (cQ (x.ent m (F.hk m N))) h3) (h4.mono vw)
 .have root:∀ j,mu.contains j=V->bf (bM M i hc) j≠.any->ao (aE C i (.ref n)) j=.ref m->(i=j/\m=n)\/(i≠j/\bf M j≠.any/\ao C j=.ref m/\m<Y.n):=λj q1 q3 q5=>by
   by_cases e:i=j
   .subst e;rw[dC,ai X]at q3;rw[bk,ai X]at q5;split at q3
    rename_i hlen
    rotate_left;exact g_ X q3;rw[ai (eE hlen F.len)]at q5;cases q5;exact .inl ⟨X,X⟩
   .rw[dC,ak e]at q3;rw[bk,ak e]at q5;refine aW (F.ow j q1 q3) λm' o' e1 N O=>?_;rw[q5]at e1;cases e1;exact .inr ⟨e,q3,q5,F.hk m N⟩
  rcases root j q1 q3 q5 with ⟨a1,a2⟩|⟨a1,a2,a3,a4⟩<;>rcases root l q2 q4 q6 with ⟨b1,b2⟩|⟨b1,b2,b3,b4⟩
  .exact dT a1 (dT b1 X)
  .lia
  .lia
  .exact F.ap j l m q1 q2 a2 b2 a3 b3
 .rw[qx]at q;rcases q with q|q
  .exact .inl q
  .rw[wz]at q;subst q;exact .inr hn
theorem FR.Uz(F:FR mu Y j' aj C M)(h:WF Y)(hi:mu.contains i=V)(ej:bf M i≠.any)(hs:ao C i=.ref n)(hH:j' n=V)(hX:aj n=N')(L:WF T') (h3:Y.n<=T'.n) (hm:T'.getM n=f o) (r:OB (view j' T') hc o) (h4:∀ j,j<Y.n->j≠n->T'.ent j=Y.ent j):XP mu Y T' j' j' aj C (bM M i hc):=by
 have vw:∀ m o,view j' Y m=f o->view j' T' m=f o:=λm o e=>by obtain⟨q1,q2⟩:=aF e;refine dy q1 ?_;((refine J (dz (Y:=Y) (h4 m (lB h q2) (by rintro rfl;rw[hH]at q1;exact tF q1))) ?_));exact q2
 refine⟨L,h3,⟨by refine J (ng _ _ _) ?_;exact F.len,F.xh,λm q=>eE (F.hk m q) h3,λj q=>?_,λj q1 q2=>?_,λj l m q1 q2 q3 q4 q5 q6=>?_⟩,λm q=>.inl q,λj hj q=>?_⟩
 .have e:i≠j:=by rintro rfl;rw[hi]at q;exact tF q
  exact J (dC _ _ _ _) (J (ak e) ((F.pl j q).mono vw))
 .by_cases e:i=j
  .subst e;rw[dC,ai X]at q2 ⊢;split at q2
   rename_i hlen
   rotate_left;exact g_ X q2;exact J (ai hlen) (se n o hs hH hX hm r)
  .rw[dC,ak e]at q2 ⊢;refine fg (F.ow j q1 q2) λm o' e1 k1 k2 k3 k4=>?_
   have:m≠n:=by rintro rfl;exact e (F.ap i j _ hi q1 ej q2 hs e1)
   (exact se m o' e1 k1 k2 (by refine J (cQ (Y:=Y) (h4 m (F.hk m k1) this)) ?_;exact k3) (k4.mono vw))
 .have red:∀ j,bf (bM M i hc) j≠.any->bf M j≠.any:=λj q=>by
   rw[dC]at q;split at q
   rename_i e
   rotate_left;rotate_left
   .subst e;exact ej
   .exact q
  exact F.ap j l m q1 q2 (red j q3) (red l q4) q5 q6
 .refine h4 j hj ?_;rintro rfl;rcases q with q|q
  .rw[hH]at q;exact tF q
  .rw[hX]at q;exact fT q
theorem FR.turn(F:FR mu Y j' aj C M)(h:WF Y)(hi:mu.contains i=V)(ej:bf M i≠.any)(hs:ao C i=.ref n)(hH:j' n=V)(hX:aj n=N')(r:OB (view j' Y) hc o) :
  ∃ T',Y.set n o=f T'/\XP mu Y T' j' j' aj C (bM M i hc):=by
 refine kA (sM h (F.hk n hH) ⟨N',o⟩) λT' N L h3 h4=>?_;refine aK T' N (F.Uz h hi ej hs hH hX L (by lia) (iW (by exact J (h4 _) (J (ai X) X))) (r.mono λm o e=>?_) λj O q=>by exact J (h4 _) (J (ak q) X));refine cF (aF e) λq1 q2=>?_;refine dy q1 ?_;(refine J (dz (Y:=Y) (by rw[h4,ak];rintro rfl;rw[hH]at q1;exact tF q1)) ?_);exact q2
theorem nh(F:FR mu Y j' aj C M)(h:WF Y)(K:bO KC c)(e:ax c M=f (.b w)):∃ T',ev c Y C=f (T',w)/\Ext Y T':=by refine bA (jy c K Y aj C M _ h F.xk F.vt e) λT' z N L h3 O=>?_;rw[h3.bF]at N;exact aK T' N L
theorem t8(F:FR mu Y j' aj C M)(h:WF Y)(K:bO KC c)(e:ax c M=f hc)(ok:rC N' (fw mu c) (fresh c) hc=V):∃ T' z,ev c Y C=f (T',z)/\Ext Y T'/\VR (view j' T') hc z:=by cases hr:fw mu c with|false=>refine bA (jy c K Y j' C M _ h F.hk (F.Oy hr) e) λT' z N L h3 O=>?_;exact fI T' z N L h3|true=>
  rw[hr]at ok;refine bA (jy c K Y aj C M _ h F.xk F.vt e) λT' z N L h3 h4=>fI T' z N L ?_
  cases hc with
  |b w=>exact J h3.bF (VR.b w)
  |dict bJ=>have hf:fresh c=V:=ok;refine bZ (h4 hf) λn aL h5 h6=>?_;clear N h3 h4;subst aL;exact VR.dict (dy (F.hk.not h5) (cZ h6))
  |list Vs=>
   have hf:fresh c=V/\(allB Vs).isSome=V:=by(dsimp only[rC]at ok;simpa using ok)
   refine bA (h4 hf.1) λn Z aL h5 h6 h7=>?_;clear N h3 h4;subst aL;obtain⟨ws,hw⟩:=wy.mp hf.2;refine VR.list (dy (F.hk.not h5) (cZ h6)) ?_;exact J (h7.allB hw) (sO hw)
  |_=>exact fT ok
theorem Sh(F:FR mu Y j' aj C M)(h:WF Y)(K:bO KC c)(e:ax c M=f hc)(ok:rC V (fw mu c) (fresh c) hc=V) :
  ∃ T' n o,ev c Y C=f (T',.ref n)/\Ext Y T'/\Y.n<=n/\T'.getM n=f o/\OB (hide n (view j' T')) hc o:=by
 cases hc with
 |dict bJ=>
  have hf:fresh c=V:=by(dsimp only[rC]at ok;simpa using ok)
  refine bA (jy c K Y aj C M _ h F.xk F.vt e) λT' z N L h3 h4=>?_;refine bZ (h4 hf) λn aL h5 h6=>?_;clear h3 h4;subst aL;exact MJ T' n _ N L h5 h6 X
 |list Vs=>
  have hf:fresh c=V/\(fw mu c=N'\/(allB Vs).isSome=V):=by(dsimp only[rC]at ok;simpa using ok)
  cases hr:fw mu c with|false=>refine bA (jy c K Y j' C M _ h F.hk (F.Oy hr) e) λT' z N L h3 h4=>?_;refine bA (h4 hf.1) λn Z aL h5 h6 h7=>?_;clear h3 h4;subst aL;exact⟨T',n,_,N,L,h5,h6,Z,X,h7⟩|true=>
   rw[hr]at hf;refine bA (jy c K Y aj C M _ h F.xk F.vt e) λT' z N L h3 h4=>?_;refine bA (h4 hf.1) λn Z aL h5 h6 h7=>?_;clear h3 h4;subst aL;have hs:(allB Vs).isSome=V:=by simpa using hf.2
   obtain⟨ws,hw⟩:=wy.mp hs;exact⟨T',n,_,N,L,h5,h6,Z,X,by exact J (h7.allB hw) (sO hw)⟩
 |_=>exact fT ok
abbrev XO(r:af (St × al × Fl))(mu:cj)(Y:St)(j' aj:jT)(M:aC)(K':kS)(k:a_)(fr:e_):Prop:=∃ T' bh g H',r=f (T',bh,g)/\XP mu Y T' j' H' aj bh M/\Qr k fr aj T' K' g
def XSx(mu:cj)(c:CS):Prop:=∀(Y:St) (j' aj:jT) (C:al) (M eV:aC) (K':kS) (k:a_),WF Y->FR mu Y j' aj C M->(∀ n,j' n=V->aj n=V\/k<=n)->k<=Y.n->aD mu c M=f (eV,K') ->
 XO (ex c Y C) mu Y j' aj eV K' k (CP mu c)
def XS(mu:cj)(c:CS):Prop:=fi KC c->XSx mu c
theorem XP.low(a:XP mu Y T' j' H' aj C M)(hb:∀ n,j' n=V->aj n=V\/k<=n)(hk:k<=Y.n):∀ n,H' n=V->aj n=V\/k<=n:=λn q=>by
 rcases a.hh n q with q|q
 .exact hb n q
 .exact .inr (aR hk q)
theorem Oz:XS mu (.assign i c):=λK Y j' aj C M eV K' k h F hb hk e=>by revert e;refine cc (λhc L1=>cA (λok e=>gJ e ?_));cases hm:mu.contains i with|false=>rw[hm]at ok;exact aW (t8 F h K L1 ok) λT' z N L h3=>⟨T',_,.next,j',by(dsimp only[ex];exact J N X),⟨L.wf,L.le,(F.ext h L).ij hm h3,λn q=>.inl q,λj hj O=>L.ent j hj⟩,Z'⟩|true=>rw[hm]at ok;exact Ik (Sh F h K L1 ok) λT' n o N L h3 h4 h5=>gE T' _ .next _ (by(dsimp only[ex];exact J N X)) (F.BY h L hm h3 h4 h5) Z'
theorem Si(ok:rC N' rd N' hc=V)(hp:fv hc=f Vs):rC N' rd fr hc=V:=by
 dsimp only[fv]at hp;revert hp;refine MP (λO br hp=>?_) (λO br hp=>?_);clear ok;subst br;rotate_left;subst br;rotate_left
 .rfl
 .exact ok
theorem KS:XS mu (.bj is c):=λK Y j' aj C M eV K' k h F hb hk e=>by refine ib λGq zq=>?_;revert e;refine cc (λhc L1=>cA (λok e=>?_));rw[jc,rW]at ok;revert e;refine di (λVs hp=>di (λvs1 Je e=>?_));refine zq ?_;clear zq;refine gJ e (ib λGq zq=>aW (t8 F h K L1 (Si ok.2 hp)) λT' z N L h3=>?_);refine ah (h3.items hp) λZ bK rs=>?_;clear h3;subst bK;refine ah ((F.ext h L).bindL ok.1 rs Je) λlh h4 h5=>?_;refine zq ?_;clear zq;exact gE T' _ .next j' (by(dsimp only[ex,N,h4];refine J N ?_;dsimp only[ex,N,h4];refine J h4 ?_;dsimp only[ex,N,h4])) ⟨L.wf,L.le,h5,λn q=>.inl q,λj hj O=>L.ent j hj⟩ Z'
theorem abe:XS mu (.aug o i c):=λK Y j' aj C M eV K' k h F hb hk e=>by refine ib λGq zq=>?_;revert e;refine zT nS λhm e=>?_;revert e;refine VM (λx hv=>A8 (λy ey=>gQ (λz ez e=>?_)));refine zq ?_;clear zq;refine gJ e ?_;have hs:=F.pl i hm;rw[hv]at hs;refine ah (nh F h K ey) λT' N L=>?_;exact gE T' _ .next j' (by(dsimp only[ex,hs.bF,N,ez];refine J hs.bF (J N ?_);dsimp only[ex,hs.bF,N,ez];refine J ez (J hs.bF (J N ?_));dsimp only[ex,hs.bF,N,ez])) ⟨L.wf,L.le,(F.ext h L).ij hm (VR.b _),λn q=>.inl q,λj hj O=>L.ent j hj⟩ Z'
theorem abf:XS mu (.ret c):=λK Y j' aj C M eV K' k h F hb hk e=>by
 revert e;refine cc (λhc L1 e=>gJ e (bA (jy c K Y aj C M _ h F.xk F.vt L1) λT' z N L h3 h4=>⟨T',C,.ret z,j',by(dsimp only[ex];exact J N X),F.xp h L,h3,λUA=>?_⟩));by_cases hv:∃ i,c=.var i
 .obtain⟨i,eG⟩:=hv;clear K;subst eG;have L2:mu.contains i=V:=UA;dsimp only[ax]at L1;have Xo:bf M i≠.any:=by intro q;rw[q]at L1;exact nS L1
  have hV:bf M i=hc:=by revert L1;refine ZV (λO q9=>nS q9) (λO q9=>nS q9) λL1=>?_;clear e h3 h4;obtain rfl:=aw L1;rfl
  refine fg (F.ow i L2 Xo) λn o e1 k1 k2 k3 k4=>?_;have hz:T'=Y/\z=.ref n:=by dsimp only[ev]at N;rw[e1,dQ,rU]at N;exact⟨N.1.symm,N.2.symm⟩
  obtain⟨iC,j6⟩:=hz;clear h hk L;subst iC;subst j6
  have hkn:k<=n:=by
   rcases hb n k1 with q|q
   .rw[k2]at q;exact fT q
   .exact q
  rw[hV]at k4;have vw:∀ m o,view j' T' m=f o->hide n (view aj T') m=f o:=λm o q=>by obtain⟨q1,q2⟩:=aF q;refine J (I8 (by intro Bc;clear e1 k2 k3 h3 N h4 hkn;subst Bc;rw[k1]at q1;exact tF q1)) ?_;exact nc F.xh m o q
  cases hc with|b w=>trivial|list Vs=>(obtain⟨Z,rfl,r⟩:=k4;exact qO n Z X hkn k3 (r.mono vw))|dict bJ=>(cases k4;exact kB n X hkn k3)|_=>exact k4.elim
 .have:fresh c=V:=by cases c with|var i=>exact g_ ⟨i,X⟩ hv|_=>exact UA
  exact(h4 this).low hk
end
section
variable{mu:cj}{W W':Vw}{j' H' Ow Sg aj:jT}{Y T' da ae aq bo:St}{C bh vo xF:al}{M eV Ox Jd:aC}{k:a_}
theorem Jf(hm:Y.getM n=f o)(q:OB W hc o)(e:j9 hc M' v=f V'):∃ o',uX Y n M' v=Y.set n o'/\OB W V' o':=by cases hc with|list Vs=>(obtain⟨Z,eG,r⟩:=q;subst eG;dsimp only[j9]at e;revert e;refine T5 (λi br=>?_);subst br;refine aZ (λc e=>?_) nS;obtain rfl:=aw e;refine⟨.list (Z.set i v),?_,_,X,r.set _ (VR.b v)⟩;dsimp only[uX];refine J hm ?_;exact ai (by exact J r.length c))|dict bJ=>(cases q;dsimp only[j9]at e;revert e;refine u5 (λO br=>?_);subst br;refine fz (λks IX=>aZ (λc e=>?_) nS);obtain rfl:=aw e;refine aK _ ?_ X;dsimp only[uX];refine J hm (J IX ?_);exact ai c)|_=>exact q.elim
theorem UB{two:e_}{n:a_}(hm:Y.getM n=f o)(q:OB W hc o)(e:Eh two hc kv=f V'):∃ o',z0 two Y n kv=Y.set n o'/\OB W V' o':=by refine Df λGq kq=>?_;cases hc with|dict bJ=>(cases q;dsimp only[Eh]at e;revert e;refine u5 (λO br=>?_);subst br;refine fz (λks IX=>aZ (λc=>?_) nS);refine cA (λc2 e=>?_);obtain rfl:=aw e;refine kq _ ?_ X;(dsimp only[z0];(refine J hm ?_;refine J IX ?_;try dsimp only;refine J c2 ?_;try dsimp only));exact ai c)|list Vs=>exact nS e|_=>exact q.elim
theorem Xq(hm:Y.getM n=f o)(q:OB W hc o)(e:Ei hc=f V'):∃ o',IF Y n=Y.set n o'/\OB W V' o':=by cases hc with|list Vs=>(refine ib λGq zq=>?_;obtain⟨Z,iC,r⟩:=q;subst iC;revert e;refine d0 (λws hw=>aZ (λc=>?_) nS);refine cA (λc2 e=>?_);obtain rfl:=aw e;rw[<-r.allB hw]at c c2;refine zq ?_;clear zq;refine⟨.list Z.reverse,?_,_,X,r.reverse⟩;(dsimp only[IF];(refine J hm ?_;try dsimp only;refine J c2 ?_;try dsimp only));exact ai c)|dict bJ=>exact nS e|_=>exact q.elim
theorem OB.OA(q:OB W hc o)(hm:Y.getM n=f o):(Qn Y n=V/\∃ bJ,hc=.dict bJ)\/(Qm Y n=V/\∃ Vs,hc=.list Vs):=by cases hc with|list Vs=>(obtain⟨Z,rfl,r⟩:=q;exact .inr ⟨by(dsimp only[Qm];exact J (cZ hm) X),_,X⟩)|dict bJ=>(cases q;exact .inl ⟨by(dsimp only[Qn];exact J (cZ hm) X),_,X⟩)|_=>exact q.elim
theorem ni(e:lA M i r=f (eV,K')):∃ V',r=f V'/\eV=bM M i V'/\K'=.next:=by dsimp only[lA]at e;revert e;refine cc (λhc br e=>?_);subst br;exact gJ e (kB hc X X X)
theorem OC:XS mu (.dh j i c):=λK Y j' aj C M eV K' k h F hb hk e=>by
 revert e;refine cA (λhm=>oR (λv ee=>oR (λM' ei e=>?_)));refine bZ (ni e) λV' hs fJ GD=>?_;subst fJ;clear e;subst GD;have ej:bf M j≠.any:=by intro q;rw[q]at hs;exact nS hs
 refine ib λGq zq=>ah (nh F h K.2.2 ee) λae N x1=>?_;have F1:=F.ext h x1;refine ah (nh F1 x1.wf K.2.1 ei) λaq L x2=>?_;have F2:=F1.ext x1.wf x2;refine fg (F2.ow j hm ej) λn o e1 k1 k2 k3 k4=>ah (Jf k3 k4 hs) λo' h3 k5=>ah (F2.turn x2.wf hm ej e1 k1 k2 k5) λT' h4 x4=>?_;refine zq ?_;clear zq;refine⟨T',C,.next,j',?_,(F.xp h x1).trans ((F1.xp x1.wf x2).trans x4),Z'⟩;dsimp only[ex,ev,iS];refine J N ?_;refine J e1 ?_;dsimp only;refine J L ?_;dsimp only;exact J h3 (J h4 X)
theorem OD:XS mu (.iL b j i c):=λK Y j' aj C M eV K' k h F hb hk e=>by
 revert e;refine cA (λhm=>oR (λM' ei=>A8 (λx ex_=>A8 (λy ee=>gQ (λz ez e=>?_)))));refine bZ (ni e) λV' hs fJ GD=>?_;subst fJ;clear e;subst GD;have ej:bf M j≠.any:=by intro q;rw[q]at hs;exact nS hs
 refine ib λGq zq=>ah (nh F h K.2.1 ei) λae N x1=>?_;have F1:=F.ext h x1;refine fg (F1.ow j hm ej) λn o e1 k1 k2 k3 k4=>?_;refine ah (Ek ((k4.mono (nc F1.xh)).vr (dy k2 (cZ k3))) (VR.b M') ex_) λw hw rw_=>?_;rw[rw_.bF]at hw;refine ah (nh F1 x1.wf K.2.2 ee) λaq L x2=>?_;have F2:=F1.ext x1.wf x2;refine fg (F2.ow j hm ej) λn' o2 En k1' k2' k3' k4'=>?_;rw[e1]at En;cases En;refine ah (Jf k3' k4' hs) λo' h3 k5=>ah (F2.turn x2.wf hm ej e1 k1' k2' k5) λT' h4 x4=>?_;refine zq ?_;clear zq;refine⟨T',C,.next,j',?_,(F.xp h x1).trans ((F1.xp x1.wf x2).trans x4),Z'⟩;dsimp only[ex,ev,iS];refine J e1 ?_;dsimp only;refine J N ?_;dsimp only;refine J hw ?_;refine J L ?_;dsimp only;refine J ez ?_;dsimp only;exact J h3 (J h4 X)
theorem Xr{j:a_}:XS mu (.qy j kk):=λK Y j' aj C M eV K' k h F hb hk e=>by
 revert e;refine cA (λhm=>oR (λkv ei e=>?_));refine bZ (ni e) λV' hs fJ GD=>?_;subst fJ;clear e;subst GD;have ej:bf M j≠.any:=by intro q;rw[q]at hs;exact nS hs
 refine fg (F.ow j hm ej) λn0 o0 e1 O O k3 k4=>?_
 have hd:Qn Y n0=V:=by
  rcases k4.OA k3 with q|⟨_,Vs,q⟩
  .exact q.1
  .rw[q]at hs;exact nS hs
 refine ib λGq zq=>ah (nh F h K.2 ei) λae N x1=>?_;have F1:=F.ext h x1;refine fg (F1.ow j hm ej) λn o En k1 k2 k3 k4=>?_;rw[e1]at En;cases En;refine ah (UB k3 k4 hs) λo' h3 k5=>ah (F1.turn x1.wf hm ej e1 k1 k2 k5) λT' h4 x4=>?_;refine zq ?_;clear zq;refine gE T' C .next j' ?_ ((F.xp h x1).trans x4) Z';dsimp only[ex,ev,iS];refine J e1 ?_;dsimp only;refine J (ai hd) (J N ?_);dsimp only;exact J h3 (J h4 X)
theorem Xu{j:a_}:XS mu (.qz j kk):=λK Y j' aj C M eV K' k h F hb hk e=>by
 revert e;refine cA (λhm=>oR (λkv ei e=>?_));refine bZ (ni e) λV' hs fJ GD=>?_;subst fJ;clear e;subst GD;have ej:bf M j≠.any:=by intro q;rw[q]at hs;exact nS hs
 refine fg (F.ow j hm ej) λn0 o0 e1 O O k3 k4=>?_
 have hd:Qn Y n0=V:=by
  rcases k4.OA k3 with q|⟨_,Vs,q⟩
  .exact q.1
  .rw[q]at hs;exact nS hs
 refine ib λGq zq=>ah (nh F h K.2 ei) λae N x1=>?_;have F1:=F.ext h x1;refine fg (F1.ow j hm ej) λn o En k1 k2 k3 k4=>?_;rw[e1]at En;cases En;refine ah (UB k3 k4 hs) λo' h3 k5=>ah (F1.turn x1.wf hm ej e1 k1 k2 k5) λT' h4 x4=>?_;refine zq ?_;clear zq;refine gE T' C .next j' ?_ ((F.xp h x1).trans x4) Z';dsimp only[ex,ev,iS];refine J e1 ?_;dsimp only;refine J (ai hd) (J N ?_);dsimp only;exact J h3 (J h4 X)
theorem Xv:XS mu (.sort j):=λK Y j' aj C M eV K' k h F hb hk e=>by
 revert e;refine cA (λhm e=>?_);refine bZ (ni e) λV' hs fJ GD=>?_;subst fJ;clear e;subst GD;have ej:bf M j≠.any:=by intro q;rw[q]at hs;exact nS hs
 refine fg (F.ow j hm ej) λn o e1 k1 k2 k3 k4=>?_
 have hd:Qm Y n=V:=by
  rcases k4.OA k3 with ⟨_,Vs,q⟩|q
  .rw[q]at hs;exact nS hs
  .exact q.1
 refine ah (Xq k3 k4 hs) λo' h3 k5=>ah (F.turn h hm ej e1 k1 k2 k5) λT' h4 x4=>gE T' C .next j' ?_ x4 Z';dsimp only[ex,ev,iS];refine J e1 ?_;dsimp only;exact J (ai hd) (J h3 (J h4 X))
theorem OE:XS mu (.append j c):=λK Y j' aj C M eV K' k h F hb hk e=>by
 refine ib λGq zq=>?_;revert e;refine cA (λhm=>FJ (λVs hv=>cc (λhc ee=>cA (λok=>aZ (λoH e=>?_) nS))));refine zq ?_;clear zq;refine gJ e ?_;have ej:bf M j≠.any:=by refine J hv ?_;intro q;cases q
 refine fg (F.ow j hm ej) λn0 o0 e1 O O k3 k4=>?_
 have hd:Qm Y n0=V:=by
  rcases k4.OA k3 with ⟨_,_,q⟩|q
  .rw[hv]at q;cases q
  .exact q.1
 refine ib λGq zq=>aW (t8 F h K.2 ee ok) λae z N x1 r1=>?_;have F1:=F.ext h x1;refine fg (F1.ow j hm ej) λn o En k1 k2 k3 k4=>?_;rw[e1]at En;cases En;rw[hv]at k4;obtain⟨Z,j6,rs⟩:=k4;subst j6;have k5:OB (view j' ae) (.list (Vs++[hc])) (.list (Z++[z])):=⟨_,X,rs.append (b9.cons r1 b9.nil)⟩;refine ah (F1.turn x1.wf hm ej e1 k1 k2 k5) λT' h4 x4=>?_;refine zq ?_;clear zq;refine gE T' C .next j' ?_ ((F.xp h x1).trans x4) Z';dsimp only[ex,ev,w6];refine J e1 ?_;dsimp only;refine J (ai hd) (J N ?_);dsimp only;refine J k3 ?_;dsimp only;refine J (ai (by rw[rs.length];exact oH)) ?_;exact J h4 X
theorem OF:XS mu (.extend j c):=λK Y j' aj C M eV K' k h F hb hk e=>by
 refine ib λGq zq=>?_;revert e;refine cA (λhm=>FJ (λVs hv=>VJ (λYs ee=>cA (λok e=>?_))));rw[jc]at ok;revert e;refine aZ (λoH e=>?_) nS;refine zq ?_;clear zq;refine gJ e ?_;have ej:bf M j≠.any:=by refine J hv ?_;intro q;cases q
 refine fg (F.ow j hm ej) λn0 o0 e1 a1 O k3 k4=>?_
 have hd:Qm Y n0=V:=by
  rcases k4.OA k3 with ⟨_,_,q⟩|q
  .rw[hv]at q;cases q
  .exact q.1
 refine ib λGq zq=>bA (jy c K.2 Y aj C M _ h F.xk F.vt ee) λae z N x1 r1 f1=>?_;refine bA (f1 ok.1) λm ys aL hmn hgm rys=>?_;clear r1 f1;subst aL;obtain⟨ws,hw⟩:=wy.mp ok.2;have F1:=F.ext h x1;refine fg (F1.ow j hm ej) λn o En k1 k2 k3 k4=>?_;rw[e1]at En;cases En;rw[hv]at k4;obtain⟨Z,mr,rs⟩:=k4;subst mr;refine zq ?_;clear zq;have hys:b9 (view j' ae) Ys ys:=J (rys.allB hw) (sO hw);have k5:OB (view j' ae) (.list (Vs++Ys)) (.list (Z++ys)):=⟨_,X,rs.append hys⟩;refine ah (F1.turn x1.wf hm ej e1 k1 k2 k5) λT' h4 x4=>?_;have bV:m≠n0:=by have:=F.hk n0 a1;lia
 refine gE T' C .next j' ?_ ((F.xp h x1).trans x4) Z';dsimp only[ex,ev,xa];refine J e1 ?_;dsimp only;refine J (ai hd) (J N ?_);dsimp only;refine J k3 ?_;refine J (cZ hgm) ?_;dsimp only;refine J (ai ⟨bV,by rw[rs.length];exact oH.1,by rw[hys.length];exact oH.2⟩) ?_;exact J h4 X
theorem Sj{as:CE}{F:a_->CE->af (aC × kS)}{hc:aC × kS}(e:(match as with|.cons (.var i) r=>F i r|_=>R)=f hc):∃ i r,as=.cons (.var i) r/\F i r=f hc:=by refine MC λGq kq=>?_;cases as with|cons a r=>(cases a<;>first|exact nS e|exact kq _ r X e)|_=>exact nS e
theorem Xw{c:CE}:XS mu (.expr c):=λK Y j' aj C M eV K' k h F hb hk e=>by
 induction c using CE.casesOn with
 |call g Y' P as=>
  revert e;refine TZ (λL2 e=>?_) λL2 e=>?_
  .refine eF (Sj e) λi r aL e=>?_;subst aL;revert e;refine cA (λhm=>q0 (λUs er=>cA (λhB=>cA (λhO e=>?_))));refine bZ (ni e) λV' hs fJ GD=>?_;subst fJ;clear e;subst GD;obtain⟨ws,hw⟩:=wy.mp hB;have ej:bf M i≠.any:=by intro q;rw[q]at hO;exact fT hO
   refine ib λGq zq=>?_;refine fg (F.ow i hm ej) λn0 o0 e1 a1 O O O=>?_;refine bA (jy r K.2.2 Y aj C M _ h F.xk F.vt er) λae z N x1 r1 O=>?_;refine ah (r1.bD) λZ bK rs=>?_;clear r1;subst bK;have F1:=F.ext h x1;refine fg (F1.ow i hm ej) λn o En k1 k2 k3 k4=>?_;rw[e1]at En;cases En;have U':=K.1;dsimp only[KC]at U';rw[L2]at U';refine zq ?_;clear zq;have rs':b9 (view j' ae) Us Z:=J (rs.allB hw) (sO hw);refine oz (U' ae j' n0 o Z _ V' Us x1.wf F1.hk k1 k3 k4 rs' hs) λT' o' L h3 h4 h5 h6 h7=>⟨T',C,.next,j',?_,(F.xp h x1).trans (F1.Uz x1.wf hm ej e1 k1 k2 h3 h4 h5 h6 h7),Z'⟩;(dsimp only[ex,ev];(refine J e1 ?_;try dsimp only;refine J N ?_;try dsimp only;exact J L X))
  .revert e;refine q0 (λUs er=>cc (λV' ef e=>gJ e (ib λGq zq=>?_)));refine bA (jy as K.2 Y aj C M _ h F.xk F.vt er) λae z N x1 r1 O=>?_;refine ah (r1.bD) λZ bK rs=>?_;clear r1;subst bK;have U':=K.1;dsimp only[KC]at U';rw[L2]at U';refine aW (U' ae aj Z Us V' x1.wf (F.xk.ext x1) rs ef) λaq z L x2 O=>?_;refine zq ?_;clear zq;exact⟨aq,C,.next,j',by(dsimp only[ex,ev];refine J N ?_;try dsimp only;exact J L X),F.xp h (x1.trans x2),Z'⟩
 |_=>exact nS e
end
section
variable{mu:cj}{W W':Vw}{j' H' Ow Sg aj X':jT}{Y T' da ae aq bo:St}{C bh vo xF:al}{M eV Ox Jd:aC}{k:a_}{K':kS}{g:Fl}{fr:e_}
theorem Qr.weak(h:Qr k fr aj Y K' g)(q:fr'=V->fr=V):Qr k fr' aj Y K' g:=by cases K'<;>cases g<;>first|trivial|exact h.elim|exact⟨h.1,λe=>h.2 (q e)⟩
theorem abh(B:XS mu a)(U':XS mu c):XS mu (.iff t a c):=λK Y j' aj C M eV K' k h F hb hk e=>by
 revert e;refine tJ (λet e=>?_) (λet e=>?_)
 .refine ah (nh F h K.1 et) λae N x1=>fh (B K.2.1 ae j' aj C M eV K' k x1.wf (F.ext h x1) hb (aR hk x1.le) e) λT' bh g H' L x2 r=>?_;exact gE T' bh g H' (by(dsimp only[ex,N,L];refine J N ?_;dsimp only[ex,N,L];exact J L X)) ((F.xp h x1).trans x2) (r.weak λq=>by(dsimp only[CP]at q;rw[jc]at q);exact q.1)
 .refine ah (nh F h K.1 et) λae N x1=>fh (U' K.2.2 ae j' aj C M eV K' k x1.wf (F.ext h x1) hb (aR hk x1.le) e) λT' bh g H' L x2 r=>?_;exact gE T' bh g H' (by(dsimp only[ex,N,L];refine J N ?_;dsimp only[ex,N,L];exact J L X)) ((F.xp h x1).trans x2) (r.weak λq=>by(dsimp only[CP]at q;rw[jc]at q);exact q.2)
theorem Xx:XS mu .cont:=λK Y j' aj C M eV K' k h F hb hk e=>by dsimp only[aD]at e;rw[dQ,rU]at e;obtain⟨eG,iC⟩:=e;subst eG;subst iC;exact gE Y C .cont j' (by rfl) (F.xp h (Ext.refl h)) Z'
theorem Xy:XS mu .skip:=λK Y j' aj C M eV K' k h F hb hk e=>by dsimp only[aD]at e;rw[dQ,rU]at e;obtain⟨j6,mr⟩:=e;subst j6;subst mr;exact gE Y C .next j' (by rfl) (F.xp h (Ext.refl h)) Z'
theorem Sk{K:aC->af (aC × kS)}(e:(match r with|f (v1,.next)=>K v1|r=>r)=f (eV,K')):(∃ v1,r=f (v1,.next)/\K v1=f (eV,K'))\/r=f (eV,K')/\K'≠.next:=by
 rcases r with _|⟨v1,g⟩
 .exact nS e
 .cases g with|next=>exact .inl ⟨v1,X,e⟩|_=>exact .inr ⟨e,λq=>by subst q;cases e⟩
theorem abi(B:XS mu a)(U':XS mu c):XS mu (.seq a c):=λK Y j' aj C M eV K' k h F hb hk e=>by
 dsimp only[aD]at e;rcases Sk e with ⟨vs1,ea,e⟩|⟨e,ej⟩
 .refine fh (B K.1 Y j' aj C M vs1 .next k h F hb hk ea) λae lh g1 H1 N x1 r1=>?_
  have:g1=.next:=by(clear N;cases g1)<;>first|rfl|exact r1.elim
  clear r1;subst this;refine fh (U' K.2 ae H1 aj lh vs1 eV K' k x1.wf x1.fr (x1.low hb hk) (aR hk x1.le) e) λT' bh g H' L x2 r=>?_;exact gE T' bh g H' (by(dsimp only[ex,N,L];refine J N ?_;dsimp only[ex,N,L];exact J L X)) (x1.trans x2) (r.weak λq=>by(dsimp only[CP]at q;rw[jc]at q);exact q.2)
 .refine fh (B K.1 Y j' aj C M eV K' k h F hb hk e) λae lh g1 H1 N x1 r1=>?_;refine gE ae lh g1 H1 ?_ x1 (r1.weak λq=>by(dsimp only[CP]at q;rw[jc]at q);exact q.1);dsimp only[ex];refine J N ?_;cases K' with|next=>exact g_ X ej|_=>(clear N;cases g1)<;>first|rfl|exact r1.elim
theorem OG(Kt:bO KC t)(hB:XSx mu b):∀(h1:a_) (Y:St) (j':jT) (C:al) (M eV:aC) (K':kS),WF Y->FR mu Y j' aj C M->(∀ n,j' n=V->aj n=V\/k<=n)->k<=Y.n->fc (ax t) (aD mu b) h1 M=f (eV,K') ->
  XO (eZ (ev t) (ex b) h1 Y C) mu Y j' aj eV K' k (CP mu b):=by
 intro w';induction w' with|zero=>intro Y j' C M eV K' h F hb hk e;exact nS e|succ h1 ih=>
  intro Y j' C M eV K' h F hb hk e;revert e;refine tJ (λet e=>?_) (λet e=>?_)
  .refine ah (nh F h Kt et) λae N x1=>?_;revert e;refine spW (λvs1 v eb e=>?_) (λvs1 fl eb ej e=>?_) nS
   .refine gJ e (fh (hB ae j' aj C M _ _ k x1.wf (F.ext h x1) hb (aR hk x1.le) eb) λT' bh g H' L x2 r=>?_);cases g with|ret z=>exact⟨T',bh,_,H',by(dsimp only[eZ];refine J N ?_;try dsimp only;exact J L X),(F.xp h x1).trans x2,r⟩|_=>exact r.elim
   .refine fh (hB ae j' aj C M _ _ k x1.wf (F.ext h x1) hb (aR hk x1.le) eb) λaq eH g2 H2 L x2 r2=>?_;have X2:=(F.xp h x1).trans x2;refine fh (ih aq H2 eH vs1 eV K' X2.wf X2.fr (X2.low hb hk) (aR hk X2.le) e) λT' bh g H' h3 x3 r3=>gE T' bh g H' ?_ (X2.trans x3) r3;cases fl with|ret v=>exact g_ X (ej v)|_=>cases g2<;>first|((dsimp only[eZ];(refine J N ?_;try dsimp only;refine J L ?_;try dsimp only;exact J h3 X));done)|exact r2.elim
  .exact gJ e (ah (nh F h Kt et) λae N x1=>gE ae C .next j' (by(dsimp only[eZ];exact J N X)) (F.xp h x1) Z')
theorem Xz(hB:XS mu b):XS mu (.kH t b):=λK Y j' aj C M eV K' k h F hb hk e=>by dsimp only[aD]at e;exact fh (OG K.1 (hB K.2) 100000 Y j' C M eV K' h F hb hk e) λT' bh g H' N x1 r1=>gE T' bh g H' (by(dsimp only[ex];exact J N X)) x1 r1
set_option tactic.hygienic true in
theorem Qr.same(h:Qr k fr aj Y K' g)(hg:∀ i,T'.get i=Y.get i)(hm:∀ i o,Y.getM i=f o->T'.getM i=f o):Qr k fr aj T' K' g:=by
 cases K'<;>cases g<;>first|trivial|exact h.elim|skip
 rename_i hc z
 refine⟨by refine J (cY hg) ?_;exact h.1,λq=>?_⟩
 have:=h.2 q
 cases hc with|b w=>trivial|list Vs=>(obtain⟨n,Z,a,b,c,d⟩:=this;(exact qO n Z a b (hm _ _ c) (by refine J (cY hg) ?_;exact d)))|dict bJ=>(obtain⟨n,a,b,c⟩:=this;exact kB n a b (hm _ _ c))|_=>exact this.elim
theorem FR.same(F:FR mu Y j' aj C M)(hn:T'.n=Y.n)(hg:∀ i,T'.get i=Y.get i)(hm:∀ i o,j' i=V->aj i=N'->Y.getM i=f o->T'.getM i=f o):FR mu T' j' aj C M where
 len:=F.len
 xh:=F.xh
 hk:=λn q=>by exact J hn (F.hk n q)
 pl:=λi q=>by exact J (cY hg) (F.pl i q)
 ow:=λi q1 q2=>by refine fg (F.ow i q1 q2) λn o e N L h3 h4=>?_;exact se n o e N L (hm _ _ N L h3) (by exact J (cY hg) h4)
 ap:=F.ap
theorem OH(ht:C'.any mu.contains=N')(hB:XSx mu b):∀(Xs:aC) (Z:al) (Y:St) (j':jT) (C:al) (M eV:aC) (K':kS),WF Y->FR mu Y j' aj C M->(∀ n,j' n=V->aj n=V\/k<=n)->k<=Y.n->b9 (view j' Y) Xs Z ->
  dS (ct (aD mu b) C') Xs M=f (eV,K')->XO (lU (oE (ex b) C') Z Y C) mu Y j' aj eV K' k (CP mu b):=by
 intro w';induction w' with|nil=>(intro Z Y j' C M eV K' h F hb hk r e;refine J r.nil_inv ?_;dsimp only[dS]at e;rw[dQ,rU]at e;obtain⟨oU,qA⟩:=e;subst oU;subst qA;exact gE Y C .next j' X (F.xp h (Ext.refl h)) Z')|cons hc Xs ih=>
  intro Z Y j' C M eV K' h F hb hk r e;refine aW (r.cons_inv) λx ys aL r1 rs=>?_;clear r;subst aL;have turn:∀{vs1:aC} {fl:kS},ct (aD mu b) C' hc M=f (vs1,fl)->XO (oE (ex b) C' x Y C) mu Y j' aj vs1 fl k (CP mu b):=fun {vs1 fl} e=>by revert e;exact di (λUq hbt e=>ah (F.dw ht r1 hbt) λRm N F4=>fh (hB Y j' aj Rm Uq vs1 fl k h F4 hb hk e) λT' bh g H' L x2 r2=>⟨T',bh,g,H',by(dsimp only[oE];refine J N ?_;try dsimp only;exact J L X),⟨x2.wf,x2.le,x2.fr,x2.hh,x2.kp⟩,r2⟩)
  dsimp only[dS]at e;revert e;refine spW (λvs1 v eb e=>?_) (λvs1 fl eb ej e=>?_) nS
  .refine gJ e ?_;refine fh (turn eb) λT' bh g H' L x2 r=>?_;cases g with|ret z=>exact⟨T',bh,_,H',by(dsimp only[lU];exact J L X),x2,r⟩|_=>exact r.elim
  .refine fh (turn eb) λaq eH g2 H2 L x2 r2=>fh (ih ys aq H2 eH vs1 eV K' x2.wf x2.fr (x2.low hb hk) (aR hk x2.le) (rs.mono (x2.view h)) e) λT' bh g H' h3 x3 r3=>gE T' bh g H' ?_ (x2.trans x3) r3;cases fl with|ret v=>exact g_ X (ej v)|_=>cases g2<;>first|((dsimp only[lU];(refine J L ?_;try dsimp only;exact J h3 X));done)|exact r2.elim
theorem Eo(ht:C'.any mu.contains=N')(hB:XSx mu b)(h:WF Y)(F:FR mu Y j' aj C M)(hb:∀ n,j' n=V->aj n=V\/k<=n)(hk:k<=Y.n)(r:b9 (view j' Y) Xs Z)(hl:∀ n,lk=f n->(j' n=N'\/aj n=V)/\∃ e,Y.ent n=f e) (e:dS (ct (aD mu b) C') Xs M=f (eV,K')) :
  XO (j7 Y lk (λs2=>lU (oE (ex b) C') Z s2 C)) mu Y j' aj eV K' k (CP mu b):=by
 have hl':BW (λO=>N') Y lk:=λn q=>⟨X,(hl n q).2⟩;refine Mw (Ja h hl') λae N L h3 h4 h5 h6=>?_
 have Sm:∀ n,lk=f n->j' n=V->aj n=N'->False:=λn q a b=>by
  rcases(hl n q).1 with c|c
  .rw[a]at c;exact tF c
  .rw[b]at c;exact fT c
 have F1:FR mu ae j' aj C M:=F.same h3 h4 λi o a b c=>by(refine J (cQ (Y:=Y) (h5 i λq=>Sm i q a b)) ?_);exact c
 (refine fh (OH ht hB Xs Z ae j' C M eV K' L F1 hb (by refine J h3 ?_;exact hk) (by refine J (cY h4) ?_;exact r) e) λaq eH g H2 k1 x2 r2=>?_);have DH:∀ n,lk=f n->∃ e,Y.ent n=f e/\aq.ent n=f ⟨V,e.obj⟩:=λn q=>by refine ah (h6 n q) λe e1 e2=>?_;(exact aK e e1 (by refine J (x2.kp n (L.lt e2) (hl n q).1) ?_;exact e2))
 (refine Mw (Aq h hl' x2.wf (by refine dT h3 ?_;exact x2.le) DH) λbo m1 m2 m3 m4 m5 m6=>?_);(refine gE bo eH g H2 (by(dsimp only[j7];(refine J N ?_;try dsimp only;refine J k1 ?_;try dsimp only;exact J m1 X))) ⟨m2,by refine J m3 (dT h3 ?_);exact x2.le,?_,λn q=>by refine dT h3 ?_;exact x2.hh n q,λi hi q=>?_⟩ ?_)
 .refine x2.fr.same m3 m4 λi o a b c=>?_;rw[cQ (Y:=aq) (m5 i λq=>?_)]
  .exact c
  ·(refine ah (DH i q) λe O e2=>?_);rw[fm c]at e2;cases e2
 .by_cases q2:lk=f i
  .exact m6 i q2
  ·((exact J (m5 i q2) (J (x2.kp i (by refine J h3 ?_;exact hi) q) (J (h5 i q2) X))))
 .refine r2.same m4 λi o c=>?_;rw[cQ (Y:=aq) (m5 i λq=>?_)]
  .exact c
  ·(refine ah (DH i q) λe O e2=>?_);rw[fm c]at e2;cases e2
set_option tactic.hygienic true in
theorem Qr.sub(h:Qr k fr X' Y K' g)(hX:∀ n,aj n=V->X' n=V):Qr k fr aj Y K' g:=by
 cases K'<;>cases g<;>first|trivial|exact h.elim|skip
 rename_i hc z
 refine⟨h.1.mono (nc hX),λq=>?_⟩
 have:=h.2 q
 cases hc with|b w=>trivial|list Vs=>(obtain⟨n,Z,a,b,c,d⟩:=this;(exact qO n Z a b c (d.mono (KP n λi o O=>nc hX i o))))|dict bJ=>(obtain⟨n,a,b,c⟩:=this;exact kB n a b c)|_=>exact this.elim
theorem XP.sub(x:XP mu Y T' j' H' X' bh eV)(hX:∀ n,aj n=V->X' n=V):XP mu Y T' j' H' aj bh eV where
 wf:=x.wf
 le:=x.le
 fr:=by refine⟨x.fr.len,λn q=>x.fr.xh n (hX n q),x.fr.hk,x.fr.pl,λi q1 q2=>?_,x.fr.ap⟩;refine fg (x.fr.ow i q1 q2) λn o e N L h3 h4=>se n o e N ?_ h3 h4;cases q:aj n with|false=>rfl|true=>rw[hX n q]at L;exact tF L
 hh:=x.hh
 kp:=λi hi q=>x.kp i hi (q.imp id (hX i))
theorem abj(hB:XS mu b):XS mu (.gF C' ik it b):=λK Y j' aj C M eV K' k h F hb hk e=>by
 have plain:∀{hc:PV} {Xs:aC} {ae:St} {v:AV},C'.any mu.contains=N'->ev it Y C=f (ae,v)->Ext Y ae->VR (view j' ae) hc v->Ef ik hc=f Xs->dS (ct (aD mu b) C') Xs M=f (eV,K') ->
   XO (ex (.gF C' ik it b) Y C) mu Y j' aj eV K' k (CP mu b):=fun {hc Xs ae v} ht N x1 r1 hi e=>by
  exact aW (Jb r1 hi) λZ lk k1 k2 k3=>fh (Eo (k:=k) ht (hB K.2) x1.wf (F.ext h x1) hb (aR hk x1.le) k2 (λn q=>⟨.inl (k3 n q).1,(k3 n q).2⟩) e) λT' bh g H' m1 m2 m3=>⟨T',bh,g,H',by(dsimp only[ex,Kc];refine J N ?_;try dsimp only;refine J k1 ?_;try dsimp only;exact J m1 X),(F.xp h x1).trans m2,m3⟩
 revert e;refine zT nS λht e=>?_;revert e;refine ZX (λi br e=>?_) λe=>?_;subst br;rotate_left;rotate_left
 .revert e;refine TZ (λhm e=>?_) λhm e=>?_
  .revert e;refine VN (λbr=>?_);clear plain;subst br;refine FJ (λVs hv e=>?_);have ej:bf M i≠.any:=by refine J hv ?_;intro q;cases q
   refine fg (F.ow i hm ej) λn o e1 k1 k2 k3 k4=>?_;rw[hv]at k4;obtain⟨Z,vF,rs⟩:=k4;subst vF
   have F1:FR mu Y j' (λm=>aj m||m==n) C (bM M i .any):=by
    have red:∀ j,bf (bM M i .any) j≠.any->i≠j/\bf (bM M i .any) j=bf M j:=λj q=>by
     rw[dC]at q ⊢;split at q;rotate_left
     rename_i abk
     rotate_left
     .split at q<;>exact g_ X q
     .exact⟨abk,by exact J (ak abk) X⟩
    refine⟨by refine J (ng _ _ _) ?_;exact F.len,λm q=>?_,F.hk,λj q=>?_,λj q1 q2=>?_,λj l m q1 q2 q3 q4 q5 q6=>?_⟩
    .rw[qx]at q;rcases q with q|q
     .exact F.xh m q
     .rw[wz]at q;refine J q ?_;exact k1
    .have:i≠j:=by intro yI;subst yI;rw[hm]at q;exact tF q
     refine J (dC _ _ _ _) (J (ak this) ?_);exact F.pl j q
    .obtain⟨a1,a2⟩:=red j q2;rw[a2]at q2 ⊢;refine fg (F.ow j q1 q2) λm o' b1 b2 b3 b4 b5=>se m o' b1 b2 ?_ b4 b5;exact J b3 (J (tT9 _) (uO (by intro Dp;clear k1 k2 k3;subst Dp;exact a1 (F.ap i j _ hm q1 ej q2 e1 b1))))
    .exact F.ap j l m q1 q2 ((red j q3).2▸q3) ((red l q4).2▸q4) q5 q6
   (refine fh (Eo (k:=k) ht (hB K.2) h F1 (λm q=>(hb m q).imp (λq=>by simp[q]) id) hk rs (lk:=f n) (λm q=>by obtain rfl:=aw q;exact⟨.inr (by simp),_,fm k3⟩) e) λT' bh g H' m1 m2 m3=>?_);(refine gE T' bh g H' ?_ (m2.sub λn q=>by simp[q]) (m3.sub λn q=>by simp[q]));(dsimp only[ex,Kc,ev,jd];(refine J e1 ?_;try dsimp only;refine J (cZ k3) ?_;try dsimp only;exact J m1 X))
  .revert e;refine di (λXs hi e=>?_);have hp:ax (.var i) M=f (bf M i):=by exact R8 (λq=>by rw[q]at hi;(clear K plain;cases ik)<;>exact nS hi) λq=>by rw[q]at hi;(clear K plain;cases ik)<;>exact nS hi
   (refine bA (jy (.var i) K.1 Y j' C M _ h F.hk ⟨F.len,λj q=>by(dsimp only[eN]at q;rw[wz]at q);clear K plain hi hp;subst q;exact F.pl j hm⟩ hp) λae v N x1 r1 O=>?_);exact plain ht N x1 r1 hi e
 .revert e;refine zT nS λhr e=>?_;revert e;refine cc (λhc hV=>di (λXs hi e=>?_));(refine bA (jy it K.1 Y j' C M _ h F.hk (F.Oy hr) hV) λae v N x1 r1 O=>?_);exact plain ht N x1 r1 hi e
theorem pk(mu:cj):∀ c:CS,XS mu c:=by intro c;induction c with|assign i e=>exact Oz|bj is e=>exact KS|dh o i e=>exact OC|aug k i e=>exact abe|iL k o i e=>exact OD|ret e=>exact abf|iff t a b B hb=>exact abh B hb|kH t b hb=>exact Xz hb|gF C' ik it b hb=>exact abj hb|cont=>exact Xx|qy d k=>exact Xr|qz d k=>exact Xu|append l e=>exact OE|extend l e=>exact OF|sort l=>exact Xv|expr e=>exact Xw|raise=>intro K Y j' aj C M eV K' k h F hb hk e;exact nS e|skip=>exact Xy|seq a b B hb=>exact abi B hb
theorem xG:∀(n i:a_),bf (bz n) i=.any:=λw'=>by induction w' with|zero=>(intro i;cases i<;>rfl)|succ n ih=>intro z1;cases z1 with|zero=>exact X|succ i=>exact ih i
theorem b9.slot:∀{Vs:aC} {as:al},b9 W Vs as->∀(m i:a_),VR W (bf (Vs++bz m) i) (ao (as++rl m) i):=by intro w';cases w' with|nil=>intro O h m i;exact J h.nil_inv (J (C7 _) (J (xG _ _) VR.any))|cons hc Vs=>intro O h m z4;cases z4 with|zero=>(refine aW (h.cons_inv) λx r aL a s=>?_;clear h;subst aL);exact a|succ i=>(refine aW (h.cons_inv) λx r aL a s=>?_;clear h;subst aL);exact s.slot m i
theorem Ar:∀(Vs:aC) (m i:a_),Vs.length<=i->bf (Vs++bz m) i=.any:=λw'=>by induction w' with|nil=>intro m i O;exact xG m i|cons hc Vs ih=>intro m z2;cases z2 with|zero=>intro h;simp at h|succ i=>intro h;exact ih m i (by simpa using h)
theorem Ep:∀ n,(rl n).length=n:=λw'=>by induction w' with|zero=>exact X|succ n ih=>dsimp only[rl];simp[ih]
theorem Er:∀ n,(bz n).length=n:=λw'=>by induction w' with|zero=>exact X|succ n ih=>dsimp only[bz];simp[ih]
theorem FR.start(hk:tD j' Y)(r:b9 (view j' Y) Vs as)(more:a_)(L2:mu.all (λi=>k_ Vs.length i)=V):FR mu Y j' j' (as++rl more) (Vs++bz more) where
 len:=by simp only[ou,ou,Ep,Er,r.length];exact c9 _
 xh:=λO q=>q
 hk:=hk
 pl:=λi O=>r.slot more i
 ow:=λi q1 q2=>by
  rw[mK]at L2
  have:=L2 i (by simpa using q1)
  exact g_ (Ar Vs more i (iB this)) q2
 ap:=λi j n q1 O q3=>by
  rw[mK]at L2
  have:=L2 i (by simpa using q1)
  exact g_ (Ar Vs more i (iB this)) q3
theorem Sn(L2:mu.all (λi=>k_ np i)=V)(UA:fr=V->CP mu ha=V)(K:fi KC ha):GA (bt np more ha) ⟨prun mu np more ha,fr,N'⟩:=by
 intro Y j' as Vs hc h hk r e;replace e:prun mu np more ha Vs=f hc:=e;revert e;refine aZ (λhlen e=>?_) nS;have FA:as.length=np:=r.length.trans hlen;have F:FR mu Y j' j' (as++rl more) (Vs++bz more):=FR.start hk r more (by exact J hlen L2);revert e;refine aaZ (λeV V' ep e=>?_) (λeV ep e=>?_) nS
 .obtain rfl:=aw e;refine fh (pk mu ha K Y j' j' _ _ _ _ Y.n h F (λn q=>.inl q) (c9 _) ep) λT' bh g H' N x1 r1=>?_;cases g with|ret z=>(refine qO T' z (by dsimp only[bt];exact J (ai FA) (J N X)) ⟨x1.wf,x1.le,λi hi=>x1.kp i hi ?_⟩ r1.1 (λq=>r1.2 (UA q));cases j' i<;>trivial)|_=>exact r1.elim
 .obtain rfl:=aw e;refine fh (pk mu ha K Y j' j' _ _ _ _ Y.n h F (λn q=>.inl q) (c9 _) ep) λT' bh g H' N x1 r1=>?_;cases g with|next=>(refine qO T' .none (by dsimp only[bt];exact J (ai FA) (J N X)) ⟨x1.wf,x1.le,λi hi=>x1.kp i hi ?_⟩ (VR.b _) (λO=>Z');cases j' i<;>trivial)|_=>exact r1.elim
theorem GA.weak(h:GA F P)(hf:∀ Vs hc,P'.fn Vs=f hc->P.fn Vs=f hc)(UA:P'.fr=V->P.fr=V):GA F P':=λY j' as Vs hc w hk r e=>(h Y j' as Vs hc w hk r (hf _ _ e)).weak UA
end
theorem jz{mu:cj}{np more:a_}{ha:CS}{fr:e_}(h:(mu.all (λi=>k_ np i)&&(!fr||CP mu ha))=V)(K:fi KC ha):KC (bt np more ha) ⟨prun mu np more ha,fr,N'⟩:=
 Il h λa c=>show GA _ _ from Sn a (λe=>by rw[e]at c;exact c) K
noncomputable def asg (i:a_):CS->e_|.assign j O=>i==j|.bj is O=>is.contains i|.aug O j O'=>i==j|.iff O a b=>(asg i a||asg i b)|.kH O b=>asg i b|.gF C' O O' b=>(C'.contains i||asg i b)|.seq a b=>(asg i a||asg i b)|.dh ..=>N'|.iL ..=>N'|.ret ..=>N'|.cont=>N'|.qy ..=>N'|.qz ..=>N'|.append ..=>N'|.extend ..=>N'|.sort ..=>N'|.expr ..=>N'|.raise=>N'|.skip=>N'
theorem vu:∀{is:cj} {Z C bh:al},is.contains i=N'->bindL is Z C=f bh->ao bh i=ao C i:=by intro w';induction w' with|nil=>(intro z1;cases z1 with|nil=>intro C bh O e;(dsimp only[bindL]at e;rw[dQ]at e);exact J e X|cons O O=>intro O O O e;exact nS e)|cons j is ih=>intro z1;cases z1 with|nil=>intro O O O e;exact nS e|cons x Z=>intro C bh h e;dsimp only[bindL]at e;simp only[List.contains_cons,JF,HS]at h;exact J (ih h.2 e) (J (bk _ _ _ _) (J (ak (kz h.1)) X))
theorem Et(h:is.contains i=N')(e:dw is v C=f bh):ao bh i=ao C i:=by
 dsimp only[dw]at e;revert e;refine MM (λO br e=>?_) λe=>?_;subst br;rotate_left;rotate_left
 .obtain rfl:=aw e;simp only[List.contains_cons,List.contains_nil,JG,HS]at h;exact J (bk _ _ _ _) (J (ak (kz h)) X)
 .revert e;refine u5 (λO br e=>?_);subst br;exact vu h e
theorem fO(e:iS r C=f (T',bh,K')):bh=C:=by delta iS at e;revert e;refine dx (λO br e=>?_);subst br;(refine JM e ?_);rfl
theorem Eu{K':AV->St->al->af (St × al × Fl)}(hf:∀ x Y C T' bh g,K' x Y C=f (T',bh,g)->ao bh i=ao C i):∀(Z:al) (Y:St) (C:al) (T':St) (bh:al) (g:Fl),lU K' Z Y C=f (T',bh,g)->ao bh i=ao C i:=λw'=>by induction w' with|nil=>intro Y C T' bh g e;(dsimp only[lU]at e;simp only[dQ,rU]at e);exact J e.2.1 X|cons x Z ih=>
  intro Y C T' bh g e;dsimp only[lU]at e;revert e;refine Dm (λO O O N e=>?_) (λO O O N e=>?_)
  ·(refine JM e ?_);exact hf _ _ _ _ _ _ N
  .exact J (ih _ _ _ _ _ e) (J (hf _ _ _ _ _ _ N) X)
theorem zl{t:St->al->jq}{K':St->al->af (St × al × Fl)}(hf:∀ Y C T' bh g,K' Y C=f (T',bh,g)->ao bh i=ao C i):∀(n:a_) (Y:St) (C:al) (T':St) (bh:al) (g:Fl),eZ t K' n Y C=f (T',bh,g)->ao bh i=ao C i:=λw'=>by induction w' with|zero=>intro Y C T' bh g e;exact nS e|succ n ih=>
  intro Y C T' bh g e;dsimp only[eZ]at e;revert e;refine sh (λO O e=>?_) (λO O e=>?_)
  .revert e;refine Dm (λO O O N e=>?_) (λO O O N e=>?_)
   ·(refine JM e ?_);exact hf _ _ _ _ _ N
   .exact J (ih _ _ _ _ _ e) (J (hf _ _ _ _ _ N) X)
  ·(refine JM e ?_);rfl
theorem pn:∀(c:CS),asg i c=N'->∀(Y:St) (C:al) (T':St) (bh:al) (K':Fl),ex c Y C=f (T',bh,K')->ao bh i=ao C i:=by
 intro c
 induction c with
 |assign j e=>intro h Y C T' bh K' q;dsimp only[ex]at q;revert q;refine aM (λO O O q=>?_);refine dH (oT q) λbr bK fJ=>?_;subst br;subst bK;clear q;subst fJ;rw[bk,ak];rintro rfl;dsimp only[asg]at h;simp at h
 |bj is e=>intro h Y C T' bh K' q;dsimp only[ex]at q;revert q;refine qP (λO O O=>d0 (λO hb q=>?_));((refine dH (oT q) λbr bK fJ=>?_;subst br;subst bK;clear q;subst fJ));exact vu h hb
 |dh o j e=>intro h Y C T' bh K' q;dsimp only[ex]at q;revert q;exact aM (λO O O=>iP (λO O O=>aM (λO O O q=>J (fO q) X)))
 |aug k j e=>intro h Y C T' bh K' q;dsimp only[ex]at q;revert q;refine MN (λO O=>Dk (λO O O=>gQ (λO O q=>?_)));cases q;rw[bk,ak];rintro rfl;(dsimp only[asg]at h;simp at h)
 |iL k o j e=>intro h Y C T' bh K' q;dsimp only[ex]at q;revert q;exact iP (λO O O=>aM (λO O O=>T2 (λO O=>Dk (λO O O=>gQ (λO O q=>J (fO q) X)))))
 |ret e=>intro h Y C T' bh K' q;dsimp only[ex]at q;revert q;refine aM (λO O O q=>?_);cases q;rfl
 |iff t a b B hb=>
  intro h Y C T' bh K' q;dsimp only[asg]at h;rw[JF]at h;dsimp only[ex]at q;revert q;refine sh (λO O q=>?_) (λO O q=>?_)
  .exact B h.1 _ _ _ _ _ q
  .exact hb h.2 _ _ _ _ _ q
 |kH t b hb=>intro h Y C T' bh K' q;dsimp only[ex]at q;exact zl (λY C T' bh g=>hb h Y C T' bh g) _ _ _ _ _ _ q
 |gF C' ik it b hb=>intro h Y C T' bh K' q;refine ib λGq zq=>?_;dsimp only[asg]at h;rw[JF]at h;dsimp only[ex,Kc]at q;revert q;refine aM (λO O O=>oS (λO O O q=>?_));dsimp only[j7]at q;revert q;refine dx (λO O=>mP (λO O N=>dx (λO O q=>?_)));refine cF (oP q) λaL Ka=>?_;subst aL;clear q;subst Ka;refine zq ?_;clear zq;refine Eu (λx Y C T' bh g e=>?_) _ _ _ _ _ _ N;dsimp only[oE]at e;revert e;exact d0 (λO L e=>J (hb h.2 _ _ _ _ _ e) (J (Et h.1 L) X))
 |cont=>intro h Y C T' bh K' q;(dsimp only[ex]at q;simp only[dQ,rU]at q);exact J q.2.1 X
 |qy d k=>intro h Y C T' bh K' q;dsimp only[ex]at q;revert q;refine iP (λO O O=>aZ (λO=>aM (λO O O q=>?_)) nS);exact J (fO q) X
 |qz d k=>intro h Y C T' bh K' q;dsimp only[ex]at q;revert q;refine iP (λO O O=>aZ (λO=>aM (λO O O q=>?_)) nS);exact J (fO q) X
 |append l e=>intro h Y C T' bh K' q;dsimp only[ex]at q;revert q;refine iP (λO O O=>aZ (λO=>aM (λO O O q=>?_)) nS);exact J (fO q) X
 |extend l e=>intro h Y C T' bh K' q;dsimp only[ex]at q;revert q;refine iP (λO O O=>aZ (λO=>aM (λO O O q=>?_)) nS);exact J (fO q) X
 |sort l=>intro h Y C T' bh K' q;dsimp only[ex]at q;revert q;refine iP (λO O O=>aZ (λO q=>?_) nS);exact J (fO q) X
 |expr e=>intro h Y C T' bh K' q;dsimp only[ex]at q;revert q;refine aM (λO O O q=>?_);cases q;rfl
 |raise=>intro h Y C T' bh K' q;exact nS q
 |skip=>intro h Y C T' bh K' q;(dsimp only[ex]at q;simp only[dQ,rU]at q);exact J q.2.1 X
 |seq a b B hb=>
  intro h Y C T' bh K' q;dsimp only[asg]at h;rw[JF]at h;dsimp only[ex]at q;revert q;refine ZU (λO O N q=>?_) λq=>?_
  .exact J (hb h.2 _ _ _ _ _ q) (J (B h.1 _ _ _ _ _ N) X)
  .exact B h.1 _ _ _ _ _ q
noncomputable def app:CS->CS->CS|.seq a b,iv=>.seq a (app b iv)|.skip,iv=>iv|c,iv=>.seq c iv
theorem OI:∀(ρ iv:CS) (Y:St) (C:al),ex (app ρ iv) Y C=match ex ρ Y C with|f (σ1,lh,.next)=>ex iv σ1 lh|r=>r:=by
 intro ρ
 induction ρ with
 |seq a b B hb=>
  intro iv Y C;dsimp only[app,ex];rcases ex a Y C with _|⟨σ1,lh,K'⟩
  .rfl
  .cases K' with|next=>exact hb iv σ1 lh|_=>rfl
 |skip=>intro iv Y C;dsimp only[app,ex]
 |_=>intro iv Y C;rfl
noncomputable abbrev ZP:=d_ (a_ × G)
noncomputable def zm:G->e_|.ofNat n=>f_ n 0|.negSucc O=>N'
def fP(c:a_)(n:G):ZP->ZP|[]=>[(c,n)]|p::r=>match f_ p.1 c with|V=>(match zm (U? p.2 n) with|V=>r|N'=>(c,U? p.2 n)::r)|N'=>p::fP c n r
noncomputable def mx (c:a_) (n:G):ZP->ZP|[]=>[(c,n)]|p::r=>match f_ p.1 c with|V=>(c,n)::r|N'=>p::mx c n r
noncomputable def oI (c:a_):ZP->ZP|[]=>[]|p::r=>match f_ p.1 c with|V=>r|N'=>p::oI c r
noncomputable def fQ:ZP->a_ × G->a_ × G|[],b=>b|p::r,b=>match k_ p.1 b.1 with|V=>fQ r b|N'=>fQ r p
noncomputable def YF (c:a_):e_:=f_ (Nat.land (r_ c 546) 2184) 0
noncomputable def pv (l c:a_):e_:=f_ (Nat.land (Y_ (r_ c 2184) l) 2184) 2184
def As(s:a_)(K':G):ZP->ZP->af ZP|[],h2=>f h2|p::r,h2=>match YF (r_ p.1 s) with|V=>As s K' r (fP (r_ p.1 s) (L? (Int.mul p.2 K')) h2)|N'=>R
def BZ(s:a_):ZP->af ZP|[]=>f []|p::r=>match YF (r_ p.1 s) with|V=>(match BZ s r with|f q=>f ((r_ p.1 s,p.2)::q)|R=>R)|N'=>R
structure ZE where
 l:a_
 b:a_
 p:ZP
def kb(c:a_):d_ ZE->af ZE|[]=>R|e::r=>match pv e.l c with|V=>f e|N'=>kb c r
noncomputable def zbd (b:a_):e_:=k_ b 1000000000
def Ew(Ls:d_ ZE):a_->a_->ZP->ZP->af (a_ × ZP)|0,O,O',O''=>R|n+1,b,D',left=>match left with|[]=>f (b,D')|p::r=>match fQ r p with|(c,a)=>match kb c Ls with|R=>Ew Ls n b (mx c a D') (oI c left)|f e=>match zbd (r_ b (z? a.natAbs e.b)) with|V=>(match As (Y_ c e.l) a e.p left with|f vx=>Ew Ls n (r_ b (z? a.natAbs e.b)) D' vx|R=>R)|N'=>R
noncomputable def OJ:ZP->ZP|[]=>[]|p::r=>(p.1,L? p.2)::OJ r
def rE(b:a_)(P:ZP):af ZE:=match P with|[]=>R|p::r=>match fQ r p with|(c,.ofNat n)=>(match f_ n 1 with|V=>f ⟨c,b,P⟩|N'=>R)|(c,.negSucc n)=>match f_ n 0 with|V=>f ⟨c,b,OJ P⟩|N'=>R
noncomputable def lC (a b:a_):a_:=match k_ a b with|V=>b|N'=>a
noncomputable def lN (a b:a_):a_:=match k_ a b with|V=>a|N'=>b
def eO(a b:a_):a_:=r_ (z? (lC (J? a 256) (J? b 256)) 256) (r_ (z? (lC (q? (J? a 16) 16) (q? (J? b 16) 16)) 16) (lC (q? a 16) (q? b 16)))
def t9(a b:a_):e_:=match f_ (lN (J? a 256) (J? b 256)) 0 with|V=>(match f_ (lN (q? (J? a 16) 16) (q? (J? b 16) 16)) 0 with|V=>f_ (lN (q? a 16) (q? b 16)) 0|N'=>N')|N'=>N'
def OK(K' g:ZE):af (a_ × ZP):=match zbd (r_ K'.b g.b) with|V=>(match BZ (Y_ (eO K'.l g.l) K'.l) K'.p with|f S=>(match As (Y_ (eO K'.l g.l) g.l) 1 g.p S with|f iv=>f (r_ K'.b g.b,iv)|R=>R)|R=>R)|N'=>R
noncomputable def OL:d_ ZE->a_->af ZE|[],O=>R|e::r,i=>match f_ i 0 with|V=>f e|N'=>OL r (Y_ i 1)
structure ZW where
 j:a_
 i:a_
 k:a_
noncomputable def OM (a b:ZW):e_:=match k_ b.j a.j with|N'=>V|V=>match k_ a.j b.j with|N'=>N'|V=>match k_ b.i a.i with|N'=>V|V=>match k_ a.i b.i with|N'=>N'|V=>t_ a.k b.k
def c0:d_ ZW->ZW->ZW|[],b=>b|w::r,b=>match OM w b with|V=>c0 r w|N'=>c0 r b
noncomputable def sQ (a b:ZW):e_:=match f_ a.i b.i with|V=>f_ a.k b.k|N'=>N'
def eW(w:ZW):d_ ZW->d_ ZW|[]=>[]|v::r=>match sQ v w with|V=>eW w r|N'=>v::eW w r
noncomputable def zo (i k:a_):d_ ZW->e_|[]=>N'|v::r=>match f_ v.i i with|V=>(match f_ v.k k with|V=>V|N'=>zo i k r)|N'=>zo i k r
def vy(w:ZW)(W:d_ ZW):a_->d_ ZE->e_|O,[]=>N'|at_,e::r=>match f_ at_ w.i||f_ at_ w.k||!(pv e.l w.j) with|V=>vy w W (b? at_) r|N'=>match zo (lN w.i at_) (lC w.i at_) W||zo (lN w.k at_) (lC w.k at_) W with|V=>vy w W (b? at_) r|N'=>V
def my(l n:a_):a_->d_ ZE->d_ ZW|O,[]=>[]|i,e::r=>⟨eO e.l l,i,n⟩::my l n (b? i) r
def Ex:a_->d_ ZE->d_ ZW->af (d_ ZE)|0,O,O'=>R|m+1,Bs,W=>match W with|[]=>f Bs|v::r=>match c0 r v with|w=>match eW w W with|W'=>match OL Bs w.i with|R=>R|f K'=>match OL Bs w.k with|R=>R|f g=>match t9 K'.l g.l||vy w W' 0 Bs with|V=>Ex m Bs W'|N'=>match OK K' g with|R=>R|f (b,S)=>match Ew Bs 200 b [] S with|R=>R|f (b,iv)=>match iv with|[]=>Ex m Bs W'|_=>match rE b iv with|R=>R|f e=>Ex m (Bs++[e]) (W'++my e.l Bs.length 0 Bs)
def oJ(c:a_):d_ ZE->e_|[]=>N'|e::r=>match pv e.l c with|V=>V|N'=>oJ c r
def nV:d_ ZE->d_ ZE->d_ ZE|O,[]=>[]|Ps,e::r=>match oJ e.l Ps||oJ e.l (r.filter λd=>!(f_ d.l e.l)) with|V=>nV (Ps++[e]) r|N'=>e::nV (Ps++[e]) r
def GG:d_ ZE->d_ ZE->af (d_ ZE)|[],Ds=>f Ds|e::r,Ds=>match Ew Ds 200 e.b [] e.p with|R=>R|f (b,iv)=>match rE b iv with|R=>R|f d=>GG r (Ds++[d])
noncomputable def B0:d_ ZE->e_|e::d::r=>(match t_ d.l e.l with|V=>B0 (d::r)|N'=>N')|_=>V
def Au(K' g:ZP):af (d_ ZE):=match rE 2 K' with
 |R=>R
 |f e=>match rE 2 g with
  |R=>R
  |f d=>match Ex 200 [e,d] [⟨eO e.l d.l,0,1⟩]with
   |R=>R
   |f Bs=>match nV [] Bs with
    |Ms=>match B0 Ms&&(k_ 2 Ms.length&&t_ Ms.length 64) with
     |N'=>R
     |V=>match GG Ms.reverse []with
      |R=>R
      |f Ds=>f (Ds.filter λe=>e.p.all λp=>t_ p.1 256)
def ew(a:a_):a_->aA->ZP|O,[]=>[]|i,c::r=>match zm c with|V=>ew a (b? i) r|N'=>(z? i 256,L? c)::ew a (b? i) r
def jO(p:aA):ZP:=(16,1)::ew 0 0 p
def kL(p:aA):ZP:=(1,1)::ew 0 0 p
section
variable{β:Type}{r:β}{Y':Prop}
theorem XA{F:ZE->af β}:(∀ e,x=f e->F e=f r->Y')->(match x with |R=>R|f e=>F e)=f r->Y':=by intro k;cases x with|none=>(exact λh=>nomatch h)|some e=>exact k e X
theorem zsL{F:d_ ZE->af β}:(∀ e,x=f e->F e=f r->Y')->(match x with |R=>R|f e=>F e)=f r->Y':=by intro k;cases x with|none=>(exact λh=>nomatch h)|some e=>exact k e X
theorem zsP{F:a_->ZP->af β}:(∀ b e,x=f (b,e)->F b e=f r->Y')->(match x with |R=>R|f (b,e)=>F b e)=f r->Y':=by
 intro k;rcases x with _|⟨b,e⟩
 .exact λh=>nomatch h
 .exact k b e X
theorem zsZ{F:ZP->af β}:(∀ e,x=f e->F e=f r->Y')->(match x with|f e=>F e |R=>R)=f r->Y':=by intro k;cases x with|none=>(exact λh=>nomatch h)|some e=>exact k e X
theorem zsN{j':ZP->af β}:(x=[]->F=f r->Y')->(x≠[]->j' x=f r->Y')->(match x with|[]=>F|x=>j' x)=f r->Y':=by intro k l;cases x with|nil=>exact k X|cons p x=>exact l (λh=>nomatch h)
end
def fR(aeN:aC->ft):aC->ft
 |[.dict bJ,.b (.tup k),.b (.tup r)]=>match keyOf k with
  |f ks=>match (match jS bJ ks with|f v=>aeN [.b v,.b (.tup r)] |R=>f (.b (.tup r))) with|f (.b t)=>(match fy ⟨0,.nil⟩ .eq t (.tup [.int 0,.int 1]) with|f V=>if bJ.length<=lim then f (.dict (lM bJ ks)) else .none|f N'=>if bJ.length<=lim then f (.dict (iK bJ ks t)) else .none|R=>R)|_=>R
  |R=>R
 |_=>R
def xH(ON:aC->ft)(T:CE)(D1 D2:CS):a_->aC->d_ (dc)->ft
 |0,O,O'=>R
 |n+1,M,qs=>match ax T M with
  |f (.b (.bool V))=>match aD [6,7] D1 M with
   |f (vs1,.cont)=>xH ON T D1 D2 n vs1 qs
   |f (vs1,.next)=>match bf vs1 9 with
    |.b (.int (.ofNat i))=>match qs[i]? with
     |f q=>match bf vs1 12 with
      |.b k=>match bf vs1 13 with
       |.b r=>match ON [.dict q,.b k,.b r]with
        |f (.dict q')=>match aD [6,7] D2 vs1 with|f (vs2,.next)=>xH ON T D1 D2 n vs2 (qs.set i q')|_=>R
        |_=>R
       |_=>R
      |_=>R
     |R=>R
    |_=>R
   |_=>R
  |f (.b (.bool N'))=>match bf M 6 with|.dict iv=>f (.dict iv)|_=>R
  |_=>R
def jA(ON:aC->ft)(M1 M4:CS)(T:CE)(D1 D2:CS):aC->ft
 |[.dict K',.list Bs,.b (.str o)]=>match aD [6,7] M1 ([.dict K',.list Bs,.b (.str o)]++bz 16) with
  |f (vs1,.next)=>match tC .dict [.dict K']with
   |f (.dict f')=>match aD [6,7] M4 (bM (bM (bM vs1 6 (.dict [])) 7 (.dict f')) 8 (.b (.int 0))) with|f (Uq,.next)=>if Bs.length<=lim then xH ON T D1 D2 100000 Uq (l_ Bs.length []) else .none|_=>R
   |_=>R
  |_=>R
 |_=>R
end Mine.Internal
end
section
open PySem PyProof.Rows
namespace Mine.Internal
def pq(np more:a_)(ha:CS)(fr:e_):gz:=⟨prun [] np more ha,fr,N'⟩
noncomputable abbrev bw:CE:=.var 0
noncomputable abbrev aS:CE:=.var 1
noncomputable abbrev cM:CE:=.var 2
noncomputable abbrev cD:CE:=.var 3
noncomputable abbrev jg:CE:=.var 4
noncomputable abbrev kc:CE:=.var 5
noncomputable abbrev lO:CE:=.var 6
noncomputable abbrev rV:CE:=.var 7
noncomputable abbrev tE:CE:=.var 8
noncomputable abbrev yE:CE:=.var 9
noncomputable abbrev iY:CE:=.var 10
noncomputable abbrev mz:CE:=.var 11
noncomputable abbrev GH:CE:=.var 12
noncomputable abbrev ua:CE:=.var 13
noncomputable abbrev xI:CE:=.var 14
noncomputable abbrev Ey:CE:=.var 15
noncomputable abbrev pz:CE:=.var 16
noncomputable abbrev nj:CE:=.var 17
noncomputable abbrev abl:CE:=.var 18
noncomputable abbrev bC:CE:=.k (.int 0)
noncomputable abbrev bQ:CE:=.k (.int 1)
noncomputable abbrev nG:CE:=.k (.int 2)
noncomputable abbrev B2:CE:=.k (.int 3)
noncomputable abbrev zI4:CE:=.k (.int 4)
noncomputable abbrev zI5:CE:=.k (.int 5)
noncomputable abbrev zI7:CE:=.k (.int 7)
noncomputable abbrev So:CE:=.k (.int 12)
noncomputable abbrev KU:CE:=.k (.int 13)
noncomputable abbrev abm:CE:=.k (.int 64)
noncomputable abbrev abn:CE:=.k (.int 200)
noncomputable abbrev XB:CE:=.k (.int 4096)
noncomputable abbrev bx (a:CE):CE:=.cons a .nil
noncomputable abbrev aO (a b:CE):CE:=.cons a (.cons b .nil)
noncomputable abbrev iD (a b c:CE):CE:=.cons a (.cons b (.cons c .nil))
noncomputable abbrev Sp (a b c d:CE):CE:=.cons a (.cons b (.cons c (.cons d .nil)))
def pA:CS:=(.seq (.iff (.cmp .eq bw (.k (.str 0))) (.seq (.ret aS)
 .skip) .skip)
 (.seq (.iff (.cmp .eq bw (.k (.str 1))) (.seq (.ret (.bin .add (.bc (bx (.bi .sum (bx aS)))) aS))
 .skip) .skip)
 (.seq (.iff (.cmp .eq bw (.k (.str 2))) (.seq (.ret (.bin .add (.bc (bx (.bi .sum (bx aS)))) (.bi .tuple (bx (.bq (.neg cM) [2] .plain .bad)))))
 .skip) .skip)
 (.seq .raise
 .skip))))
def pB:Fn:=bt 2 1 pA
def d6:gz:=pq 2 1 pA N'
abbrev d7(a:CE):CE:=.call "order_key" pB d6 a
def cI:CS:=(.seq (.bj [3,4] (.bc (aO (.k .none) (.k .none))))
 (.seq (.gF [2] .plain bw (.seq (.assign 5 (d7 (aO aS cM)))
 (.seq (.iff (.or (.isNone V cD) (.cmp .gt kc jg)) (.seq (.bj [3,4] (.bc (aO cM kc)))
 .skip) .skip)
 .skip)))
 (.seq (.ret (.ite (.isNone V cD) (.k .none) (.bc (aO cD (.idx bw cD)))))
 .skip)))
def xJ:Fn:=bt 2 4 cI
def eP:gz:=pq 2 4 cI N'
abbrev bN(a:CE):CE:=.call "mvlead" xJ eP a
def cJ:CS:=(.seq (.gF [2,3] .enum bw (.seq (.iff (.cmp .gt cD (.idx aS cM)) (.seq (.ret (.k (.bool N')))
 .skip) .skip)
 .skip))
 (.seq (.ret (.k (.bool V)))
 .skip))
def gW:Fn:=bt 2 2 cJ
def cK:gz:=pq 2 2 cJ N'
abbrev nk(a:CE):CE:=.call "powers_divide" gW cK a
def bI:CS:=(.seq (.gF [2,3] .enum aS (.seq (.iff (.and (.isNone N' cD) (nk (aO (.idx cD bC) bw))) (.seq (.ret cM)
 .skip) .skip)
 .skip))
 (.seq (.ret (.neg bQ))
 .skip))
def kg:Fn:=bt 2 2 bI
def cR:gz:=pq 2 2 bI N'
abbrev eQ(a:CE):CE:=.call "first_divisor" kg cR a
def kM:CS:=(.seq (.ret (.cmp .ge (eQ (aO bw (.bq (.bc (aO cM (.glob "R1" (.tup [.int 1,.int 1])))) [2] .plain aS))) bC))
 .skip)
def nW:Fn:=bt 2 1 kM
def gk:gz:=pq 2 1 kM N'
abbrev zu(a:CE):CE:=.call "is_divided" nW gk a
def cx:CS:=(.seq (.assign 2 (.bR iY [10] .plain bw (.cmp .gt (.bi .len (bx iY)) bC)))
 (.seq (.assign 3 (.bq (.idx (bN (aO yE aS)) bC) [9] .plain cM))
 (.seq (.assign 4 (.lst .nil))
 (.seq (.gF [5,6] .enum cD (.seq (.assign 7 (.bin .add (.gK cD kc) (.bR tE [8] .plain (.fu cD (.bin .add kc bQ)) (.cmp .ne tE lO))))
 (.seq (.iff (.not (zu (aO lO rV))) (.seq (.append 4 (.idx cM kc))
 .skip) .skip)
 .skip)))
 (.seq (.ret jg)
 .skip)))))
def kh:Fn:=bt 2 9 cx
def ki:gz:=⟨prun [4] 2 9 cx,V,N'⟩
abbrev uc(a:CE):CE:=.call "minimal_basis" kh ki a
def lX:CS:=(.seq (.bj [0,1] (.bc (aO (.bi .abs (bx bw)) (.bi .abs (bx aS)))))
 (.seq (.kH (.cmp .ne aS bC) (.seq (.bj [0,1] (.bc (aO aS (.bin .mod bw aS))))
 .skip))
 (.seq (.ret bw)
 .skip)))
def OO:Fn:=bt 2 0 lX
def Av:gz:=pq 2 0 lX N'
abbrev xK(a:CE):CE:=.call "gcd" OO Av a
def pC:CS:=(.seq (.iff (.cmp .eq aS bC) (.seq .raise
 .skip) .skip)
 (.seq (.assign 2 (.ite (.cmp .gt aS bC) (xK (aO bw aS)) (.bin .sub bC (xK (aO bw aS)))))
 (.seq (.ret (.bc (aO (.bin .fdiv bw cM) (.bin .fdiv aS cM))))
 .skip)))
def OP:Fn:=bt 2 1 pC
def Jg:gz:=pq 2 1 pC N'
abbrev B3(a:CE):CE:=.call "rat" OP Jg a
def B4:CS:=(.seq (.ret (B3 (aO (.bin .mul (.idx bw bC) (.idx aS bC)) (.bin .mul (.idx bw bQ) (.idx aS bQ)))))
 .skip)
def GI:Fn:=bt 2 0 B4
def B5:gz:=pq 2 0 B4 N'
abbrev Jh(a:CE):CE:=.call "rmul" GI B5 a
def ip:CS:=(.seq (.iff (.cmp .eq aS (.glob "R0" (.tup [.int 0,.int 1]))) (.seq (.ret .gA)
 .skip) .skip)
 (.seq (.ret (.jU cM (Jh (aO (.idx bw cM) aS)) [2] .plain bw))
 .skip))
def ud:Fn:=bt 2 1 ip
def ue:gz:=pq 2 1 ip V
abbrev GJ(a:CE):CE:=.call "mvscale" ud ue a
def xM:CS:=(.seq (.ret (B3 (aO (.idx bw bQ) (.idx bw bC))))
 .skip)
def GK:Fn:=bt 1 0 xM
def rF:gz:=pq 1 0 xM N'
abbrev B6(a:CE):CE:=.call "rinv" GK rF a
def qe:CS:=(.seq (.assign 2 (bN (aO bw aS)))
 (.seq (.ret (.ite (.isNone V cM) .gA (GJ (aO bw (B6 (bx (.idx cM bQ)))))))
 .skip))
def uf:Fn:=bt 2 1 qe
def gn:gz:=pq 2 1 qe V
abbrev fS(a:CE):CE:=.call "mvmonic" uf gn a
def xN:CS:=(.seq (.ret (B3 (aO (.bin .add (.bin .mul (.idx bw bC) (.idx aS bQ)) (.bin .mul (.idx aS bC) (.idx bw bQ))) (.bin .mul (.idx bw bQ) (.idx aS bQ)))))
 .skip)
def GL:Fn:=bt 2 0 xN
def pD:gz:=pq 2 0 xN N'
abbrev Ji(a:CE):CE:=.call "radd" GL pD a
def nX:CS:=(.seq (.assign 3 (.ite (.isin V aS bw) (Ji (aO (.idx bw aS) cM)) cM))
 (.seq (.iff (.cmp .eq cD (.glob "R0" (.tup [.int 0,.int 1]))) (.seq (.qy 0 aS)
 .skip) (.seq (.dh 0 aS cD)
 .skip))
 .skip))
def jB:Fn:=bt 3 1 nX
def c6:gz:=⟨fR pD.fn,N',V⟩
abbrev vz(a:CE):CE:=.call "add_term" jB c6 a
def gX:CS:=(.seq (.assign 2 (.bi .dict (bx bw)))
 (.seq (.gF [3] .plain aS (.seq (.expr (vz (iD cM cD (.idx aS cD))))
 .skip))
 (.seq (.ret cM)
 .skip)))
def B7:Fn:=bt 2 2 gX
def B8:gz:=⟨prun [2] 2 2 gX,V,N'⟩
abbrev OQ(a:CE):CE:=.call "mvadd" B7 B8 a
def GN:CS:=(.seq (.ret (.bc (aO (.bin .sub bC (.idx bw bC)) (.idx bw bQ))))
 .skip)
def GO:Fn:=bt 1 0 GN
def B9:gz:=pq 1 0 GN N'
abbrev Sq(a:CE):CE:=.call "rneg" GO B9 a
def qf:CS:=(.seq (.ret (.jU aS (Sq (bx (.idx bw aS))) [1] .plain bw))
 .skip)
def Ca:Fn:=bt 1 1 qf
def Cb:gz:=pq 1 1 qf V
abbrev OR(a:CE):CE:=.call "mvneg" Ca Cb a
def wb:CS:=(.seq (.ret (OQ (aO bw (OR (bx aS)))))
 .skip)
def Cc:Fn:=bt 2 0 wb
def qg:gz:=pq 2 0 wb V
abbrev Ez(a:CE):CE:=.call "mvsub" Cc qg a
def Aw:CS:=(.seq (.assign 1 bC)
 (.seq (.gF [2] .plain (.bc (iD XB abm bQ)) (.seq (.assign 3 (.bin .pow nG cM))
 (.seq (.kH (.cmp .ge bw cD) (.seq (.bj [0,1] (.bc (aO (.bin .fdiv bw cD) (.bin .add aS cM))))
 .skip))
 .skip)))
 (.seq (.ret (.bin .add aS bw))
 .skip)))
def ug:Fn:=bt 1 3 Aw
noncomputable def Ax:gz:=⟨λO=>R,N',N'⟩
abbrev GP(a:CE):CE:=.call "bits_of" ug Ax a
def qh:CS:=(.seq (.assign 1 (.bi .max2 (aO (.bi .abs (bx (.idx bw bC))) (.idx bw bQ))))
 (.seq (.ret (.and (.cmp .ge aS (.bin .pow nG abm)) (.cmp .gt (GP (bx aS)) (.glob "MOST_BITS" (.int 200000)))))
 .skip))
def uh:Fn:=bt 1 1 qh
def qi:gz:=pq 1 1 qh N'
abbrev GQ(a:CE):CE:=.call "is_vast" uh qi a
def iZ:CS:=(.seq (.ret (.bi .tuple (bx (.bq (.bin .sub cD (.idx aS cM)) [2,3] .enum bw))))
 .skip)
def i6:Fn:=bt 2 2 iZ
def cn:gz:=pq 2 2 iZ N'
abbrev g9(a:CE):CE:=.call "powers_quotient" i6 cn a
def xO:CS:=(.seq (.ret (B3 (aO (.bin .mul (.idx bw bC) (.idx aS bQ)) (.bin .mul (.idx bw bQ) (.idx aS bC)))))
 .skip)
def GR:Fn:=bt 2 0 xO
def Cd:gz:=pq 2 0 xO N'
abbrev Sr(a:CE):CE:=.call "rdiv" GR Cd a
def jC:CS:=(.seq (.ret (.bi .tuple (bx (.bq (.bin .add cD (.idx aS cM)) [2,3] .enum bw))))
 .skip)
def jD:Fn:=bt 2 2 jC
def gr:gz:=pq 2 2 jC N'
abbrev sR(a:CE):CE:=.call "powers_product" jD gr a
def iq:CS:=(.seq (.iff (.cmp .eq cM (.glob "R0" (.tup [.int 0,.int 1]))) (.seq (.ret .gA)
 .skip) .skip)
 (.seq (.ret (.jU (sR (aO cD aS)) (Jh (aO (.idx bw cD) cM)) [3] .plain bw))
 .skip))
def ui:Fn:=bt 3 1 iq
def jE:gz:=pq 3 1 iq V
abbrev rG(a:CE):CE:=.call "mvshift" ui jE a
def dk:CS:=(.assign 3 (.bq (bN (aO xI cM)) [14] .plain aS))
def lY:CS:=(.assign 4 (.bq .gA [15] .plain aS))
def lZ:CS:=(.bj [6,7,8] (.bc (iD .gA (.bi .dict (bx bw)) bC)))
def dm:CS:=(.assign 5 (.bi .yH (bx (.bin .add (.lst (bx (.glob "MOST_FAR" (.int 20000)))) (.dJ nj [16] .plain bw [17] .plain pz)))))
def dN:CE:=(.cmp .gt (.bi .len (bx rV)) bC)
def fU:CS:=(.bj [10,11] (bN (aO rV cM)))
def fV:CS:=(.aug .add 8 (.bi .len (bx rV)))
def fW:CS:=(.iff (.or (.cmp .gt tE (.glob "MOST_WORK" (.int 3000000))) (.or (GQ (bx mz)) (.bi .any (bx (.bq (.cmp .gt abl kc) [18] .plain iY))))) (.seq .raise
 .skip) .skip)
def fX:CS:=(.assign 9 (eQ (aO iY cD)))
def fY:CS:=(.iff (.cmp .lt yE bC) (.seq (.dh 6 iY mz)
 (.seq (.qz 7 iY)
 (.seq .cont
 .skip))) .skip)
def ir:CS:=(.bj [12,13] (.bc (aO (g9 (aO iY (.idx (.idx cD yE) bC))) (Sr (aO mz (.idx (.idx cD yE) bQ))))))
def pE:CS:=(.expr (vz (iD (.idx jg yE) GH ua)))
def jZ:CS:=(.assign 7 (Ez (aO rV (rG (iD (.idx aS yE) GH ua)))))
def pF:CS:=(.ret (.bc (aO jg lO)))
def cS:CS:=.seq fU (.seq fV (.seq fW (.seq fX (.seq fY (.seq ir .skip)))))
def dE:CS:=.seq jZ .skip
def nY:CS:=(.seq dk (.seq lY (.seq lZ (.seq dm (.seq (.kH dN (.seq fU (.seq fV (.seq fW (.seq fX (.seq fY (.seq ir (.seq pE (.seq jZ .skip))))))))) (.seq pF .skip))))))
def nZ:Fn:=bt 3 16 nY
noncomputable def GU:gz:=⟨λO=>R,N',N'⟩
abbrev EA(a:CE):CE:=.call "mvdivide" nZ GU a
def nq:CS:=(.seq (.ret (.idx (EA (iD bw aS cM)) bQ))
 .skip)
def qj:Fn:=bt 3 0 nq
def kU:gz:=⟨jA c6.fn dk dm dN cS dE,V,N'⟩
abbrev hF(a:CE):CE:=.call "rest_of" qj kU a
def cv:CS:=(.seq (.assign 2 (uc (aO bw aS)))
 (.seq (.assign 3 (.bq (.bc (aO (d7 (aO aS (.idx (bN (aO tE aS)) bC))) rV)) [7,8] .enum cM))
 (.seq (.sort 3)
 (.seq (.assign 4 (.lst .nil))
 (.seq (.gF [5,6] .plain cD (.seq (.append 4 (fS (aO (hF (iD (.idx cM lO) jg aS)) aS)))
 .skip))
 (.seq (.ret jg)
 .skip))))))
def lD:Fn:=bt 2 7 cv
def lE:gz:=⟨prun [3,4] 2 7 cv,V,N'⟩
abbrev kj(a:CE):CE:=.call "reduced_form" lD lE a
def mA:CS:=(.seq (.ret (.bi .tuple (bx (.bq (.bi .max2 (aO cD (.idx aS cM))) [2,3] .enum bw))))
 .skip)
def mB:Fn:=bt 2 2 mA
def eA:gz:=pq 2 2 mA N'
abbrev lF(a:CE):CE:=.call "powers_join" mB eA a
def n4:CS:=(.seq (.assign 3 (lF (aO (.idx aS (.idx bw bC)) (.idx aS (.idx bw bQ)))))
 (.seq (.ret (.bc (aO (d7 (aO cM cD)) bw)))
 .skip))
def rH:Fn:=bt 3 1 n4
def hG:gz:=pq 3 1 n4 N'
abbrev EB(a:CE):CE:=.call "pair_key" rH hG a
def bS:CS:=(.seq (.bj [4,5] (.bc (aO (.k .none) (.k .none))))
 (.seq (.gF [3] .plain bw (.seq (.assign 6 (EB (iD cD aS cM)))
 (.seq (.iff (.or (.isNone V jg) (.cmp .lt lO kc)) (.seq (.bj [4,5] (.bc (aO cD lO)))
 .skip) .skip)
 .skip)))
 (.seq (.ret jg)
 .skip)))
def n5:Fn:=bt 3 4 bS
def kN:gz:=pq 3 4 bS N'
abbrev zv(a:CE):CE:=.call "least_pair" n5 kN a
def mC:CS:=(.seq (.ret (.bi .tuple (bx (.bq (.bi .min2 (aO cD (.idx aS cM))) [2,3] .enum bw))))
 .skip)
def mD:Fn:=bt 2 2 mC
def mE:gz:=pq 2 2 mC N'
abbrev pG(a:CE):CE:=.call "powers_meet" mD mE a
def l6:CS:=(.seq (.ret (.cmp .eq (.bi .sum (bx (pG (aO bw aS)))) bC))
 .skip)
def pH:Fn:=bt 2 0 l6
def j0:gz:=pq 2 0 l6 N'
abbrev Ce(a:CE):CE:=.call "are_apart" pH j0 a
def ck:CS:=(.seq (.bj [4,5] bw)
 (.seq (.iff (Ce (aO (.idx cM jg) (.idx cM kc))) (.seq (.ret (.k (.bool V)))
 .skip) .skip)
 (.seq (.assign 3 (lF (aO (.idx cM jg) (.idx cM kc))))
 (.seq (.gF [6,7] .enum cM (.seq (.iff (.or (.isin V lO bw) (.not (nk (aO rV cD)))) (.seq .cont
 .skip) .skip)
 (.seq (.iff (.and (.isin N' (.bc (aO (.bi .min2 (aO jg lO)) (.bi .max2 (aO jg lO)))) aS) (.isin N' (.bc (aO (.bi .min2 (aO kc lO)) (.bi .max2 (aO kc lO)))) aS)) (.seq (.ret (.k (.bool V)))
 .skip) .skip)
 .skip)))
 (.seq (.ret (.k (.bool N')))
 .skip)))))
def mF:Fn:=bt 3 5 ck
def jP:gz:=pq 3 5 ck N'
abbrev xP(a:CE):CE:=.call "is_needless" mF jP a
def sS:CS:=(.seq (.bj [5,6] (.bc (aO (bN (aO bw cM)) (bN (aO aS cM)))))
 (.seq (.assign 3 (lF (aO (.idx kc bC) (.idx lO bC))))
 (.seq (.assign 4 (rG (iD bw (g9 (aO cD (.idx kc bC))) (B6 (bx (.idx kc bQ))))))
 (.seq (.ret (Ez (aO jg (rG (iD aS (g9 (aO cD (.idx lO bC))) (B6 (bx (.idx lO bQ))))))))
 .skip))))
def xQ:Fn:=bt 3 4 sS
def pI:gz:=pq 3 4 sS V
abbrev KV(a:CE):CE:=.call "s_poly" xQ pI a
def c7:CS:=(.seq (.assign 3 (.bR (fS (aO xI aS)) [14] .plain bw (.cmp .gt (.bi .len (bx xI)) bC)))
 (.seq (.assign 4 (.bq (.idx (bN (aO ua aS)) bC) [13] .plain cD))
 (.seq (.assign 5 (.dJ (.bc (aO GH mz)) [11] .range (.bi .len (bx cD)) [12] .range mz))
 (.seq (.assign 6 bC)
 (.seq (.kH (.cmp .gt (.bi .len (bx kc)) bC) (.seq (.assign 7 (zv (iD kc jg aS)))
 (.seq (.assign 5 (.bR iY [10] .plain kc (.cmp .ne iY rV)))
 (.seq (.iff (xP (iD rV kc jg)) (.seq .cont
 .skip) .skip)
 (.seq (.aug .add 6 bQ)
 (.seq (.iff (.cmp .gt lO cM) (.seq .raise
 .skip) .skip)
 (.seq (.assign 8 (hF (iD (KV (iD (.idx cD (.idx rV bC)) (.idx cD (.idx rV bQ)) aS)) cD aS)))
 (.seq (.iff (.cmp .gt (.bi .len (bx tE)) bC) (.seq (.extend 5 (.bq (.bc (aO yE (.bi .len (bx cD)))) [9] .range (.bi .len (bx cD))))
 (.seq (.append 3 (fS (aO tE aS)))
 (.seq (.append 4 (.idx (bN (aO tE aS)) bC))
 .skip))) .skip)
 .skip))))))))
 (.seq (.ret cD)
 .skip))))))
def rI:Fn:=bt 3 12 c7
def rJ:gz:=⟨prun [3,4,5] 3 12 c7,V,N'⟩
abbrev j1(a:CE):CE:=.call "groebner" rI rJ a
def gY:CS:=(.seq (.ret (kj (aO (j1 (iD bw aS cM)) aS)))
 .skip)
def kl:Fn:=bt 3 0 gY
def km:gz:=pq 3 0 gY V
abbrev jF(a:CE):CE:=.call "reduced_basis" kl km a
def kO:CS:=(.seq (.ret (.bi .all (bx (.bq (.cmp .eq (.bi .sum (bx (.gK cM aS))) bC) [2] .plain bw))))
 .skip)
def n6:Fn:=bt 2 1 kO
def n7:gz:=pq 2 1 kO N'
abbrev gP(a:CE):CE:=.call "is_free_of" n6 n7 a
def l7:CS:=(.seq (.ret (.bR cD [3] .plain (jF (iD bw (.k (.str 0)) cM)) (gP (aO cD aS))))
 .skip)
def pJ:Fn:=bt 3 1 l7
def l8:gz:=pq 3 1 l7 V
abbrev Cf(a:CE):CE:=.call "eliminate" pJ l8 a
def dA:CS:=(.seq (.assign 2 (.idx bw bQ))
 (.seq (.dh 0 bQ (.bin .add cM bQ))
 (.seq (.iff (.cmp .lt cM (.bi .len (bx (.idx bw bC)))) (.seq (.ret (.bin .mod (.bi .abs (bx (.idx (.idx bw bC) cM))) aS))
 .skip) .skip)
 (.seq (.ret (.bin .mod (.idx (.bc (.cons bQ (.cons bC (.cons bQ (.cons bQ (.cons bQ (.cons bQ (.cons bC (.cons bQ (Sp zI5 zI4 B2 nG)))))))))) (.bin .mod cM So)) aS))
 .skip))))
def c8:Fn:=bt 2 1 dA
noncomputable def ff:gz:=⟨λO=>R,N',N'⟩
def n9:CS:=(.seq (.ret (.bin .add (.bq (.bin .sub (.call "_law_draw" c8 ff (aO bw B2)) bQ) [2] .range aS) (.lst (bx bQ))))
 .skip)
def jG:Fn:=bt 2 1 n9
noncomputable def oe:gz:=⟨λO=>R,N',N'⟩
def i7:CS:=(.seq (.assign 1 (.bi .len (bx bw)))
 (.seq (.kH (.and (.cmp .gt aS bC) (.cmp .eq (.idx bw (.bin .sub aS bQ)) bC)) (.seq (.aug .sub 1 bQ)
 .skip))
 (.seq (.ret (.bi .list (bx (.gK bw aS))))
 .skip)))
def Cg:Fn:=bt 1 1 i7
def Ch:gz:=pq 1 1 i7 V
abbrev EC(a:CE):CE:=.call "ztrim" Cg Ch a
def uj:CS:=(.seq (.assign 2 (.bi .max2 (aO (.bi .len (bx bw)) (.bi .len (bx aS)))))
 (.seq (.ret (EC (bx (.bq (.bin .add (.ite (.cmp .lt cD (.bi .len (bx bw))) (.idx bw cD) bC) (.ite (.cmp .lt cD (.bi .len (bx aS))) (.idx aS cD) bC)) [3] .range cM))))
 .skip))
def GV:Fn:=bt 2 2 uj
def GW:gz:=pq 2 2 uj V
abbrev wc(a:CE):CE:=.call "zadd" GV GW a
def GX:CS:=(.seq (.iff (.or (.cmp .eq (.bi .len (bx bw)) bC) (.cmp .eq (.bi .len (bx aS)) bC)) (.seq (.ret (.lst .nil))
 .skip) .skip)
 (.seq (.assign 2 (.bin .mul (.lst (bx bC)) (.bin .sub (.bin .add (.bi .len (bx bw)) (.bi .len (bx aS))) bQ)))
 (.seq (.gF [3,4] .enum bw (.seq (.iff (.cmp .ne jg bC) (.seq (.gF [5,6] .enum aS (.seq (.iL .add 2 (.bin .add cD kc) (.bin .mul jg lO))
 .skip))
 .skip) .skip)
 .skip))
 (.seq (.ret cM)
 .skip))))
def GY:Fn:=bt 2 5 GX
def OS:gz:=⟨prun [2] 2 5 GX,V,N'⟩
abbrev Ss(a:CE):CE:=.call "zmul" GY OS a
def rK:CS:=(.seq (.assign 2 (.lst .nil))
 (.seq (.gF [3] .rev bw (.seq (.assign 2 (wc (aO (Ss (aO cM aS)) (EC (bx (.lst (bx cD)))))))
 .skip))
 (.seq (.ret cM)
 .skip)))
def rL:Fn:=bt 2 2 rK
def jH:gz:=pq 2 2 rK N'
abbrev iu(a:CE):CE:=.call "zcompose" rL jH a
def dq:CS:=(.seq (.assign 2 (.kZ (.bc (iD bC (.bin .sub bQ aS) aS)) (.bc (aO bQ bQ))))
 (.seq (.gF [3,4] .enum bw (.seq (.iff (.cmp .ne jg bC) (.seq (.dh 2 (.bc (iD cD bC bC)) (.bc (aO (.bin .sub bC jg) bQ)))
 .skip) .skip)
 .skip))
 (.seq (.ret cM)
 .skip)))
def fZ:Fn:=bt 2 3 dq
def eX:gz:=⟨prun [2] 2 3 dq,V,N'⟩
def qm:CS:=(.seq (.ret (.bin .sub (.bi .len (bx bw)) bQ))
 .skip)
def uk:Fn:=bt 1 0 qm
def um:gz:=pq 1 0 qm N'
abbrev ba(a:CE):CE:=.call "zdegree" uk um a
def iw:CS:=(.seq (.assign 1 bC)
 (.seq (.gF [2] .plain bw (.seq (.assign 1 (xK (aO aS cM)))
 .skip))
 (.seq (.ret aS)
 .skip)))
def uo:Fn:=bt 1 2 iw
def uq:gz:=pq 1 2 iw N'
abbrev GZ(a:CE):CE:=.call "gcd_all" uo uq a
def og:CS:=(.seq (.ret (GZ (bx bw)))
 .skip)
def rM:Fn:=bt 1 0 og
def oh:gz:=pq 1 0 og N'
abbrev vA(a:CE):CE:=.call "zcontent" rM oh a
def dr:CS:=(.seq (.iff (.cmp .eq (.bi .len (bx bw)) bC) (.seq .raise
 .skip) .skip)
 .skip)
def lG:Fn:=bt 1 0 dr
def f5:gz:=pq 1 0 dr N'
abbrev oG(a:CE):CE:=.call "check_bottom" lG f5 a
def wd:CS:=(.seq (.ret (.ite (.cmp .gt (.bi .len (bx bw)) bC) (.idx bw (.neg bQ)) bC))
 .skip)
def Ci:Fn:=bt 1 0 wd
def Cj:gz:=pq 1 0 wd N'
abbrev nr(a:CE):CE:=.call "zlead" Ci Cj a
def Ck:CS:=(.seq (.ret (.bq (.neg aS) [1] .plain bw))
 .skip)
def G0:Fn:=bt 1 1 Ck
def G1:gz:=pq 1 1 Ck V
abbrev sT(a:CE):CE:=.call "zneg" G0 G1 a
def Cm:CS:=(.seq (.ret (wc (aO bw (sT (bx aS)))))
 .skip)
def G2:Fn:=bt 2 0 Cm
def G3:gz:=pq 2 0 Cm V
abbrev kP(a:CE):CE:=.call "zsub" G2 G3 a
def sU:CS:=(.seq (.ret (.ite (.cmp .ne aS bC) (.bq (.bin .mul cM aS) [2] .plain bw) (.lst .nil)))
 .skip)
def xR:Fn:=bt 2 1 sU
def xS:gz:=pq 2 1 sU V
abbrev ix(a:CE):CE:=.call "zscale" xR xS a
def sV:CS:=(.seq (.ret (.ite (.cmp .gt (.bi .len (bx bw)) bC) (.bin .add (.bin .mul (.lst (bx bC)) aS) (.bi .list (bx bw))) (.lst .nil)))
 .skip)
def xT:Fn:=bt 2 0 sV
def xU:gz:=pq 2 0 sV V
abbrev Ay(a:CE):CE:=.call "zraise" xT xU a
def fj:CS:=(.seq (.expr (oG (bx aS)))
 (.seq (.assign 2 (.bi .max2 (aO bC (.bin .add (.bin .sub (.bi .len (bx bw)) (.bi .len (bx aS))) bQ))))
 (.seq (.bj [4,5,6,7] (.bc (Sp (.bi .list (bx bw)) (.lst .nil) cM (nr (bx aS)))))
 (.seq (.kH (.cmp .ge (.bi .len (bx jg)) (.bi .len (bx aS))) (.seq (.bj [8,9] (.bc (aO (.idx jg (.neg bQ)) (.bin .sub (.bi .len (bx jg)) (.bi .len (bx aS))))))
 (.seq (.assign 5 (kP (aO (ix (aO kc rV)) (Ay (aO (.lst (bx (.neg tE))) yE)))))
 (.seq (.assign 4 (kP (aO (ix (aO jg rV)) (Ay (aO (ix (aO aS tE)) yE)))))
 (.seq (.aug .sub 6 bQ)
 .skip)))))
 (.seq (.assign 3 (.bin .pow rV lO))
 (.seq (.ret (.bc (iD (ix (aO kc cD)) (ix (aO jg cD)) cM)))
 .skip))))))
def xV:Fn:=bt 2 8 fj
def xW:gz:=pq 2 8 fj N'
abbrev ur(a:CE):CE:=.call "pseudo" xV xW a
def f7:CS:=(.seq (.bj [3,4,5] (ur (aO bw aS)))
 (.seq (.assign 2 (.bin .sub (.bin .add (.bin .sub (ba (bx bw)) (ba (bx aS))) bQ) kc))
 (.seq (.ret (.bq (.bin .mul lO (.bin .pow (nr (bx aS)) cM)) [6] .plain jg))
 .skip)))
def pK:Fn:=bt 2 5 f7
def l9:gz:=pq 2 5 f7 V
abbrev Cn(a:CE):CE:=.call "full_rest" pK l9 a
def qo:CS:=(.seq (.ret (.bq (.bin .fdiv cM aS) [2] .plain bw))
 .skip)
def uu:Fn:=bt 2 1 qo
def uw:gz:=pq 2 1 qo V
abbrev f9(a:CE):CE:=.call "divided" uu uw a
def cL:CS:=(.seq (.bj [4,5] (.bc (aO bQ bQ)))
 (.seq (.kH (.cmp .gt (ba (bx aS)) bC) (.seq (.assign 6 (.bin .sub (ba (bx bw)) (ba (bx aS))))
 (.seq (.iff (.and (.cmp .eq (.bin .mod (ba (bx bw)) nG) bQ) (.cmp .eq (.bin .mod (ba (bx aS)) nG) bQ)) (.seq (.assign 2 (.neg cM))
 .skip) .skip)
 (.seq (.assign 7 (Cn (aO bw aS)))
 (.seq (.bj [0,1] (.bc (aO aS (f9 (aO rV (.bin .mul jg (.bin .pow kc lO)))))))
 (.seq (.assign 4 (nr (bx bw)))
 (.seq (.iff (.cmp .gt lO bC) (.seq (.assign 5 (.bin .fdiv (.bin .pow jg lO) (.bin .pow kc (.bin .sub lO bQ))))
 .skip) .skip)
 .skip)))))))
 (.seq (.iff (.cmp .eq aS (.lst .nil)) (.seq (.ret bC)
 .skip) .skip)
 (.seq (.assign 3 (ba (bx bw)))
 (.seq (.ret (.bin .mul cM (.ite (.cmp .gt cD bC) (.bin .fdiv (.bin .pow (.idx aS bC) cD) (.bin .pow kc (.bin .sub cD bQ))) bQ)))
 .skip)))))
def kn:Fn:=bt 3 5 cL
def kr:gz:=pq 3 5 cL N'
abbrev nt(a:CE):CE:=.call "row_resultant" kn kr a
def cG:CS:=(.seq (.iff (.or (.cmp .eq bw (.lst .nil)) (.cmp .eq aS (.lst .nil))) (.seq (.ret bC)
 .skip) .skip)
 (.seq (.assign 2 bQ)
 (.seq (.iff (.cmp .lt (ba (bx bw)) (ba (bx aS))) (.seq (.bj [0,1] (.bc (aO aS bw)))
 (.seq (.assign 2 (.ite (.and (.cmp .eq (.bin .mod (ba (bx bw)) nG) bQ) (.cmp .eq (.bin .mod (ba (bx aS)) nG) bQ)) (.neg bQ) bQ))
 .skip)) .skip)
 (.seq (.bj [4,5] (.bc (aO (vA (bx bw)) (vA (bx aS)))))
 (.seq (.assign 3 (.bin .mul (.bin .pow jg (ba (bx aS))) (.bin .pow kc (ba (bx bw)))))
 (.seq (.ret (.bin .mul cD (nt (iD (f9 (aO bw jg)) (f9 (aO aS kc)) cM))))
 .skip))))))
def pL:Fn:=bt 2 4 cG
def pM:gz:=pq 2 4 cG N'
abbrev oi(a:CE):CE:=.call "resultant" pL pM a
def ma:CS:=(.seq (.ret (.bi .sum (bx (.bq (.bin .mul (.bin .mul (.idx (.idx bw cD) bC) (.bin .pow aS (.idx cD bQ))) (.bin .pow cM (.idx cD nG))) [3] .plain bw))))
 .skip)
def d8:Fn:=bt 3 1 ma
def d9:gz:=pq 3 1 ma N'
def vB:CS:=(.seq (.assign 2 bC)
 (.seq (.gF [3] .rev bw (.seq (.assign 2 (.bin .add (.bin .mul cM aS) cD))
 .skip))
 (.seq (.ret cM)
 .skip)))
def OT:Fn:=bt 2 2 vB
def OU:gz:=pq 2 2 vB N'
abbrev ku(a:CE):CE:=.call "zat" OT OU a
def OV:CS:=(.assign 1 (.lst (aO (.bq (.bi .int (bx Ey)) [15] .plain (.gK bw KU)) bC)))
def Co:CS:=(.bj [6,7] (.idx (.bc (iD (.bc (aO bQ nG)) (.bc (aO nG B2)) (.bc (aO bQ B2)))) (.call "_law_draw" c8 ff (aO aS B2))))
def OW:CS:=(.bj [8,9] (.bc (aO (.bin .add bQ (.call "_law_draw" c8 ff (aO aS nG))) (.bin .sub (.call "_law_draw" c8 ff (aO aS B2)) bQ))))
def OX:CS:=(.bj [10,11] (.bc (aO (.call "_law_line" jG oe (aO aS lO)) (.call "_law_line" jG oe (aO aS rV)))))
def ux:CS:=(.iff (.and (.cmp .eq tE nG) (.cmp .eq (.bc (aO lO rV)) (.bc (aO bQ nG)))) (.seq (.bj [10,11] (.bc (aO (iu (aO iY (.lst (iD bC yE bQ)))) (iu (aO mz (.lst (iD bC yE bQ)))))))
 .skip) (.seq (.assign 8 bQ)
 .skip))
def xX:CS:=(.assign 2 (Cf (iD (.lst (aO (.call "_law_given" fZ eX (aO iY bC)) (.call "_law_given" fZ eX (aO mz bQ)))) bQ abn)))
def xY:CS:=(.iff (.or (.cmp .ne (.bi .len (bx cM)) bQ) (.cmp .ne (bN (aO (.idx cM bC) (.k (.str 0)))) (.bc (aO (.bc (iD bC rV bC)) (.bc (aO bQ bQ)))))) (.seq (.ret (.k (.bool N')))
 .skip) .skip)
def xZ:CS:=(.assign 3 (.idx cM bC))
def x8:CS:=(.iff (.cmp .gt (.bi .len (bx (.bR bQ [16] .plain cD (.or (.cmp .ne (.idx (.idx cD pz) bQ) bQ) (.cmp .ne (.idx pz bC) bC))))) bC) (.seq (.ret (.k (.bool N')))
 .skip) .skip)
def sW:CS:=(.iff (.cmp .ne (.bR nj [17] .plain (.bc (.cons (.neg nG) (Sp (.neg bQ) bC bQ nG))) (.cmp .ne (.call "_law_value" d8 d9 (iD cD (ku (aO iY nj)) (ku (aO mz nj)))) bC)) (.lst .nil)) (.seq (.ret (.k (.bool N')))
 .skip) .skip)
def sX:CS:=(.assign 4 (.bin .sub bQ (.bin .mul (.bin .mod (.bin .mul (ba (bx mz)) (.bin .add (ba (bx iY)) bQ)) nG) nG)))
def G4:CS:=(.bj [13,14] (.bc (aO (.bin .sub (.call "_law_draw" c8 ff (aO aS zI7)) B2) (.bin .sub (.call "_law_draw" c8 ff (aO aS zI7)) B2))))
def x9:CS:=(.assign 12 (.bin .mul jg (.bin .pow (.call "_law_value" d8 d9 (iD cD ua xI)) tE)))
def ya:CS:=(.iff (.cmp .ne (oi (aO (kP (aO iY (.ite (.cmp .ne ua bC) (.lst (bx ua)) (.lst .nil)))) (kP (aO mz (.ite (.cmp .ne xI bC) (.lst (bx xI)) (.lst .nil)))))) GH) (.seq (.ret (.k (.bool N')))
 .skip) .skip)
def OY:CS:=(.seq G4 (.seq x9 (.seq ya .skip)))
def Cp:CS:=.gF [5] .range nG OY
noncomputable def Jj:CS:=(.ret (.k (.bool V)))
def ED:CS:=(.seq OV (.seq Co (.seq OW (.seq OX (.seq ux (.seq xX (.seq xY (.seq xZ (.seq x8 (.seq sW (.seq sX (.seq Cp (.seq Jj .skip)))))))))))))
def UC:Fn:=bt 1 17 ED
end Mine.Internal
end
section
open PySem
namespace Mine.Internal
theorem G5:KC ug Ax:=by intro Y j' as Vs hc h hk r e;exact nS e
theorem oj:KC pB d6:=jz X (by repeat' first|exact Z'|apply h_)
theorem iy:KC xJ eP:=jz X (by repeat' first|exact Z'|exact oj|apply h_)
theorem nv:KC gW cK:=jz X (by repeat' first|exact Z'|apply h_)
theorem nw:KC kg cR:=jz X (by repeat' first|exact Z'|exact nv|apply h_)
theorem zw:KC nW gk:=jz X (by repeat' first|exact Z'|exact nw|apply h_)
theorem uy:KC kh ki:=jz X (by repeat' first|exact Z'|exact iy|exact zw|apply h_)
theorem OZ:KC OO Av:=jz X (by repeat' first|exact Z'|apply h_)
theorem Cq:KC OP Jg:=jz X (by repeat' first|exact Z'|exact OZ|apply h_)
theorem Jk:KC GI B5:=jz X (by repeat' first|exact Z'|exact Cq|apply h_)
theorem G6:KC ud ue:=jz X (by repeat' first|exact Z'|exact Jk|apply h_)
theorem Jl:KC GK rF:=jz X (by repeat' first|exact Z'|exact Cq|apply h_)
theorem yb:KC uf gn:=jz X (by repeat' first|exact Z'|exact iy|exact G6|exact Jl|apply h_)
theorem Su:KC GL pD:=jz X (by repeat' first|exact Z'|exact Cq|apply h_)
theorem vC:KC jB c6:=by
 show Xf jB c6;intro Y j' n o as hc V' Vs h hk hH hm q r e;replace e:fR pD.fn (hc::Vs)=f V':=e;revert e;refine MV (λbJ k rr heq e=>?_);cases heq;refine aW (r.wa) λx y aL rx ry=>?_;clear r;subst aL;refine J rx.bF (J ry.bF ?_);have ho:o=.dict bJ:=q;clear q;subst ho;revert e;refine fz (λks IX=>oR (λt ht e=>?_))
 have step:∃ ae,ev (.ite (.isin V aS bw) (Ji (aO (.idx bw aS) cM)) cM) Y [.ref n,.tup k,.tup rr,.ub]=f (ae,t)/\Ext Y ae:=by
  have Qk:ev (.isin V aS bw) Y [.ref n,.tup k,.tup rr,.ub]=f (Y,.bool ((jS bJ ks).isSome)):=by dsimp only[ev,ao,FG];simp[cZ hm,IX]
  cases hd:jS bJ ks with|none=>rw[hd]at ht Qk;simp only[dQ,PV.b.injEq]at ht;clear e;subst ht;refine⟨Y,?_,Ext.refl h⟩;dsimp only[ev]at Qk ⊢;simp -iota only [Option.isSome_none]at Qk ⊢;refine J Qk ?_;dsimp only[ao]|some v=>
   rw[hd]at ht Qk;refine bA (Su Y j' [v,.tup rr] [.b v,.b (.tup rr)] _ h hk (b9.cons (VR.b _) (b9.cons (VR.b _) b9.nil)) ht) λae z N L h3 O=>?_;rw[h3.bF]at N;refine⟨ae,?_,L⟩;have EE:ev (aO (.idx bw aS) cM) Y [.ref n,.tup k,.tup rr,.ub]=f (Y,.tup [v,.tup rr]):=by dsimp only[ev,ao,ic];simp[cZ hm,IX,hd]
   exact Nz.trans (J Qk (Kd.trans (J EE N)))
 obtain⟨ae,N,x1⟩:=step;have hm1:ae.getM n=f (.dict bJ):=J (cQ (x1.ent n (hk n hH))) hm;have hd1:Qn ae n=V:=by(dsimp only[Qn];exact J (cZ hm1) X)
 have run:jB Y [.ref n,.tup k,.tup rr]=(match ex (.seq (.iff (.cmp .eq cD (.glob "R0" (.tup [.int 0,.int 1]))) (.seq (.qy 0 aS) .skip) (.seq (.dh 0 aS cD) .skip)) .skip) ae [.ref n,.tup k,.tup rr,t]with
   |f (s1,O,.ret v)=>f (s1,v)
   |f (s1,O,.next)=>f (s1,.none)
   |_=>R):=by
  show(match ex nX Y [.ref n,.tup k,.tup rr,.ub]with
   |f (s1,O,.ret v)=>f (s1,v)
   |f (s1,O,.next)=>f (s1,.none)
   |_=>R)=_
  have:ex nX Y [.ref n,.tup k,.tup rr,.ub]=ex (.seq (.iff (.cmp .eq cD (.glob "R0" (.tup [.int 0,.int 1]))) (.seq (.qy 0 aS) .skip) (.seq (.dh 0 aS cD) .skip)) .skip) ae [.ref n,.tup k,.tup rr,t]:=by refine J sz (J DJ (J N ?_));rfl
  exact J this X
 have fin:∀ Sv,∃ T',ae.set n (.dict Sv)=f T'/\WF T'/\Y.n<=T'.n/\T'.getM n=f (.dict Sv)/\∀ i,i<Y.n->i≠n->T'.ent i=Y.ent i:=λSv=>by exact kA (sM x1.wf (x1.wf.lt (fm hm1)) ⟨N',.dict Sv⟩) λT' s1 s2 s3 s4=>⟨T',s1,s2,by refine J s3 ?_;exact x1.le,iW (by exact J (s4 _) (J (ai X) X)),λi hi ej=>by exact J (s4 _) (J (ak ej) (x1.ent i hi))⟩
 have ht3:∃ ts,t=.tup ts:=by cases t with|tup ts=>exact⟨ts,X⟩|_=>exact nS e
 obtain⟨ts,eG⟩:=ht3;clear ht N;subst eG;revert e;refine Iq (λU' e=>?_) (λU' e=>?_)
 .revert e;refine aZ (λhl e=>?_) nS;obtain rfl:=aw e;refine zQ (fin (lM bJ ks)) λT' s1 s2 s3 s4 s5=>⟨T',.dict (lM bJ ks),?_,s2,s3,s4,X,s5⟩;refine J run ?_;dsimp only[ex,ev,ao,z0,iS];simp only[t7 U',hd1,gv,hm1,IX,Bool.true_or,ai hl,s1]
 .revert e;refine aZ (λhl e=>?_) nS;obtain rfl:=aw e;refine zQ (fin (iK bJ ks (.tup ts))) λT' s1 s2 s3 s4 s5=>⟨T',.dict (iK bJ ks (.tup ts)),?_,s2,s3,s4,X,s5⟩;refine J run ?_;dsimp only[ex,ev,ao,uX,iS];simp only[t7 U',hm1,IX,ai hl,s1]
theorem O0:KC B7 B8:=jz X (by repeat' first|exact Z'|exact vC|apply h_)
theorem Sw:KC GO B9:=jz X (by repeat' first|exact Z'|apply h_)
theorem O1:KC Ca Cb:=jz X (by repeat' first|exact Z'|exact Sw|apply h_)
theorem EF:KC Cc qg:=jz X (by repeat' first|exact Z'|exact O0|exact O1|apply h_)
theorem G7:KC uh qi:=jz X (by repeat' first|exact Z'|exact G5|apply h_)
theorem lH:KC i6 cn:=jz X (by repeat' first|exact Z'|apply h_)
theorem Sx:KC GR Cd:=jz X (by repeat' first|exact Z'|exact Cq|apply h_)
theorem sY:KC jD gr:=jz X (by repeat' first|exact Z'|apply h_)
theorem yc:KC ui jE:=jz X (by repeat' first|exact Z'|exact sY|exact Jk|apply h_)
section
variable{mu:cj}{j' H' aj:jT}{Y T' ae aq:St}{C:al}{M:aC}{k:a_}
theorem FR.outside(F:FR mu Y j' aj C M)(h:WF Y)(hn:aj n=V)(L:WF T')(h3:Y.n<=T'.n)(he:∀ i,i<Y.n->i≠n->T'.ent i=Y.ent i):FR mu T' j' aj C M:=by
 have vw:∀ m o,view j' Y m=f o->view j' T' m=f o:=λm o e=>by obtain⟨q1,q2⟩:=aF e;refine dy q1 ?_;((refine J (dz (Y:=Y) (he m (lB h q2) (by intro qA;clear he;subst qA;rw[F.xh _ hn]at q1;exact tF q1))) ?_));exact q2
 refine⟨F.len,F.xh,λm q=>eE (F.hk m q) h3,λi q=>(F.pl i q).mono vw,λi q1 q2=>?_,F.ap⟩;refine fg (F.ow i q1 q2) λm o e k1 k2 k3 k4=>?_;exact se m o e k1 k2 (by(refine J (cQ (Y:=Y) (he m (F.hk m k1) (by intro vF;clear he;subst vF;rw[hn]at k2;exact tF k2))) ?_);exact k3) (k4.mono vw)
structure QS(Y:St)(aj:jT)(C:al)(q:a_)(ms:cj)(qs:d_ (dc)):Prop where
 slot:ao C 4=.ref q
 xq:aj q=V
 gq:Y.get q=f (.list (ms.map .ref))
 nd:ms.Nodup
 qn:q∉ms
 len:qs.length=ms.length
 lim:ms.length<=lim
 xm:∀ m∈ms,aj m=V
 gm:∀(i m:a_) (bJ:dc),ms[i]?=f m->qs[i]?=f bJ->Y.getM m=f (.dict bJ)
theorem QS.keep(Q:QS Y aj C q ms qs)(h:WF Y)(hs:ao bh 4=ao C 4)(he:∀ i,i<Y.n->aj i=V->T'.ent i=Y.ent i):QS T' aj bh q ms qs:=
 ⟨hs.trans Q.slot,Q.xq,by refine J (dz (he q (lB h Q.gq) Q.xq)) ?_;exact Q.gq,Q.nd,Q.qn,Q.len,Q.lim,Q.xm,λi m bJ N L=>by
  have:=Q.gm i m bJ N L
  exact J (cQ (he m (h.lt (fm this)) (Q.xm m (dX N)))) this⟩
theorem O2(hP:Xf F P)(KT:bO KC T)(K1:fi KC D1)(K2:fi KC D2)(a1:asg 4 D1=N')(a2:asg 4 D2=N')(hP2:∀ hc Us V',P.fn (hc::Us)=f V'->∃ ts rs,Us=[.b (.tup ts),.b (.tup rs)])(h7:W7=.expr (.call "add_term" F P (iD (.idx jg yE) GH ua))) {q:a_} {ms:cj} :
  ∀(h1:a_) (Y:St) (j':jT) (C:al) (M:aC) (qs:d_ (dc)) (hc:PV),WF Y->FR [6,7] Y j' aj C M->(∀ n,j' n=V->aj n=V\/k<=n)->k<=Y.n->QS Y aj C q ms qs->xH P.fn T D1 D2 h1 M qs=f hc ->
   ∃ T' bh r iv,eZ (ev T) (ex (app D1 (.seq W7 D2))) h1 Y C=f (T',bh,.next)/\hc=.dict iv/\WF T'/\Y.n<=T'.n/\ao bh 4=.ref q/\ao bh 6=.ref r/\aj r=N'/\k<=r/\T'.getM r=f (.dict iv)/\∀ i,i<Y.n->(j' i=N'\/aj i=V)->i∉ms->T'.ent i=Y.ent i:=by
 intro w';induction w' with|zero=>intro Y j' C M qs hc h F hb hk Q e;exact nS e|succ h1 ih=>
  intro Y j' C M qs hc h F hb hk Q e;refine Zr λGq kq=>?_;revert e;refine tJ (λet e=>?_) (λet e=>?_)
  .refine ah (nh F h KT et) λae N x1=>?_;have F1:=F.ext h x1;have Q1:QS ae aj C q ms qs:=Q.keep h X λi hi O=>x1.ent i hi;revert e;refine aa0 (λvs1 ed e=>?_) (λvs1 ed e=>?_) nS
   .refine fh (pk [6,7] D1 K1 ae j' aj C M vs1 .cont k x1.wf F1 hb (aR hk x1.le) ed) λaq eH g H2 L x2 r2=>?_;have hg:g=.cont:=by(clear L;cases g)<;>first|rfl|exact r2.elim
    clear r2;subst hg;have X2:=(F.xp h x1).trans x2;refine ib λGq zq=>?_;obtain⟨T',bh,r,iv,e1,e2,e3,e4,e5,e6,e7,e8,e9,e10⟩:=ih aq H2 eH vs1 qs hc X2.wf X2.fr (X2.low hb hk) (aR hk X2.le) (Q1.keep x1.wf (pn D1 a1 _ _ _ _ _ L) λi hi hx=>x2.kp i hi (.inr hx)) e;refine zq ?_;clear zq;(refine kq T' bh r iv ?_ e2 e3 (aR X2.le e4) e5 e6 e7 e8 e9 (λi hi hh hm=>?_))
    ·(dsimp only[eZ];simp only[N,OI,L]);exact e1
    .rw[e10 i (eE hi X2.le) ?_ hm,X2.kp i hi hh];rcases hh with hh|hh
     .left;cases w:H2 i with|false=>rfl|true=>
       rcases X2.hh i w with y|y
       .rw[hh]at y;exact fT y
       .lia
     .exact .inr hh
   .refine fh (pk [6,7] D1 K1 ae j' aj C M vs1 .next k x1.wf F1 hb (aR hk x1.le) ed) λaq eH g H2 L x2 r2=>?_;have hg:g=.next:=by(clear L;cases g)<;>first|rfl|exact r2.elim
    refine ib λGq zq=>?_;clear r2;subst hg;have X2:=(F.xp h x1).trans x2;have Q2:QS aq aj eH q ms qs:=Q1.keep x1.wf (pn D1 a1 _ _ _ _ _ L) λi hi hx=>x2.kp i hi (.inr hx);revert e;refine VQ (λi hv9=>Dn (λqk hqk=>FI (λkk aeQ=>FI (λrr aeR=>MW (λq' hq'=>Oj (λvs2 ed2 e=>?_) nS)))));refine gy (hP2 _ _ _ hq') λts rs hUs=>?_;cases hUs;have s9:=x2.fr.pl 9 (by decide);rw[hv9]at s9;have s12:=x2.fr.pl 12 (by decide);rw[aeQ]at s12;have s13:=x2.fr.pl 13 (by decide);rw[aeR]at s13;refine zq ?_;clear zq;have hil:i<ms.length:=by refine dT Q2.len ?_;exact(mq.mp hqk).1
    have hmi:ms[i]?=f ms[i]:=lL hil;have fD:ms[i]∈ms:=U5 hil;have EE:ev (iD (.idx jg yE) GH ua) aq eH=f (aq,.tup [.ref ms[i],.tup ts,.tup rs]):=by(dsimp only[ev,ic,MF];simp only[Q2.slot,s9.bF,s12.bF,s13.bF,Q2.gq,cz,Q2.lim,gv,mL,hmi,zL])
    have gmi:=Q2.gm i _ _ hmi hqk;refine oz (hP aq aj ms[i] _ [.tup ts,.tup rs] (.dict qk) (.dict q') _ X2.wf X2.fr.xk (Q2.xm _ fD) gmi X (b9.cons (VR.b _) (b9.cons (VR.b _) b9.nil)) hq') λbo o' m1 m2 m3 m4 m5 m6=>?_;have qB:o'=.dict q':=m5;subst qB;have F3:=X2.fr.outside X2.wf (Q2.xm _ fD) m2 m3 m6;have h7':ex W7 aq eH=f (bo,eH,.next):=by refine J h7 ?_;dsimp only[ex,ev]at EE ⊢;(refine J EE ?_;try dsimp only;exact J m1 X;try dsimp only)
    have Q3:QS bo aj eH q ms (qs.set i q'):=by
     refine⟨Q2.slot,Q2.xq,?_,Q2.nd,Q2.qn,by refine J List.length_set ?_;exact Q2.len,Q2.lim,Q2.xm,λj m bJ g1 g2=>?_⟩
     ·((refine J (dz (m6 q (lB X2.wf Q2.gq) (by intro yI;clear ih Q kq Q1;subst yI;exact Q2.qn fD))) ?_));exact Q2.gq
     .by_cases hj:j=i
      .clear hv9 hqk e s9 fD EE gmi m1 m6;subst hj;rw[hmi]at g1;obtain rfl:=aw g1;rw[List.getElem?_set_self (by refine J Q2.len ?_;exact hil)]at g2;obtain rfl:=aw g2;exact m4
      .rw[List.getElem?_set_ne (kz hj)]at g2;have gj:=Q2.gm j m bJ g1 g2;rw[cQ (m6 m (X2.wf.lt (fm gj)) ?_)]
       .exact gj
       .intro hh;rw[hh]at g1;obtain⟨l1,l2⟩:=mq.mp g1;exact hj ((U4 Q2.nd).mp l2)
    refine fh (pk [6,7] D2 K2 bo H2 aj eH vs1 vs2 .next k m2 F3 (X2.low hb hk) (aR hk (aR X2.le m3)) ed2) λiz Rm g H4 h4 x4 r4=>?_;have hg:g=.next:=by(clear h4;cases g)<;>first|rfl|exact r4.elim
    clear r4;subst hg;have Sy:∀ n,H4 n=V->aj n=V\/k<=n:=x4.low (X2.low hb hk) (aR hk (aR X2.le m3))
    obtain⟨T',bh,r,iv,e1,e2,e3,e4,e5,e6,e7,e8,e9,e10⟩:=ih iz H4 Rm vs2 (qs.set i q') hc x4.wf x4.fr Sy (aR hk (aR X2.le (aR m3 x4.le)))
     (Q3.keep m2 (pn D2 a2 _ _ _ _ _ h4) λi hi hx=>x4.kp i hi (.inr hx)) e
    have abo:Y.n<=iz.n:=aR X2.le (aR m3 x4.le);(refine kq T' bh r iv ?_ e2 e3 (aR abo e4) e5 e6 e7 e8 e9 (λj hj hh hm=>?_))
    .dsimp only[eZ];refine J N ?_;dsimp only;refine J (OI _ _ _ _) (J L ?_);dsimp only[ex];refine J h7' ?_;dsimp only;refine J h4 ?_;exact e1
    .have hh2:H2 j=N'\/aj j=V:=by
      rcases hh with hh|hh
      .left;cases w:H2 j with|false=>rfl|true=>
        rcases X2.hh j w with y|y
        .rw[hh]at y;exact fT y
        .lia
      .exact .inr hh
     have hj2:j<aq.n:=eE hj X2.le
     have hh4:H4 j=N'\/aj j=V:=by
      rcases hh2 with hh|hh
      .left;cases w:H4 j with|false=>rfl|true=>
        rcases x4.hh j w with y|y
        .rw[hh]at y;exact fT y
        .lia
      .exact .inr hh
     (simp only[e10 j (eE hj abo) hh4 hm,x4.kp j (eE hj2 m3) hh2,m6 j hj2 (by intro Dp;clear hj hh hh2 hj2 hh4;subst Dp;exact hm fD),X2.kp j hj hh])
  .refine ah (nh F h KT et) λae N x1=>?_;revert e;refine VP (λiv hv6 e=>?_);obtain rfl:=aw e;have F1:=F.ext h x1;(refine fg (F1.ow 6 (by decide) (by refine J hv6 ?_;intro w;cases w)) λn o e1 k1 k2 k3 k4=>?_);rw[hv6]at k4;have ho:o=.dict iv:=k4;clear k4;subst ho;(refine kq ae C n iv (by(dsimp only[eZ,N];refine J N ?_;dsimp only[eZ,N])) X x1.wf x1.le Q.slot e1 k2 ?_ k3 (λi hi O O=>x1.ent i hi));rcases hb n k1 with y|y
   .rw[k2]at y;exact fT y
   .exact y
theorem O3{s:a_}{C:al}:∀(Z:al) (Y:St),WF Y->∃(T':St) (ms:cj),rj (one (ev .gA) [s] C) Z Y=f (T',ms.map .ref)/\Ext Y T'/\ms.length=Z.length/\ms.Nodup/\(∀ m∈ms,Y.n<=m/\m<T'.n)/\∀ m∈ms,T'.ent m=f ⟨N',.dict []⟩:=λw'=>by induction w' with|nil=>intro Y h;exact⟨Y,[],X,Ext.refl h,X,r6,(λm q=>g_ q (gx)),(λm q=>g_ q (gx))⟩|cons x Z ih=>
  intro Y h;refine kA (iX h (.dict [])) λae N L h3 h4=>?_;refine oz (ih ae L) λT' ms k1 k2 k3 k4 k5 k6=>Im T' (Y.n::ms) ?_ ((⟨L,by lia,λi hi=>by exact J (h4 _) (J (ak (by lia)) X)⟩:Ext Y ae).trans k2) (by simp[k3]) ?_ ?_ ?_
  .have:one (ev .gA) [s] C Y x=f (ae,[.ref Y.n]):=by dsimp only[one,dw,ev,jl];exact J N X
   dsimp only[rj];simp only[this,k1,bW,Mk,C7]
  .exact J (propext gw) ⟨λq=>by have:=(k5 _ q).1;lia,k4⟩
  .intro m q;rcases aV.mp q with eG|q
   .clear q;subst eG;exact⟨c9 _,by have:=k2.le;lia⟩
   .exact⟨by have:=(k5 m q).1;lia,(k5 m q).2⟩
  .intro m q;rcases aV.mp q with iC|q
   .clear q;subst iC;exact J (k2.ent _ (by lia)) (J (h4 _) (J (ai X) X))
   .exact k6 m q
def aeW(n0 l:a_)(Y:St)(ys:al):Prop:=∃ ms:cj,ys=ms.map .ref/\ms.length=l/\ms.Nodup/\(∀ m∈ms,n0<=m)/\∀ m∈ms,Y.ent m=f ⟨N',.dict []⟩
theorem EG(e:c6.fn (hc::Us)=f V'):∃ ts rs,Us=[.b (.tup ts),.b (.tup rs)]:=by refine Dg λGq kq=>?_;replace e:fR pD.fn (hc::Us)=f V':=e;dsimp only[fR]at e;revert e;refine MV (λO k r heq e=>?_);cases heq;exact kq _ _ X
theorem zx:nY=.seq dk (.seq lY (.seq lZ (.seq dm (.seq (.kH dN (app cS (.seq pE dE))) (.seq pF .skip))))):=rfl
theorem EH(h:WF Y)(hk:tD j' Y)(r:b9 (view j' Y) [.dict K',.list Bs,.b (.str o)] as)(e:kU.fn [.dict K',.list Bs,.b (.str o)]=f hc) :
  ∃ T' q rr iv,nZ Y as=f (T',.tup [.ref q,.ref rr])/\hc=.dict iv/\Ext Y T'/\j' rr=N'/\Y.n<=rr/\T'.getM rr=f (.dict iv):=by
 replace e:jA c6.fn dk dm dN cS dE [.dict K',.list Bs,.b (.str o)]=f hc:=e;dsimp only[jA]at e;have KM4:fi KC dm:=by(dsimp only[dm,fi,bO];simp only[lQ])
 have KT:bO KC dN:=by(dsimp only[dN,bO];simp only[lQ])
 have KD1:fi KC cS:=by(dsimp only[cS,fU,fV,fW,fX,fY,ir,fi,bO];simp only[iy,G7,nw,lH,Sx,lQ])
 have KD2:fi KC dE:=by(dsimp only[dE,jZ,fi,bO];simp only[EF,yc,lQ])
 have F0:FR [6,7] Y j' j' (as++rl 16) ([.dict K',.list Bs,.b (.str o)]++bz 16):=FR.start hk r 16 X;revert e;refine Oj (λvs1 e1 e=>?_) nS;refine fh (pk [6,7] dk (by(dsimp only[dk,fi,bO];simp only[iy,lQ]):fi KC dk) Y j' j' _ _ _ _ Y.n h F0 (λn q=>.inl q) (c9 _) e1) λae lh g1 H1 N x1 r1=>?_
 have:g1=.next:=by(clear N;cases g1)<;>first|rfl|exact r1.elim
 clear r1;subst this;have hv1:∃ V3,vs1=bM ([.dict K',.list Bs,.b (.str o)]++bz 16) 3 V3:=by dsimp only[dk,aD]at e1;revert e1;refine cc (λO O=>cA (λO e1=>?_));clear e x1;cases e1;exact⟨_,X⟩
 obtain⟨V3,j6⟩:=hv1;subst j6;have E1:Ext Y ae:=⟨x1.wf,x1.le,λi hi=>x1.kp i hi (by cases j' i<;>trivial)⟩;revert e;refine MW (λf' ef=>Oj (λUq e4=>?_) nS);refine aZ (λoH e=>?_) nS
 -- the YG
 have s0:VR (view H1 ae) (.dict K') (ao lh 0):=x1.fr.pl 0 (by decide);refine aW ((x1.fr.pl 1 (by decide)).cN) λnb Z J6 gb rb=>ah (s0.gO) λnf hs0 gf=>?_;have Rf:BW H1 ae (f nb):=λn q=>by obtain rfl:=aw q;exact⟨(aF gb).1,cC (BV (aF gb).2) λfl hf=>⟨_,hf⟩⟩
 obtain⟨G8,ys,k1,k2,ms,k3,k4,k5,k6,k7⟩:=Ej (K':=rj (one (ev .gA) [15] lh) Z) (xs:=aeW ae.n Z.length) x1.wf Rf
  (λa b c q1 q2 ⟨ms,z1,z2,z3,z4,z5⟩=>⟨ms,z1,z2,z3,z4,λm hm=>by refine J (q2 m (z4 m hm)) ?_;exact z5 m hm⟩) λda w1 w2 w3=>by exact oz (O3 (s:=15) (C:=lh) Z da w1) λT' ms m1 m2 m3 m4 m5 m6=>⟨T',_,m1,m2,ms,X,m3,m4,λm hm=>by refine dT w2 ?_;exact(m5 m hm).1,m6⟩
 subst k3;refine kA (iX k2.wf (.list (ms.map .ref))) λaq p1 p2 p3 p4=>?_;have E2:Ext ae aq:=k2.trans ⟨p2,by lia,λi hi=>by exact J (p4 _) (J (ak (by lia)) X)⟩;have hlen:ms.length=Bs.length:=k4.trans rb.length
 have aeX:ex lY ae lh=f (aq,aE lh 4 (.ref G8.n),.next):=by
  have:ev (.bq .gA [15] .plain aS) ae lh=f (aq,.ref G8.n):=by(dsimp only[ev,J6,lV,jd,(aF gb).2];simp -iota only [J6,(aF gb).2];dsimp only[ev,J6,lV,jd,(aF gb).2];simp -iota only [J6,(aF gb).2];dsimp only[ev,J6,lV,jd,(aF gb).2]);dsimp only[ev]at k1;refine J k1 ?_;simp only[cz];(refine J (ai (by rw[hlen];exact oH)) ?_);(dsimp only[Ny,jl];exact J p1 X)
  (dsimp only[lY,ex];exact J this X)
 -- the frame behind aie
 let X2:a_->e_:=λn=>H1 n||(decide (ae.n<=n)&&decide (n<aq.n))
 have X2a:∀ n,n<ae.n->X2 n=H1 n:=λn q=>by simp only[X2];exact J (bT (by lia)) (J (tT6 _) (J (JG _) X))
 have vw2:∀ m o,view H1 ae m=f o->view X2 aq m=f o:=λm o w=>by obtain⟨w1,w2⟩:=aF w;exact dy (by refine J (X2a m (lB x1.wf w2)) ?_;exact w1) (E2.get x1.wf w2)
 have hX2:tD X2 aq:=λn q=>by
  simp only[X2,qx,jc,jR]at q;rcases q with q|q
  .exact eE (x1.fr.hk n q) E2.le
  .exact q.2
 have F2:FR [6,7] aq X2 X2 (aE lh 4 (.ref G8.n)) (bM ([.dict K',.list Bs,.b (.str o)]++bz 16) 3 V3):=by
  have S:Sl (view X2 aq) (λi=>[6,7].contains i=N') (bM (bM ([.dict K',.list Bs,.b (.str o)]++bz 16) 3 V3) 4 .any) (aE lh 4 (.ref G8.n)):=
   Sl.set ⟨x1.fr.len,λi q=>(x1.fr.pl i q).mono vw2⟩ VR.any 4
  refine⟨S.1,λO q=>q,hX2,S.2,λi q1 q2=>g_ ?_ q2,λi j n q1 O q3=>g_ ?_ q3⟩
  all_goals
   have:i=6\/i=7:=by simpa using q1
   rcases this with rfl|rfl<;>rfl
 -- D',left
 refine kA (iX p2 (.dict [])) λbo t1 t2 t3 t4=>?_;have E3:Ext aq bo:=⟨t2,by lia,λi hi=>by exact J (t4 _) (J (ak (by lia)) X)⟩;refine kA (iX t2 (.dict f')) λiz u1 u2 u3 u4=>?_;have E4:Ext bo iz:=⟨u2,by lia,λi hi=>by exact J (u4 _) (J (ak (by lia)) X)⟩;have gf3:bo.get nf=f (.dict K'):=E3.get p2 (E2.get x1.wf (aF gf).2)
 have aeY:ex lZ aq (aE lh 4 (.ref G8.n))=f (iz,aE (aE (aE (aE lh 4 (.ref G8.n)) 6 (.ref aq.n)) 7 (.ref bo.n)) 8 (.int 0),.next):=by
  have aeZ:ao (aE lh 4 (.ref G8.n)) 0=.ref nf:=by refine J (bk _ _ _ _) (J (ak (by decide)) ?_);exact hs0
  have hff:f'=K'/\(K'.length<=lim/\K'.all (λp=>smallKey p.1)=V):=by revert ef;refine aZ (λU' ef=>?_) nS;clear e4 u1 u4;cases ef;exact⟨X,U'⟩
  obtain⟨mr,U'⟩:=hff;clear r F0 e1 x1 ef e4 s0 gf F2;subst mr;(dsimp only[lZ,ex,ev,jl,je];(refine J t1 ?_;refine J aeZ ?_;dsimp only;refine J gf3 ?_;dsimp only));refine J (ai U') ?_;refine J u1 ?_;rfl
 have A3:=F2.BY p2 E3 (i:=6) (n:=aq.n) (hc:=.dict []) (by decide) (c9 _) (iW (by exact J (t4 _) (J (ai X) X))) X;have A4:=A3.fr.BY t2 E4 (i:=7) (n:=bo.n) (hc:=.dict f') (by decide) (c9 _) (iW (by exact J (u4 _) (J (ai X) X))) X;have F4:=A4.fr.ij (i:=8) (by decide) (VR.b (.int 0));have A5:=A3.trans A4
 have Sy:∀ n,(X2 n||n==aq.n||n==bo.n)=V->X2 n=V\/Y.n<=n:=λn q=>by
  have:=E1.le;have:=E2.le;have:=E3.le
  simp only[qx,wz]at q;rcases q with (q|q)|q
  .exact .inl q
  .right;lia
  .right;lia
 have le4:Y.n<=iz.n:=by have:=E1.le;have:=E2.le;have:=E3.le;have:=E4.le;lia
 refine fh (pk [6,7] dm KM4 iz _ X2 _ _ _ _ Y.n u2 F4 Sy le4 e4) λJm sl5 g5 H5 v1 x5 v2=>?_
 have:g5=.next:=by(clear v1;cases g5)<;>first|rfl|exact v2.elim
 clear v2;subst this
 have Q5:QS Jm X2 sl5 G8.n ms (l_ Bs.length []):=by
  have sa:ao sl5 4=.ref G8.n:=by
   rw[pn dm (by decide) _ _ _ _ _ v1,bk,ak (by decide),bk,ak (by decide),bk,ak (by decide),bk,ai X,ai]
   have:=x1.fr.len
   rw[ng]at this;exact eE (show 4<([.dict K',.list Bs,.b (.str o)]++bz 16:aC).length from(by decide:4<19)) this
  have keep:∀ i,i<aq.n->X2 i=V->Jm.ent i=aq.ent i:=λi hi hx=>by simp only[x5.kp i (by lia) (.inr hx),E4.ent i (by lia),E3.ent i hi]
  have YH:aq.ent G8.n=f ⟨N',.list (ms.map .ref)⟩:=by exact J (p4 _) (J (ai X) X)
  have xin:∀ m,ae.n<=m->m<aq.n->X2 m=V:=λm a b=>by simp[X2,a,b]
  have YA:∀ m∈ms,aq.ent m=f ⟨N',.dict []⟩/\m<G8.n:=λm hm=>by have hl:=k2.wf.lt (k7 m hm);exact⟨by refine J (p4 _) (J (ak (by lia)) ?_);exact k7 m hm,hl⟩
  refine⟨sa,xin _ (by have:=k2.le;omega) (by lia),gV (e:=⟨N',.list (ms.map .ref)⟩) (by(refine J (keep G8.n (by omega) (xin G8.n (by have:=k2.le;omega) (by omega))) ?_);exact YH),k5,λhm=>by have:=(YA _ hm).2;lia,by exact J Y6 (J hlen X),by refine J hlen ?_;exact oH,λm hm=>xin m (k6 m hm) (by have:=(YA m hm).2;lia),λi m bJ a b=>?_⟩;have hm:=dX a;rw[List.getElem?_replicate]at b;revert b;refine aZ (λO b=>?_) nS;obtain rfl:=aw b;refine iW ?_;((refine J (keep m (by have:=(YA m hm).2;lia) (xin m (k6 m hm) (by have:=(YA m hm).2;omega))) ?_));exact(YA m hm).1
 obtain⟨UD,sl6,rr,iv,y1,y2,y3,y4,y5,y6,y7,y8,y9,y10⟩:=O2 (k:=Y.n) (W7:=pE) vC KT KD1 KD2 (by decide) (by decide) (λhc Us V'=>EG) X 100000 Jm H5 sl5 Uq _ hc x5.wf x5.fr (x5.low Sy le4) (aR le4 x5.le) Q5 e;have hms:∀ i,i<ae.n->i∉ms:=λi hi hm=>by have:=k6 i hm;lia
 (refine Zw UD G8.n rr iv ?_ y2 ⟨y3,aR le4 (aR x5.le y4),λi hi=>?_⟩ ?_ y8 y9)
 .have:ex nY Y (as++rl 16)=f (UD,sl6,.ret (.tup [.ref G8.n,.ref rr])):=by simp only[zx];(dsimp only[ex];refine J N ?_;try dsimp only;refine J aeX ?_;try dsimp only;refine J aeY ?_;try dsimp only;refine J v1 ?_;try dsimp only;refine J y1 ?_;try dsimp only);(dsimp only[pF,ex,ev];(refine J y5 ?_;exact J y6 X))
  dsimp only[nZ,bt];exact J (ai r.length) (J this X)
 .have i1:i<ae.n:=eE hi E1.le;have i2:i<aq.n:=eE i1 E2.le;have n2:(i==aq.n)=N':=uO (by lia);have n3:(i==bo.n)=N':=uO (by lia);have c4:(X2 i||i==aq.n||i==bo.n)=N'\/X2 i=V:=by simp only[n2,n3,JG,JG];cases X2 i<;>trivial
  have i4:i<iz.n:=by grind
  have c5:H5 i=N'\/X2 i=V:=by
   rcases c4 with c|c
   .left;cases w:H5 i with|false=>rfl|true=>
     rcases x5.hh i w with y|y
     .rw[c]at y;exact fT y
     .grind
   .exact .inr c
  simp only[y10 i (eE i4 x5.le) c5 (hms i i1),x5.kp i i4 c4,E4.ent i (by grind),E3.ent i i2,E2.ent i i1,E1.ent i hi]
 .cases w:j' rr with|false=>rfl|true=>
   have:=hk rr w
   lia
theorem yd:KC qj kU:=by
 show GA qj kU;intro Y j' as Vs hc h hk r e;have XC:∃ K' Bs o,Vs=[.dict K',.list Bs,.b (.str o)]:=by replace e:jA c6.fn dk dm dN cS dE Vs=f hc:=e;dsimp only[jA]at e;revert e;refine VT (λO O O br e=>?_);clear r;subst br;exact MI _ _ _ X
 obtain⟨K',Bs,o,rfl⟩:=XC;refine Zp (EH h hk r e) λT' q rr iv N aL L h3 h4 h5=>?_;clear e;subst aL;have FA:=r.length;refine aW (r.cons_inv) λa0 t aL ra rt=>?_;subst aL;refine aW (rt.wa) λa1 a2 aL rb rc=>?_;subst aL;refine ah (ra.gO) λn0 aL O=>?_;clear ra;subst aL;refine eF (rb.cN) λn1 Z aL O=>?_;clear rb rt r FA;subst aL;rw[rc.bF]at N ⊢;refine qO T' (.ref rr) ?_ L (VR.dict (dy h3 (cZ h5))) (λO=>⟨rr,X,h4,h5⟩)
 show(match ex nq Y [.ref n0,.ref n1,.str o]with
  |f (s1,O,.ret v)=>f (s1,v)
  |f (s1,O,.next)=>f (s1,.none)
  |_=>R)=_
 have:ex nq Y [.ref n0,.ref n1,.str o]=f (T',[.ref n0,.ref n1,.str o],.ret (.ref rr)):=by dsimp only[nq,ex,ev,ao,ic,lim,MF];simp -iota only [N,fE,uQ];rfl
 exact J this X
end
theorem vP:KC lD lE:=jz X (by repeat' first|exact Z'|exact uy|exact oj|exact yb|exact yd|exact iy|apply h_)
theorem lI:KC mB eA:=jz X (by repeat' first|exact Z'|apply h_)
theorem EI:KC rH hG:=jz X (by repeat' first|exact Z'|exact lI|exact oj|apply h_)
theorem zy:KC n5 kN:=jz X (by repeat' first|exact Z'|exact EI|apply h_)
theorem ye:KC mD mE:=jz X (by repeat' first|exact Z'|apply h_)
theorem Cr:KC pH j0:=jz X (by repeat' first|exact Z'|exact ye|apply h_)
theorem yf:KC mF jP:=jz X (by repeat' first|exact Z'|exact Cr|exact lI|exact nv|apply h_)
theorem KW:KC xQ pI:=jz X (by repeat' first|exact Z'|exact lI|exact yc|exact EF|exact iy|exact lH|exact Jl|apply h_)
theorem EJ:KC rI rJ:=jz X (by repeat' first|exact Z'|exact yb|exact zy|exact yf|exact yd|exact iy|exact KW|apply h_)
theorem uz:KC kl km:=jz X (by repeat' first|exact Z'|exact vP|exact EJ|apply h_)
theorem zz:KC n6 n7:=jz X (by repeat' first|exact Z'|apply h_)
theorem Cs:KC pJ l8:=jz X (by repeat' first|exact Z'|exact uz|exact zz|apply h_)
theorem EK:KC Cg Ch:=jz X (by repeat' first|exact Z'|apply h_)
theorem Jn:KC GV GW:=jz X (by repeat' first|exact Z'|exact EK|apply h_)
theorem Sz:KC GY OS:=jz X (by repeat' first|exact Z'|apply h_)
theorem EL:KC rL jH:=jz X (by repeat' first|exact Z'|exact Jn|exact Sz|exact EK|apply h_)
theorem Ct:KC fZ eX:=jz X (by repeat' first|exact Z'|apply h_)
theorem om:KC uk um:=jz X (by repeat' first|exact Z'|apply h_)
theorem G9:KC uo uq:=jz X (by repeat' first|exact Z'|exact OZ|apply h_)
theorem EM:KC rM oh:=jz X (by repeat' first|exact Z'|exact G9|apply h_)
theorem vQ:KC lG f5:=jz X (by repeat' first|exact Z'|apply h_)
theorem yg:KC Ci Cj:=jz X (by repeat' first|exact Z'|apply h_)
theorem SD:KC G0 G1:=jz X (by repeat' first|exact Z'|apply h_)
theorem Jo:KC G2 G3:=jz X (by repeat' first|exact Z'|exact Jn|exact SD|apply h_)
theorem KX:KC xR xS:=jz X (by repeat' first|exact Z'|apply h_)
theorem KY:KC xT xU:=jz X (by repeat' first|exact Z'|apply h_)
theorem KZ:KC xV xW:=jz X (by repeat' first|exact Z'|exact vQ|exact yg|exact Jo|exact KX|exact KY|apply h_)
theorem Cu:KC pK l9:=jz X (by repeat' first|exact Z'|exact KZ|exact om|exact yg|apply h_)
theorem yh:KC uu uw:=jz X (by repeat' first|exact Z'|apply h_)
theorem uA:KC kn kr:=jz X (by repeat' first|exact Z'|exact om|exact Cu|exact yg|exact yh|apply h_)
theorem Cv:KC pL pM:=jz X (by repeat' first|exact Z'|exact om|exact EM|exact uA|exact yh|apply h_)
theorem sZ:KC d8 d9:=jz X (by repeat' first|exact Z'|apply h_)
theorem XD:KC OT OU:=jz X (by repeat' first|exact Z'|apply h_)
end Mine.Internal
end
section
namespace Mine.Internal
theorem dv:d6.mu=N':=rfl
theorem EN:eP.mu=N':=rfl
theorem vR:cK.mu=N':=rfl
theorem vS:cR.mu=N':=rfl
theorem rN:B5.mu=N':=rfl
theorem K4:gn.mu=N':=rfl
theorem K5:gn.fr=V:=rfl
theorem Ha:c6.mu=V:=rfl
theorem XE:B9.mu=N':=rfl
theorem dG:gr.mu=N':=rfl
theorem hU:hG.mu=N':=rfl
theorem yi:f5.mu=N':=rfl
end Mine.Internal
end
section
open PySem
namespace Mine.Internal
noncomputable abbrev zr (n:G):AV:=.tup [.int n,.int 1]
noncomputable abbrev M' (i:G):PV:=.b (.int i)
noncomputable def CS.tl:CS->CS|.seq O b=>b|c=>c
noncomputable def CS.hd:CS->CS|.seq a O=>a|c=>c
noncomputable def CS.body:CS->CS|.gF O O' O'' b=>b|.kH O b=>b|c=>c
theorem ag(h:aD mu a M=f (vs1,.next)):aD mu (.seq a b) M=aD mu b vs1:=by exact J qc (J h X)
theorem eh(h:aD mu a M=f (vs1,.ret hc)):aD mu (.seq a b) M=f (vs1,.ret hc):=by exact J qc (J h X)
theorem aI(hl:as.length=np)(h:aD mu ha (as++bz more)=f (M,.ret hc)):prun mu np more ha as=f hc:=by dsimp only[prun];exact J (ai hl) (J h X)
theorem aB(h:ax e M=f hc)(ok:rC (mu.contains i) (fw mu e) (fresh e) hc=V):aD mu (.assign i e) M=f (bM M i hc,.next):=by refine J BS (J h ?_);show(match rC (mu.contains i) (fw mu e) (fresh e) hc with|V=>f (bM M i hc,kS.next)|N'=>R)=_;exact J ok X
theorem ar(hm:P.mu=N')(B:ax as M=f (.tup Vs))(h:P.fn Vs=f hc):ax (.call K' F P as) M=f hc:=by exact J rD (J hm (J B h))
theorem eY(B:ax a M=f A):ax (bx a) M=f (.tup [A]):=by exact J bX (J B X)
theorem bE(B:ax a M=f A)(hb:ax b M=f ha):ax (aO a b) M=f (.tup [A,ha]):=by exact J bX (J B (J (eY hb) X))
theorem aP(B:ax a M=f (M' x))(hb:ax b M=f (M' y))(h:cX o x y=f z):ax (.bin o a b) M=f (M' z):=by refine J m7 (J B (J hb ?_));show(match cX o x y with|f z=>f (M' z) |R=>R)=_;exact J h X
theorem cf(B:ax a M=f (M' x))(hb:ax b M=f (M' y)):ax (.cmp o a b) M=f (.b (.bool (cmpInt o x y))):=by exact J jw (J B (J hb X))
theorem lJ(h:ax t M=f (.b (.bool V))):ax (.ite t a b) M=ax a M:=J qa (J h X)
theorem s8(h:ax t M=f (.b (.bool N'))):ax (.ite t a b) M=ax b M:=J qa (J h X)
theorem EO(h:ax a M=f (.b (.bool V))):ax (.and a b) M=ax b M:=J tZ (J h X)
theorem O4(h:ax a M=f (.b (.bool N'))):ax (.and a b) M=f (.b (.bool N')):=J tZ (J h X)
theorem gc(h:ax e M=f hc):aD mu (.seq (.ret e) b) M=f (M,.ret hc):=eh (by exact J Ap (J h X))
theorem cu(h:ax t M=f (.b (.bool g))):aD mu (.iff t a b) M=bif g then aD mu a M else aD mu b M:=by refine J Ao (J h ?_);(clear h;cases g)<;>rfl
theorem nx(B:ax a M=f A)(hb:ax b M=f ha)(U':ax c M=f sl):ax (iD a b c) M=f (.tup [A,ha,sl]):=by exact J bX (J B (J (bE hb U') X))
theorem rO(h:ax as M=f (.tup Vs))(hb:tC k Vs=f hc):ax (.bi k as) M=f hc:=by exact J jY (J h hb)
theorem Cw(h:ax as M=f (.tup Vs))(hp:ig Vs=hc):ax (.bc as) M=f hc:=by exact J fe (J h (cb f hp))
theorem eK(B:ax a M=f A)(hi:ax i M=f I)(h:mv A I=f hc):ax (.idx a i) M=f hc:=by exact J m8 (J B (J hi h))
theorem Cx(B:ax a M=f (.b (.bool x)))(hb:ax b M=f (.b (.bool y))):ax (.and a b) M=f (.b (.bool (x&&y))):=by refine J tZ (J B ?_);clear B;cases x;rfl;exact hb
theorem Hb(B:ax a M=f (.b (.bool x)))(hb:ax b M=f (.b (.bool y))):ax (.or a b) M=f (.b (.bool (x||y))):=by refine J sL (J B ?_);clear B;cases x;exact hb;rfl
theorem SE(B:ax a M=f (.b (.bool x))):ax (.not a) M=f (.b (.bool !x)):=by exact J KO (J B X)
theorem yj(B:ax a M=f A)(hb:ax b M=f sl)(h:Xa A sl=f r):ax (.isin y a b) M=f (.b (.bool (r==y))):=by refine J Gy (J B (J hb ?_));show(match Xa A sl with|f r=>f (PV.b (.bool (r==y))) |R=>R)=_;exact J h X
theorem ta(h:aD mu a M=f (vs1,.cont)):aD mu (.seq a b) M=f (vs1,.cont):=by exact J qc (J h X)
theorem pN(h:ax e M=f hc)(hk:((!(is.any mu.contains))&&rC N' (fw mu e) N' hc)=V)(hx:fv hc=f Z)(hb:eo is Z M=f v1):aD mu (.bj is e) M=f (v1,.next):=by refine J eu (J h ?_);dsimp only;refine J hk ?_;refine J hx ?_;dsimp only;exact J hb X
theorem cE(B:a.natAbs<2^63)(hb:b.natAbs<2^63):cX .mul a b=f (a*b):=ai ⟨B,hb⟩
theorem SF(t:G):t.fdiv (-1) = -t:=by refine J Int.fdiv_eq_ediv ?_;simp
theorem ae1(h:t M=f (.b (.bool V)))(hf:K' M=f (vs2,.next)):fc t K' (n+1) M=fc t K' n vs2:=by show(match t M with|f (.b (.bool V))=>(match K' M with|f (vs2,kS.ret v)=>f (vs2,kS.ret v)|f (vs2,O)=>fc t K' n vs2|R=>R)|f (.b (.bool N'))=>f (M,.next)|_=>R)=_;exact J h (J hf X)
theorem abp(e0:aD [] lX.hd [M' t,M' s]=f ([M' m,M' 1],.next)):Av.fn [M' t,M' s]=f (M' 1):=by show prun [] 2 0 lX [M' t,M' s]=_;refine aI X ((ag e0).trans ((ag (vs1:=[M' 1,M' 0]) ?_).trans (gc X)));refine(ae1 (n:=99999) (vs2:=[M' 1,M' 0]) X ?_).trans X;have e:aD [] lX.tl.hd.body [M' m,M' 1]=f ([M' 1,M' (m.fmod 1)],.next):=X;rwa [Int.fmod_one]at e
theorem abq(t:G):Av.fn [.b (.int t),.b (.int 1)]=f (.b (.int 1)):=abp (m:=if t<0 then -t else t) X
theorem XF(t:G):Av.fn [.b (.int t),.b (.int (-1))]=f (.b (.int 1)):=abp (m:=if t<0 then -t else t) X
theorem Jp(t:G):Jg.fn [.b (.int t),.b (.int 1)]=f (.b (zr t)):=by have e2:aD [] pC.tl.tl [M' t,M' 1,M' 1]=f ([M' t,M' 1,M' 1],.ret (.b (.tup [.int (t.fdiv 1),.int 1]))):=X;rw[Int.fdiv_one]at e2;show prun [] 2 1 pC [M' t,M' 1]=_;exact aI X ((ag (X:aD [] pC.hd [M' t,M' 1,.any]=f ([M' t,M' 1,.any],.next))).trans ((ag (aB ((lJ X).trans (ar X X (abq t))) X:aD [] pC.tl.hd [M' t,M' 1,.any]=f ([M' t,M' 1,M' 1],.next))).trans e2))
theorem XG(t:G):Jg.fn [.b (.int t),.b (.int (-1))]=f (.b (zr (-t))):=by have e2:aD [] pC.tl.tl [M' t,M' (-1),M' (-1)]=f ([M' t,M' (-1),M' (-1)],.ret (.b (.tup [.int (t.fdiv (-1)),.int 1]))):=X;rw[SF]at e2;show prun [] 2 1 pC [M' t,M' (-1)]=_;exact aI X ((ag (X:aD [] pC.hd [M' t,M' (-1),.any]=f ([M' t,M' (-1),.any],.next))).trans ((ag (aB ((s8 X).trans (aP (x:=0) (y:=1) X (ar X X (XF t)) X)) X:aD [] pC.tl.hd [M' t,M' (-1),.any]=f ([M' t,M' (-1),M' (-1)],.next))).trans e2))
theorem O5(a b:G)(B:a.natAbs<2^63)(hb:b.natAbs<2^63):pD.fn [.b (zr a),.b (zr b)]=f (.b (zr (a+b))):=by show prun [] 2 0 xN [.b (zr a),.b (zr b)]=_;have e:prun [] 2 0 xN [.b (zr a),.b (zr b)]=f (.b (zr (a*1+b*1))):=aI X (gc (ar X (bE (aP (aP (x:=a) (y:=1) X X (cE B (by decide))) (aP (x:=b) (y:=1) X X (cE hb (by decide))) X) (aP (x:=1) (y:=1) (z:=1) X X X)) (Jp _)));rwa [Qy,Qy]at e
theorem O6(a b:G)(B:a.natAbs<2^63)(hb:b.natAbs<2^63):B5.fn [.b (zr a),.b (zr b)]=f (.b (zr (a*b))):=by show prun [] 2 0 B4 [.b (zr a),.b (zr b)]=_;exact aI X (gc (ar X (bE (aP (x:=a) (y:=b) X X (cE B hb)) (aP (x:=1) (y:=1) (z:=1) X X X)) (Jp _)))
theorem XH(a:G)(B:a.natAbs<2^63):Cd.fn [.b (zr a),.b (zr 1)]=f (.b (zr a)):=by show prun [] 2 0 xO [.b (zr a),.b (zr 1)]=_;have e:prun [] 2 0 xO [.b (zr a),.b (zr 1)]=f (.b (zr (a*1))):=aI X (gc (ar X (bE (aP (x:=a) (y:=1) X X (cE B (by decide))) (aP (x:=1) (y:=1) (z:=1) X X X)) (Jp _)));rwa [Qy]at e
theorem Hc:rF.fn [.b (zr 1)]=f (.b (zr 1)):=by show prun [] 1 0 xM [.b (zr 1)]=_;exact aI X (gc (ar X X (Jp 1)))
theorem SG:rF.fn [.b (zr (-1))]=f (.b (zr (-1))):=by show prun [] 1 0 xM [.b (zr (-1))]=_;exact aI X (gc (ar X X (XG 1)))
theorem XI(a:G):B9.fn [.b (zr a)]=f (.b (zr (-a))):=by exact dT (Int.zero_sub _) X
theorem K6(a:G)(B:a.natAbs<2^63):qi.fn [.b (zr a)]=f (.b (.bool N')):=by
 have N:¬ ((18446744073709551616:G)<=if 1>(if a<0 then -a else a) then 1 else if a<0 then -a else a):=by split<;>(try split)<;>lia
 show prun [] 1 1 qh [.b (zr a)]=_;exact aI X ((ag X).trans (gc (O4 ((cf (y:=18446744073709551616) X X).trans (cb (λb=>f (PV.b (.bool b))) (bT N))))))
noncomputable abbrev K3 (x y z:G):AV:=.tup [.int x,.int y,.int z]
theorem K7(a b c p q r:G):gr.fn [.b (K3 a b c),.b (K3 p q r)]=f (.b (K3 (a+p) (b+q) (c+r))):=by kernel_rfl
theorem rP(a b c p q r:G):cn.fn [.b (K3 a b c),.b (K3 p q r)]=f (.b (K3 (a-p) (b-q) (c-r))):=by kernel_rfl
theorem XJ(a b c p q r:G):eA.fn [.b (K3 a b c),.b (K3 p q r)]=f (.b (K3 (if p>a then p else a) (if q>b then q else b) (if r>c then r else c))):=by kernel_rfl
theorem XK(a b c p q r:G):mE.fn [.b (K3 a b c),.b (K3 p q r)]=f (.b (K3 (if p<a then p else a) (if q<b then q else b) (if r<c then r else c))):=by kernel_rfl
theorem j2(v:AV)(h:v≠.ub):d6.fn [.b (.str 0),.b v]=f (.b v):=by cases v<;>first|exact g_ X h|rfl
theorem SH(a b c p q r:G):j0.fn [.b (K3 a b c),.b (K3 p q r)]=f (.b (.bool (decide ((if p<a then p else a)+(if q<b then q else b)+(if r<c then r else c)=0)))):=by
 show prun [] 2 0 l6 [.b (K3 a b c),.b (K3 p q r)]=_;have e:ax (.bi .sum (bx (pG (aO bw aS)))) [.b (K3 a b c),.b (K3 p q r)]=f (M' (0+(if p<a then p else a)+(if q<b then q else b)+(if r<c then r else c))):=by exact J jY (J (eY (ar X X (XK a b c p q r))) X)
 rw[U0]at e;exact aI X (gc (cf (y:=0) e X))
theorem XM{K':PV->Uy}(h:K' x M=f (v1,.ret hc)):dS K' (x::Z) M=f (v1,.ret hc):=by show(match K' x M with|f (vs1,kS.ret v)=>f (vs1,kS.ret v)|f (vs1,O)=>dS K' Z vs1|R=>R)=_;exact J h X
theorem K8{K':PV->Uy}(h:K' x M=f (v1,.next)):dS K' (x::Z) M=dS K' Z v1:=by show(match K' x M with|f (vs1,kS.ret v)=>f (vs1,kS.ret v)|f (vs1,O)=>dS K' Z vs1|R=>R)=_;exact J h X
section
variable{A u v:PV}{p q r x y i:G}{g:e_}
theorem abr(h:mv (.b (K3 p q r)) (M' i)=f (M' y))(hg:decide (y<x)=g):ax (.cmp .gt cD (.idx aS cM)) [A,.b (K3 p q r),M' i,M' x]=f (.b (.bool g)):=
 (cf (x:=x) (y:=y) X (show ax (.idx aS cM) [A,.b (K3 p q r),M' i,M' x]=f (M' y) from h)).trans (cb (λb=>f (PV.b (.bool b))) hg)
theorem XN(h:mv (.b (K3 p q r)) (M' i)=f (M' y))(g:¬ x<=y):ct (aD [] cJ.hd.body) [2,3] (.b (.tup [.int i,.int x])) [A,.b (K3 p q r),u,v]=f ([A,.b (K3 p q r),M' i,M' x],.ret (.b (.bool N'))):=
 eh ((cu (abr h (bP (Int.not_le.mp g)))).trans X)
theorem K9(h:mv (.b (K3 p q r)) (M' i)=f (M' y))(g:x<=y):ct (aD [] cJ.hd.body) [2,3] (.b (.tup [.int i,.int x])) [A,.b (K3 p q r),u,v]=f ([A,.b (K3 p q r),M' i,M' x],.next):=
 (ag ((cu (abr h (bT (Int.not_lt.mpr g)))).trans X)).trans X
end
theorem O7(a b c p q r:G):cK.fn [.b (K3 a b c),.b (K3 p q r)]=f (.b (.bool (decide (a<=p)&&decide (b<=q)&&decide (c<=r)))):=by
 have k:∀ M hc,dS (ct (aD [] cJ.hd.body) [2,3]) [.b (.tup [.int 0,.int a]),.b (.tup [.int 1,.int b]),.b (.tup [.int 2,.int c])] [.b (K3 a b c),.b (K3 p q r),.any,.any]=f (M,.ret hc)->cK.fn [.b (K3 a b c),.b (K3 p q r)]=f hc:=λM hc h=>by show prun [] 2 2 cJ [.b (K3 a b c),.b (K3 p q r)]=_;exact aI X (eh h)
 by_cases N:a<=p
 .by_cases L:b<=q
  .by_cases h3:c<=r
   .refine J (bP N) (J (bP L) (J (bP h3) ?_));show prun [] 2 2 cJ [.b (K3 a b c),.b (K3 p q r)]=_;exact aI X ((ag (show aD [] cJ.hd [.b (K3 a b c),.b (K3 p q r),.any,.any]=f ([.b (K3 a b c),.b (K3 p q r),M' 2,M' c],.next) from((K8 (K9 (y:=p) X N)).trans ((K8 (K9 (y:=q) X L)).trans ((K8 (K9 (y:=r) X h3)).trans X))))).trans X)
   .exact J (bP N) (J (bP L) (J (bT h3) (k _ _ ((K8 (K9 (y:=p) X N)).trans ((K8 (K9 (y:=q) X L)).trans (XM (XN (y:=r) X h3)))))))
  .exact J (bP N) (J (bT L) (k _ _ ((K8 (K9 (y:=p) X N)).trans (XM (XN (y:=q) X L)))))
 .exact J (bT N) (k _ _ (XM (XN (y:=p) X N)))
theorem La(h:a≠b):f_ a b=N':=by cases h':f_ a b with|false=>rfl|true=>exact g_ (wt h') h
theorem jQ(ht:C'.any mu.contains=N')(hi:mu.contains i=N')(hx:Ef ik (bf M i)=f Z):aD mu (.gF C' ik (.var i) b) M=dS (ct (aD mu b) C') Z M:=by cases ik<;>(dsimp only[aD];(exact J ht (J hi (J hx X))))
noncomputable def ny (c:a_):aA:=[((c/256:a_):G),((c/16%16:a_):G),((c%16:a_):G)]
abbrev kT(c:a_):AV:=K3 ((c/256:a_):G) ((c/16%16:a_):G) ((c%16:a_):G)
def au(A:ZP):dc:=A.map λp=>(ny p.1,zr p.2)
def sm(c:a_):Prop:=c/256<6/\c/16%16<6/\c%16<6
theorem UE(c:a_):256*(c/256)+16*(c/16%16)+c%16=c:=by have N:=wq c 16;have L:=wq (c/16) 16;rw[CV]at L;lia
theorem dg(a:a_)(hb:b<16)(hd:d<16):(256*a+16*b+d)/256=a/\(256*a+16*b+d)/16%16=b/\(256*a+16*b+d)%16=d:=by exact J (by lia:256*a+16*b+d=d+16*(b+16*a)) (dT (CV _ 16 16) (J (Y8 _ _ (by decide)) (J (Nat.div_eq_of_lt hd) (J (wx _) (J (Y8 _ _ (by decide)) (J (Nat.div_eq_of_lt hb) (J (wx _) (J (Y9 _ _ _) (J (Nat.mod_eq_of_lt hb) (J (Y9 _ _ _) (J (Nat.mod_eq_of_lt hd) ⟨X,X,X⟩)))))))))))
theorem Az(a b:a_):k_ a b=decide (a<=b):=by
 cases h:k_ a b
 .exact(bT λk=>by rw[Za k]at h;cases h).symm
 .exact(bP (iB h)).symm
def tb(l c a b d A ha ρ:a_):e_:=cond (k_ a A&&k_ b ha&&k_ d ρ) (pv l c&&f_ (c-l) (256*(A-a)+16*(ha-b)+(ρ-d))) (!(pv l c))
set_option maxRecDepth 100000 in
theorem tab:∀ a b d A ha ρ:Fin 6,tb (256*a.1+16*b.1+d.1) (256*A.1+16*ha.1+ρ.1) a.1 b.1 d.1 A.1 ha.1 ρ.1=V:=by decide +kernel
theorem ae2:∀ a b d:Fin 11,YF (256*a.1+16*b.1+d.1)=(k_ a.1 5&&k_ b.1 5&&k_ d.1 5):=by decide +kernel
theorem UG(hl:sm l)(U':sm c):tb l c (l/256) (l/16%16) (l%16) (c/256) (c/16%16) (c%16)=V:=by
 have:=tab ⟨_,hl.1⟩ ⟨_,hl.2.1⟩ ⟨_,hl.2.2⟩ ⟨_,U'.1⟩ ⟨_,U'.2.1⟩ ⟨_,U'.2.2⟩
 rwa [UE,UE]at this
theorem yk(hl:sm l)(U':sm c):pv l c=(decide (l/256<=c/256)&&decide (l/16%16<=c/16%16)&&decide (l%16<=c%16)):=by
 have h:=UG hl U';refine dT (Az _ _) (dT (Az _ _) (dT (Az _ _) ?_));dsimp only[tb]at h;cases k:k_ (l/256) (c/256)&&k_ (l/16%16) (c/16%16)&&k_ (l%16) (c%16)<;>rw[k]at h
 .exact(rW _).mp h
 .exact((jc _ _).mp h).1
theorem O8(hl:sm l)(U':sm c)(h:pv l c=V):(l/256<=c/256/\l/16%16<=c/16%16/\l%16<=c%16)/\(c-l)/256=c/256-l/256/\(c-l)/16%16=c/16%16-l/16%16/\(c-l)%16=c%16-l%16:=by
 have t:=UG hl U';dsimp only[tb]at t;cases k:k_ (l/256) (c/256)&&k_ (l/16%16) (c/16%16)&&k_ (l%16) (c%16)<;>rw[k]at t
 .rw[h]at t;cases t
 .have k1:=(jc _ _).mp k;have k2:=(jc _ _).mp k1.1;refine⟨⟨iB k2.1,iB k2.2,iB k1.2⟩,?_⟩;exact J (wt ((jc _ _).mp t).2) (dg _ (mM (C0 _ _) (uL _ (by decide))) (mM (C0 _ _) (uL _ (by decide))))
theorem SI(N:a%16+s%16<16)(L:a/16%16+s/16%16<16):(a+s)/256=a/256+s/256/\(a+s)/16%16=a/16%16+s/16%16/\(a+s)%16=a%16+s%16:=by
 have:=dg (a/256+s/256) L N
 rwa [HM,HM,QF (256*_),QF,UE,UE]at this
theorem O9(N:sm a)(L:sm s):(a+s)/256=a/256+s/256/\(a+s)/16%16=a/16%16+s/16%16/\(a+s)%16=a%16+s%16:=
 SI (rY (Nat.add_lt_add N.2.2 L.2.2) (by decide)) (rY (Nat.add_lt_add N.2.1 L.2.1) (by decide))
theorem Pa(N:sm a)(L:sm s)(h:YF (r_ a s)=V):sm (a+s):=by have t:=ae2 ⟨a/256+s/256,eE (Vi N.1 (Vj L.1)) (by decide)⟩ ⟨a/16%16+s/16%16,eE (Vi N.2.1 (Vj L.2.1)) (by decide)⟩ ⟨a%16+s%16,eE (Vi N.2.2 (Vj L.2.2)) (by decide)⟩;rw[HM,HM,QF (256*_),QF,UE,UE]at t;have k1:=(jc _ _).mp (t.symm.trans h);have k2:=(jc _ _).mp k1.1;have d:=O9 N L;exact⟨d.1▸zG (iB k2.1),d.2.1▸zG (iB k2.2),d.2.2▸zG (iB k1.2)⟩
theorem lx1(h:r<16)(j':iv<16):(16*q+r<16*Q+iv)↔(q<Q\/q=Q/\r<iv):=by
 constructor
 .intro k;rcases Nat.lt_trichotomy q Q with e|e|e
  .exact .inl e
  .subst e;exact .inr ⟨X,Nat.lt_of_add_lt_add_left k⟩
  .exact g_ k (by lia)
 .rintro(e|⟨rfl,e⟩)
  .lia
  .exact Nat.add_lt_add_left e _
theorem lx(c x:a_):c<x↔(c/256<x/256\/c/256=x/256/\c/16%16<x/16%16)\/c/16=x/16/\c%16<x%16:=by have N:=lx1 (q:=c/16) (Q:=x/16) (uL c (by decide)) (uL x (by decide));have L:=lx1 (q:=c/16/16) (Q:=x/16/16) (uL (c/16) (by decide)) (uL (x/16) (by decide));rw[wq,wq,CV,CV]at L;rwa [wq,wq,L]at N
theorem abt(N:c/256=x/256)(L:c/16%16=x/16%16):c/16=x/16:=by exact dT (wq (c/16) 16) (dT (wq (x/16) 16) (J (CV _ _ _) (J (CV _ _ _) (J N (J L X)))))
theorem Hd(N:c/256=x/256)(L:c/16%16=x/16%16)(h3:c%16=x%16):c=x:=by exact dT (UE c) (dT (UE x) (J N (J L (J h3 X))))
theorem lt3(N:c/256=x/256)(L:c/16%16=x/16%16):c%16<x%16↔c<x:=
 .trans ⟨λk=>.inr ⟨abt N L,k⟩,λk=>k.elim (λk=>k.elim (λk=>g_ N (jh k)) λk=>g_ L (jh k.2)) (·.2)⟩ (lx c x).symm
theorem lt2(N:c/256=x/256)(L:¬ c/16%16=x/16%16):c/16%16<x/16%16↔c<x:=
 .trans ⟨λk=>.inl (.inr ⟨N,k⟩),λk=>k.elim (λk=>k.elim (λk=>g_ N (jh k)) (·.2)) λk=>g_ (cb (·%16) k.1) L⟩ (lx c x).symm
theorem lt1(N:¬ c/256=x/256):c/256<x/256↔c<x:=
 .trans ⟨λk=>.inl (.inl k),λk=>k.elim (λk=>k.elim id λk=>g_ k.1 N) λk=>g_ (by exact dT (CV c 16 16) (dT (CV x 16 16) (J k.1 X))) N⟩ (lx c x).symm
theorem YI{K' g:AV->AV->af e_}(h:K' x y=f V):r9 K' g e (x::Z) (y::ys)=r9 K' g e Z ys:=by show(match K' x y with|f V=>r9 K' g e Z ys|f N'=>g x y |R=>R)=_;exact J h X
theorem XQ{K' g:AV->AV->af e_}(h:K' x y=f N'):r9 K' g e (x::Z) (y::ys)=g x y:=by show(match K' x y with|f V=>r9 K' g e Z ys|f N'=>g x y |R=>R)=_;exact J h X
theorem iT(h:a=b):fq d (.int (a:a_)) (.int (b:a_))=f V:=by cases d<;>exact cb f (bP (cb y_ h))
theorem iF(h:¬ a=b):fq d (.int (a:a_)) (.int (b:a_))=f N':=by cases d<;>exact cb f (bT λk=>h (vE k))
noncomputable def gtB (g:e_) (a b:a_):e_:=if g=V then decide (b<a) else decide (a<b)
theorem iO:kY g d (.int (a:a_)) (.int (b:a_))=f (gtB g a b):=by(dsimp only[gtB];rw[<-HV.mpr QB,<-HV.mpr QB]);cases d<;>rfl
theorem Pb(h:a<b↔c<x)(h':b<a↔x<c):gtB g a b=gtB g c x:=by dsimp only[gtB];exact J (HV.mpr h) (J (HV.mpr h') X)
theorem abu:gtB g a a=N':=by dsimp only[gtB];exact J (bT (CY a)) (J (ite_self _) X)
theorem XR(g:e_)(d x c:a_):kY g (d+1) (kT x) (kT c)=f (gtB g x c):=by
 show r9 (fq d) (kY g d) _ _ _=_;by_cases N:x/256=c/256
 .refine J (YI (iT N)) ?_;by_cases L:x/16%16=c/16%16
  .refine J (YI (iT L)) ?_;by_cases h3:x%16=c%16
   .exact J (YI (iT h3)) (J (Hd N L h3) (J abu (cb f (ite_self _))))
   .exact J (XQ (iF h3)) (J iO (J (Pb (lt3 N L) (lt3 N.symm L.symm)) X))
  .exact J (XQ (iF L)) (J iO (J (Pb (lt2 N L) (lt2 N.symm λk=>L k.symm)) X))
 .exact J (XQ (iF N)) (J iO (J (Pb (lt1 N) (lt1 λk=>N k.symm)) X))
theorem eqK(d a b:a_):fq (d+1) (kT a) (kT b)=f (decide (a=b)):=by
 have e:fq (d+1) (kT a) (kT b)=f (decide (((a/256:a_):G)=(b/256:a_))&&(decide (((a/16%16:a_):G)=(b/16%16:a_))&&(decide (((a%16:a_):G)=(b%16:a_))&&V))):=by cases d<;>rfl
 refine e.trans (cb f (Bool.eq_iff_iff.mpr ⟨λh=>?_,λh=>?_⟩))
 .have k1:=(jc _ _).mp h;have k2:=(jc _ _).mp k1.2;exact bP (Hd (vE (dY k1.1)) (vE (dY k2.1)) (vE (dY ((jc _ _).mp k2.2).1)))
 .exact J (dY h) (J (bP X) (J (bP X) (J (bP X) X)))
theorem ae4(x c:a_):fy ⟨0,.nil⟩ .gt (kT x) (kT c)=f (decide (c<x)):=XR V 2 x c
theorem ae5(x c:a_):kY N' 3 (kT x) (kT c)=f (decide (x<c)):=XR N' 2 x c
theorem abv(a b:a_):f_ a b=decide (a=b):=by
 cases h:f_ a b
 .exact(bT λk=>by rw[k,JK]at h;cases h).symm
 .exact(bP (wt h)).symm
theorem abw(a b:a_):fq 3 (kT a) (kT b)=f (f_ a b):=(eqK 2 a b).trans (cb f (abv a b).symm)
theorem ae6(a b:a_):fy ⟨0,.nil⟩ .ne (kT a) (kT b)=f (!(f_ a b)):=by show(match fq 3 (kT a) (kT b) with|f p=>f (!p) |R=>R)=_;exact J (abw _ _) X
noncomputable abbrev keys (A:ZP):cj:=A.map (·.1)
structure jn(b:a_)(A:ZP):Prop where
 nd:(keys A).Nodup
 el:∀ p∈A,sm p.1/\p.2≠0/\p.2.natAbs<=b
theorem we(c:a_):keyOf [.int ((c/256:a_):G),.int ((c/16%16:a_):G),.int ((c%16:a_):G)]=f (ny c):=rfl
theorem Pc(h:ny c=ny d):c=d:=by injection h with N h;injection h with L h;injection h with h3;exact Hd (vE N) (vE L) (vE h3)
theorem nz:(ny c=ny d)=(c=d):=propext ⟨Pc,λh=>by exact J h X⟩
theorem Pd:au []=[]:=rfl
theorem dW(p:a_ × G)(A:ZP):au (p::A)=(ny p.1,zr p.2)::au A:=rfl
theorem cw(A:ZP):(au A).length=A.length:=cz _
noncomputable def rQ (c:a_):ZP->af G|[]=>R|p::r=>if p.1=c then f p.2 else rQ c r
theorem tc(c:a_):∀ A:ZP,jS (au A) (ny c)=(rQ c A).map zr:=λw'=>by induction w' with|nil=>exact X|cons p A ih=>
  dsimp only[dW,jS,rQ,nz];simp only[dW,nz];split
  .rfl
  .exact ih
theorem pO(c:a_)(n:G):∀ A:ZP,iK (au A) (ny c) (zr n)=au (mx c n A):=λw'=>by induction w' with|nil=>exact X|cons p A ih=>
  dsimp only[dW,iK,mx,nz];simp -iota only [dW,nz];by_cases h:p.1=c
  .clear ih;subst h;simp[dW]
  .refine J (ak h) (J (La h) ?_);simp only[dW,ih]
theorem EP(c:a_):∀ A:ZP,lM (au A) (ny c)=au (oI c A):=λw'=>by induction w' with|nil=>exact X|cons p A ih=>
  dsimp only[dW,lM,oI,nz];simp -iota only [dW,nz];by_cases h:p.1=c
  .clear ih;subst h;simp[]
  .refine J (ak h) (J (La h) ?_);simp only[dW,ih]
theorem Pe:∀{A:ZP},rQ c A=f n->(c,n)∈A:=by intro w';induction w' with|nil=>intro h;exact nS h|cons p A ih=>
  intro h;dsimp only[rQ]at h;split at h
  rename_i q
  rotate_left;rotate_left
  .obtain rfl:=aw h;clear ih;subst q;exact aQ
  .exact bg _ (ih h)
theorem Jq:∀{A:ZP},(keys A).Nodup->(c,n)∈A->rQ c A=f n:=by intro w';induction w' with|nil=>(intro O h;cases h)|cons p A ih=>
  intro hn h;dsimp only[keys]at hn;rw[bW,gw]at hn;dsimp only[rQ];rcases aV.mp h with h|h
  .clear hn;subst h;exact ai X
  .rw[ak,ih hn.2 h];intro q;exact hn.1 (q▸eT.mpr ⟨_,h,X⟩)
theorem He:∀{A:ZP},rQ c A=.none->fP c n A=mx c n A:=by intro w';induction w' with|nil=>intro O;exact X|cons p A ih=>intro h;revert h;refine Dl sN λq h=>?_;dsimp only[fP,mx];(exact J (La q) (J (ih h) X))
theorem fB(n:G):zm n=decide (n=0):=by cases n with|ofNat n=>(cases n<;>(dsimp only[zm];simp);rfl)|negSucc n=>rfl
theorem Hf:∀{A:ZP},rQ c A=f m->fP c n A=if m+n=0 then oI c A else mx c (m+n) A:=by intro w';induction w' with|nil=>intro h;exact nS h|cons p A ih=>
  intro h;dsimp only[rQ]at h;split at h
  rename_i q
  rotate_left
  rename_i q
  rotate_left
  .obtain rfl:=aw h;clear ih;subst q;dsimp only[fP,oI,mx];refine J (JK _) (J (fB _) ?_);by_cases h0:p.2+n=0
   .exact J (ai h0) (J (bP (show U? p.2 n=0 from h0)) X)
   ·(refine J (ak h0) (J (bT (show ¬ U? p.2 n=0 from h0)) ?_));rfl
  .dsimp only[fP,oI,mx];(refine J (La q) (J (ih h) ?_));by_cases z:m+n=0
   .exact J (ai z) (J (ai z) X)
   .exact J (ak z) (J (ak z) X)
theorem Lb:∀{A:ZP},(keys A).Nodup->∀ p∈fP c n A,(p∈A/\p.1≠c)\/(p.1=c/\((c∉keys A/\p.2=n)\/∃ m,(c,m)∈A/\p.2=m+n/\p.2≠0)):=by intro w';induction w' with|nil=>intro O p h;(dsimp only[fP]at h;rw[az]at h);subst h;exact .inr ⟨X,.inl ⟨gx,X⟩⟩|cons q A ih=>
  intro hn p h;(dsimp only[keys]at hn;rw[bW,gw]at hn);dsimp only[fP]at h;revert h;cases e:f_ q.1 c<;>intro h;rotate_left
  .have e:=wt e;have out:∀ p∈A,p.1≠c:=λp hp e'=>hn.1 (e▸e'▸eT.mpr ⟨p,hp,X⟩);revert h;cases z:zm (U? q.2 n)<;>intro h;rotate_left
   .exact .inl ⟨bg _ h,out p h⟩
   .rw[fB,uP]at z;rcases aV.mp h with h|h
    .subst h;exact .inr ⟨X,.inr ⟨q.2,by refine dT e ?_;exact aQ,X,z⟩⟩
    .exact .inl ⟨bg _ h,out p h⟩
  .have e:=Mc e;rcases aV.mp h with h|h
   .clear hn;subst h;exact .inl ⟨aQ,e⟩
   .rcases ih hn.2 p h with ⟨a,b⟩|⟨a,⟨b,d⟩|⟨m,b,d,K'⟩⟩
    .exact .inl ⟨bg _ a,b⟩
    .refine .inr ⟨a,.inl ⟨?_,d⟩⟩;(dsimp only[keys];refine J bW (J (propext aV) (J (propext wA) ?_)));exact⟨kz e,b⟩
    .exact .inr ⟨a,.inr ⟨m,bg _ b,d,K'⟩⟩
theorem Hg:∀{A:ZP} {k:a_},k∈keys (fP c n A)->k∈keys A\/k=c:=by intro w';induction w' with|nil=>intro k h;(dsimp only[fP,keys]at h;simp only[bW,mN,az]at h);exact .inr h|cons q A ih=>
  intro k h;dsimp only[fP]at h;revert h;cases e:f_ q.1 c<;>intro h;rotate_left
  .revert h;cases q_:zm (U? q.2 n)<;>intro h;rotate_left
   .exact .inl (bg _ h)
   .rcases aV.mp h with h|h
    .exact .inr h
    .exact .inl (bg _ h)
  .rcases aV.mp h with h|h
   .left;exact J h aQ
   .exact(ih h).imp (bg _) id
theorem ES:∀{A:ZP},(keys A).Nodup->(keys (fP c n A)).Nodup:=by intro w';induction w' with|nil=>intro O;dsimp only[fP,keys];simp|cons q A ih=>
  intro hn;have hn0:=hn;dsimp only[keys]at hn;rw[bW,gw]at hn;dsimp only[fP];cases e:f_ q.1 c;rotate_left
  .cases q_:zm (U? q.2 n);rotate_left
   .exact hn.2
   .exact dT (wt e) hn0
  .show(q.1::keys (fP c n A)).Nodup;refine J (propext gw) ⟨λh=>?_,ih hn.2⟩;rcases Hg h with h|h
   .exact hn.1 h
   .exact(Mc e) h
theorem Lc:∀(n:a_) (l:cj),l.Nodup->(∀ x∈l,x<n)->l.length<=n:=λw'=>by induction w' with|zero=>(intro l O h;cases l with|nil=>exact c9 _|cons x l=>exact g_ (h x aQ) (Md _))|succ n ih=>
  intro l hn h
  have N:=ih (l.erase n) (hn.erase n) λx hx=>by
   rw[hn.mem_erase_iff]at hx
   have:=h x hx.2
   lia
  by_cases hm:n∈l
  .rw[List.length_erase_of_mem hm]at N;lia
  .rw[List.erase_of_not_mem hm]at N;lia
theorem jn.length(h:jn b A):A.length<=1536:=by
 have:=Lc 1536 (keys A) h.nd λx hx=>by refine ah (eT.mp hx) λp hp fJ=>?_;clear hx;subst fJ;exact(Nat.div_lt_iff_lt_mul (by decide:0<256)).mp (h.el p hp).1.1
 simpa [keys]using this
theorem jn.mono(h:jn b A)(q:b<=b'):jn b' A:=⟨h.nd,λp hp=>⟨(h.el p hp).1,(h.el p hp).2.1,aR (h.el p hp).2.2 q⟩⟩
theorem Jr(t:G):fy ⟨0,.nil⟩ .eq (zr t) (.tup [.int 0,.int 1])=f (decide (t=0)):=by dsimp only[fy,fq,Fx];simp
theorem XU(hA:∀ p∈A,p.2.natAbs<2^62)(hn:n.natAbs<2^62)(h0:n≠0)(hl:A.length<=lim):c6.fn [.dict (au A),.b (kT c),.b (zr n)]=f (.dict (au (fP c n A))):=by show fR pD.fn [.dict (au A),.b (kT c),.b (zr n)]=_;dsimp only[fR,we,tc];refine J (tc _ _) ?_;cases hz:rQ c A with|none=>dsimp only[Option.map];refine J (Jr _) (J (bT h0) ?_);dsimp only;exact J (cw _) (J (ai hl) (J (pO _ _ _) (J (He hz) X)))|some m=>
  have hm:=hA _ (Pe hz);dsimp only[Option.map_some];refine J (O5 m n (by lia) (by lia)) ?_;dsimp only;refine J (Jr _) (J (Hf hz) ?_);by_cases h:m+n=0
  .refine J (bP h) (J (ai h) ?_);dsimp only;exact J (EP _ _) (J (cw _) (J (ai hl) X))
  .refine J (bT h) (J (ak h) ?_);dsimp only;exact J (pO _ _ _) (J (cw _) (J (ai hl) X))
def pP(ha A:ZP):ZP:=ha.foldl (λG' p=>fP p.1 p.2 G') A
structure Pf(b c:a_)(S:cj)(A:ZP):Prop where
 nd:(keys A).Nodup
 el:∀ p∈A,sm p.1/\p.2≠0/\p.2.natAbs<=b+c/\(p.1∉S->p.2.natAbs<=b)
theorem Pf.step(h:Pf b c S A)(hk:k∉S)(hs:sm k)(h0:n≠0)(hn:n.natAbs<=c):Pf b c (k::S) (fP k n A):=by
 refine⟨ES h.nd,λp hp=>?_⟩;rcases Lb h.nd p hp with ⟨a,d⟩|⟨a,⟨d,K'⟩|⟨m,d,K',g⟩⟩
 .refine jj (h.el p a) λe1 e2 e3 e4=>?_;exact qN e1 e2 e3 (λq=>e4 λw=>q (bg _ w))
 .refine J a (J K' ?_);exact qN hs h0 (aR hn (rX _ _)) (λq=>g_ aQ q)
 .refine jj (h.el _ d) λe1 e2 e3 e4=>J a ?_;exact qN hs g (J K' (nab (e4 hk) hn)) (λq=>g_ aQ q)
theorem Pf.len(h:Pf b c S A):A.length<=1536:=jn.length (b:=b+c) ⟨h.nd,λp hp=>⟨(h.el p hp).1,(h.el p hp).2.1,(h.el p hp).2.2.1⟩⟩
theorem Pg:∀(ha:ZP) (S:cj) (A:ZP),Pf b c S A->(keys ha).Nodup->(∀ p∈ha,p.1∉S/\sm p.1/\p.2≠0/\p.2.natAbs<=c)->jn (b+c) (pP ha A):=λw'=>by induction w' with|nil=>intro S A h O O;exact⟨h.nd,λp hp=>⟨(h.el p hp).1,(h.el p hp).2.1,(h.el p hp).2.2.1⟩⟩|cons q ha ih=>
  intro S A h hn hB;refine jj (hB q aQ) λN L h3 h4=>?_;dsimp only[keys]at hn;rw[bW,gw]at hn;refine ih (q.1::S) (fP q.1 q.2 A) (h.step N L h3 h4) hn.2 λp hp=>jj (hB p (bg _ hp)) λk1 k2 k3 k4=>?_;refine qN (λw=>?_) k2 k3 k4;rcases aV.mp w with w|w
  .exact hn.1 (w▸eT.mpr ⟨p,hp,X⟩)
  .exact k1 w
theorem ET(h:sm c):smallKey (ny c)=V:=by dsimp only[sm]at h;dsimp only[smallKey,ny];simp[h.1,h.2.1,h.2.2]
theorem AA(h:jn b A):(au A).all (λp=>smallKey p.1)=V:=by refine J (propext mK) ?_;intro p hp;refine ah (eT.mp hp) λq hq fJ=>?_;clear hp;subst fJ;exact ET (h.el q hq).1
theorem Hh:aD mu (.expr (.call K' F P as)) M=(match P.mu with|V=>(match as with|.cons (.var i) r=>(match mu.contains i with|V=>(match ax r M with|f (.tup Vs)=>(match (allB Vs).isSome with|V=>(match isObj (bf M i) with|V=>lA M i (P.fn (bf M i::Vs))|N'=>R)|N'=>R)|_=>R)|N'=>R)|_=>R)|N'=>match ax as M with|f (.tup Vs)=>(match P.fn Vs with|f O=>f (M,.next)|R=>R)|_=>R):=rfl
theorem SJ(hm:P.mu=V)(hi:mu.contains i=V)(hr:ax r M=f (.tup Vs))(hb:(allB Vs).isSome=V)(ho:isObj (bf M i)=V)(hf:P.fn (bf M i::Vs)=f hc):aD mu (.expr (.call K' F P (.cons (.var i) r))) M=f (bM M i hc,.next):=by refine J Hh (J hm ?_);dsimp only;refine J hi ?_;refine J hr ?_;dsimp only;refine J hb ?_;refine J ho ?_;exact J hf X
theorem Hi(hb:b+c<2^62):∀(ha:ZP) (S:cj) (A:ZP) (pw:PV),Pf b c S A->(keys ha).Nodup->(∀ p∈ha,p.1∉S/\sm p.1/\p.2≠0/\p.2.natAbs<=c)->(∀ p∈ha,mv (.dict E) (.b (kT p.1))=f (.b (zr p.2))) ->
  ∃ FC,dS (ct (aD [2] gX.tl.hd.body) [3]) (ha.map λp=>.b (kT p.1)) [ρ,.dict E,.dict (au A),pw]=f ([ρ,.dict E,.dict (au (pP ha A)),FC],.next):=by
 intro w9;induction w9 with|nil=>intro S A pw h O O O;exact⟨pw,X⟩|cons q ha IH=>
  intro S A pw h hn hB hE;refine jj (hB q aQ) λN L h3 h4=>?_;dsimp only[keys]at hn;rw[bW,gw]at hn;have hq:=hE q aQ;have abx:ct (aD [2] gX.tl.hd.body) [3] (.b (kT q.1)) [ρ,.dict E,.dict (au A),pw]=f ([ρ,.dict E,.dict (au (fP q.1 q.2 A)),.b (kT q.1)],.next):=by show aD [2] (.seq (.expr (.call "add_term" jB c6 (.cons (.var 2) (.cons (.var 3) (.cons (.idx (.var 1) (.var 3)) .nil))))) .skip) [ρ,.dict E,.dict (au A),.b (kT q.1)]=_;exact(ag (SJ (i:=2) (M:=[ρ,.dict E,.dict (au A),.b (kT q.1)]) Ha X (bE (A:=.b (kT q.1)) X (eK (A:=.dict E) (I:=.b (kT q.1)) X X hq)) X X (XU (A:=A) (c:=q.1) (n:=q.2) (λp hp=>by have:=(h.el p hp).2.2.1;exact mM ‹_› ‹_›) (by lia) h3 (aR h.len (by decide))))).trans X
  obtain⟨FC,ih⟩:=IH (q.1::S) (fP q.1 q.2 A) (.b (kT q.1)) (h.step N L h3 h4) hn.2 (λp hp=>by
   refine jj (hB p (bg _ hp)) λk1 k2 k3 k4=>?_;refine qN (λw=>?_) k2 k3 k4;rcases aV.mp w with w|w
   .exact hn.1 (w▸eT.mpr ⟨p,hp,X⟩)
   .exact k1 w) λp hp=>hE p (bg _ hp)
  refine⟨FC,?_⟩;dsimp only[D_,dS];exact J abx ih
theorem oq(h:jn b A):∀ p∈A,mv (.dict (au A)) (.b (kT p.1))=f (.b (zr p.2)):=λp hp=>by dsimp only[mv];simp only[we,tc,Jq h.nd hp,zL]
theorem jn.Pf(h:jn b A):Pf b c [] A:=⟨h.nd,λp hp=>⟨(h.el p hp).1,(h.el p hp).2.1,by have:=(h.el p hp).2.2;lia,λO=>(h.el p hp).2.2⟩⟩
theorem SK(hA:jn b A)(hB:jn c ha)(hb:b+c<2^62):B8.fn [.dict (au A),.dict (au ha)]=f (.dict (au (pP ha A)))/\jn (b+c) (pP ha A):=by
 have hB':∀ p∈ha,p.1∉([]:cj)/\sm p.1/\p.2≠0/\p.2.natAbs<=c:=λp hp=>⟨gx,hB.el p hp⟩;refine⟨?_,Pg ha [] A hA.Pf hB.nd hB'⟩;obtain⟨FC,hl⟩:=Hi hb (ρ:=.dict (au A)) (E:=au ha) ha [] A .any hA.Pf hB.nd hB' (oq hB);have xo:(au ha).map (λp=>PV.b (iJ p.1))=ha.map λp=>.b (kT p.1):=by exact J fG X
 have hlen:A.length<=lim:=aR hA.length (by decide);have e1:aD [2] gX.hd [.dict (au A),.dict (au ha),.any,.any]=f ([.dict (au A),.dict (au ha),.dict (au A),.any],.next):=by dsimp only[gX,CS.hd,aD,ax,bf,bM,rC,fresh,Xd,tC];simp[AA hA,cw,hlen]
 have e2:aD [2] gX.tl.hd [.dict (au A),.dict (au ha),.dict (au A),.any]=f ([.dict (au A),.dict (au ha),.dict (au (pP ha A)),FC],.next):=
  (jQ (i:=1) (ik:=.plain) (C':=[3]) (b:=gX.tl.hd.body) X X (by(dsimp only[bf,Ef];exact J xo X))).trans hl
 have e3:aD [2] gX.tl.tl [.dict (au A),.dict (au ha),.dict (au (pP ha A)),FC]=f ([.dict (au A),.dict (au ha),.dict (au (pP ha A)),FC],.ret (.dict (au (pP ha A)))):=by dsimp only[gX,CS.tl,aD,ax,bf]
 exact aI (mu:=[2]) (np:=2) (more:=2) (ha:=gX) (as:=[.dict (au A),.dict (au ha)]) X ((ag e1).trans ((ag e2).trans e3))
theorem EU:∀{A:ZP},c∉keys A->mx c n A=A++[(c,n)]:=by intro w';induction w' with|nil=>intro O;exact X|cons p A ih=>intro h;dsimp only[keys]at h;rw[bW,aV,wA]at h;dsimp only[mx];(exact J (La (kz h.1)) (J (ih h.2) (J Mk X)))
theorem Ld{K':PV->af (aA × AV)}{φ:a_ × G->a_ × G}:∀(A G':ZP),(∀ p∈A,K' (.b (kT p.1))=f (ny (φ p).1,zr (φ p).2))->(keys (A.map φ)).Nodup->(∀ k∈keys (A.map φ),k∉keys G') ->
  Am K' (A.map λp=>.b (kT p.1)) (au G')=f (au (G'++A.map φ)):=by
 intro w';induction w' with|nil=>intro G' O O O;exact J mN (J mN (J (HR _) X))|cons p A ih=>
  intro G' hf hn hd;dsimp only[keys]at hn;simp only[bW,gw]at hn;dsimp only[D_,Am];refine J (hf p aQ) ?_;dsimp only;refine J (pO _ _ _) (J (EU (hd (φ p).1 (by(dsimp only[keys];simp)))) ?_);rw[ih (G'++[φ p]) (λq hq=>hf q (bg _ hq)) hn.2 λk hk=>?_]
  .simp
  .dsimp only[keys];refine J C6 (J (propext fH) (J bW (J mN (J (propext az) (J (propext wA) ?_)))));refine⟨hd k (bg _ hk),?_⟩;rintro rfl;exact hn.1 hk
theorem qp(A:ZP):(au A).map (λp=>PV.b (iJ p.1))=A.map λp=>.b (kT p.1):=by exact J fG X
theorem rR{K':PV->af (aA × AV)}{φ:a_ × G->a_ × G}(hf:∀ p∈A,K' (.b (kT p.1))=f (ny (φ p).1,zr (φ p).2))(hn:(keys (A.map φ)).Nodup)(hl:A.length<=lim) :
  BR (f (.dict (au A))) .plain K'=f (.dict (au (A.map φ))):=by
 have:=Ld A [] hf hn λk O h=>gx h
 simp only[Pd,C7]at this;dsimp only[BR,Ef];simp only[qp,cz,hl,gv,this,cw]
theorem uB{w:a_ × G->G}:keys (A.map λp=>(p.1,w p))=keys A:=by dsimp only[keys];simp[Function.comp_def]
theorem jn.map(h:jn b A){w:a_ × G->G}(hw:∀ p∈A,w p≠0/\(w p).natAbs<=c):jn c (A.map λp=>(p.1,w p)):=by refine⟨by refine J uB ?_;exact h.nd,λp hp=>?_⟩;((refine ah (eT.mp hp) λq hq fJ=>?_;clear hp;subst fJ));exact⟨(h.el q hq).1,hw q hq⟩
theorem jn.lim(h:jn b A):A.length<=lim:=aR h.length (by decide)
theorem SM(hA:jn b A):Cb.fn [.dict (au A)]=f (.dict (au (A.map λp=>(p.1,-p.2))))/\jn b (A.map λp=>(p.1,-p.2)):=by
 refine⟨?_,hA.map λp hp=>⟨by have:=(hA.el p hp).2.1;lia,by exact J (Int.natAbs_neg _) ((hA.el p hp).2.2)⟩⟩;have e1:aD [] qf [.dict (au A),.any]=f ([.dict (au A),.any],.ret (.dict (au (A.map λp=>(p.1,-p.2))))):=by dsimp only[qf,aD,ax,bf];rw[rR (φ:=λp=>(p.1,-p.2)) (λp hp=>?_) (by rw[uB];exact hA.nd) hA.lim];have N:=oq hA p hp;have L:=XI p.2;dsimp only[zr]at N L;dsimp only[xC,cV,bM,bf,keyOf];simp[N,L,XE];rfl
 exact aI (mu:=[]) (np:=1) (more:=1) (ha:=qf) (as:=[.dict (au A)]) X e1
theorem SN(hA:jn b A)(hB:jn c ha)(hb:b+c<2^62):qg.fn [.dict (au A),.dict (au ha)]=f (.dict (au (pP (ha.map λp=>(p.1,-p.2)) A)))/\jn (b+c) (pP (ha.map λp=>(p.1,-p.2)) A):=by refine cF (SM hB) λN L=>?_;refine cF (SK hA L hb) λh3 h4=>?_;refine⟨?_,h4⟩;show prun [] 2 0 wb [.dict (au A),.dict (au ha)]=_;exact aI X (gc (ar X (bE X (ar X (eY X) N)) h3))
theorem UH(h:u≠0):fy ⟨0,.nil⟩ .eq (zr u) (.tup [.int 0,.int 1])=f N':=J (Jr _) (J (bT h) X)
theorem Le(hA:jn b A)(hu:u≠0)(U':b*u.natAbs<=c)(N:b<2^63)(L:u.natAbs<2^63):ue.fn [.dict (au A),.b (zr u)]=f (.dict (au (A.map λp=>(p.1,p.2*u))))/\jn c (A.map λp=>(p.1,p.2*u)):=by
 refine⟨?_,hA.map λp hp=>⟨Int.mul_ne_zero (hA.el p hp).2.1 hu,by exact J (JI _ _) (aR (zH _ (hA.el p hp).2.2) U')⟩⟩;have e0:aD [] ip.hd [.dict (au A),.b (zr u),.any]=f ([.dict (au A),.b (zr u),.any],.next):=by dsimp only[ip,CS.hd,aD,ax,bf,nR];simp[UH hu]
 have e1:aD [] ip.tl [.dict (au A),.b (zr u),.any]=f ([.dict (au A),.b (zr u),.any],.ret (.dict (au (A.map λp=>(p.1,p.2*u))))):=by dsimp only[ip,CS.tl,aD,ax,bf];rw[rR (φ:=λp=>(p.1,p.2*u)) (λp hp=>?_) (by rw[uB];exact hA.nd) hA.lim];have h3:=oq hA p hp;have h4:=O6 p.2 u (mM (hA.el p hp).2.2 N) L;dsimp only[zr]at h3 h4;dsimp only[xC,cV,bM,bf,keyOf];simp[h3,h4,rN];rfl
 exact aI (mu:=[]) (np:=2) (more:=1) (ha:=ip) (as:=[.dict (au A),.b (zr u)]) X ((ag e0).trans e1)
theorem XV(N:sm a)(L:sm s):K3 ((a/256:a_)+(s/256:a_)) ((a/16%16:a_)+(s/16%16:a_)) ((a%16:a_)+(s%16:a_))=kT (a+s):=by refine dH (O9 N L) λa1 a2 a3=>?_;dsimp only[kT];simp only[a1,a2,a3,Int.natCast_add]
theorem AB(hA:jn b A)(hs:sm s)(hk:∀ p∈A,sm (p.1+s))(hu:u≠0)(U':b*u.natAbs<=c)(N:b<2^63)(L:u.natAbs<2^63) :
  jE.fn [.dict (au A),.b (kT s),.b (zr u)]=f (.dict (au (A.map λp=>(p.1+s,p.2*u))))/\jn c (A.map λp=>(p.1+s,p.2*u)):=by
 have CN:(keys (A.map λp=>(p.1+s,p.2*u))).Nodup:=by
  have:keys (A.map λp=>(p.1+s,p.2*u))=(keys A).map (·+s):=by(dsimp only[keys];simp[Function.comp_def])
  exact J this (List.Pairwise.map (λx=>x+s) (λa b (h:a≠b)=>by lia) hA.nd)
 refine⟨?_,CN,λp hp=>?_⟩
 .have e0:aD [] iq.hd [.dict (au A),.b (kT s),.b (zr u),.any]=f ([.dict (au A),.b (kT s),.b (zr u),.any],.next):=by dsimp only[iq,CS.hd,aD,ax,bf,nR];simp[UH hu]
  have e1:aD [] iq.tl [.dict (au A),.b (kT s),.b (zr u),.any]=f ([.dict (au A),.b (kT s),.b (zr u),.any],.ret (.dict (au (A.map λp=>(p.1+s,p.2*u))))):=by dsimp only[iq,CS.tl,aD,ax,bf];rw[rR (φ:=λp=>(p.1+s,p.2*u)) (λp hp=>?_) CN hA.lim];have h3:=oq hA p hp;have h4:=O6 p.2 u (mM (hA.el p hp).2.2 N) L;have h5:=K7 ((p.1/256:a_):G) ((p.1/16%16:a_):G) ((p.1%16:a_):G) ((s/256:a_):G) ((s/16%16:a_):G) ((s%16:a_):G);rw[XV (hA.el p hp).1 hs]at h5;dsimp only[kT,K3,zr]at h3 h4 h5;dsimp only[xC,cV,bM,bf,h3,h4,h5,rN,dG,keyOf];simp -iota [h3,h4,h5,rN,dG];dsimp only[xC,cV,bM,bf,h3,h4,h5,rN,dG,keyOf];simp -iota [h3,h4,h5,rN,dG];dsimp only[xC,cV,bM,bf,h3,h4,h5,rN,dG,keyOf];simp[h3,h4,h5,rN,dG];rfl
  exact aI (mu:=[]) (np:=3) (more:=1) (ha:=iq) (as:=[.dict (au A),.b (kT s),.b (zr u)]) X ((ag e0).trans e1)
 .refine ah (eT.mp hp) λq hq fJ=>?_;clear hp;subst fJ;exact⟨hk q hq,Int.mul_ne_zero (hA.el q hq).2.1 hu,by exact J (JI _ _) (aR (zH _ (hA.el q hq).2.2) U')⟩
theorem qr:∀(r:ZP) (p:a_ × G),fQ r p∈p::r:=λw'=>by induction w' with|nil=>intro p;dsimp only[fQ];exact aQ|cons q r ih=>
  intro p;dsimp only[fQ];cases q_:k_ q.1 p.1;rotate_left
  .rcases aV.mp (ih p) with h|h
   .exact J h aQ
   .exact bg _ (bg _ h)
  .exact bg _ (ih q)
theorem Lf{w:G->G}:∀(r:ZP) (p:a_ × G),fQ (r.map λq=>(q.1,w q.2)) (p.1,w p.2)=((fQ r p).1,w (fQ r p).2):=λw'=>by induction w' with|nil=>intro p;exact X|cons q r ih=>
  intro p;dsimp only[x_,fQ];refine J bW ?_;dsimp only[x_,fQ];cases q_:k_ q.1 p.1;rotate_left
  .exact ih p
  .exact ih q
theorem Lg(hg:fy ⟨0,.nil⟩ .gt (K3 x y z) (K3 aj σ xs)=f N'):ct (aD [] cI.tl.hd.body) [2] (.b (K3 x y z)) [ρ,.b (.str 0),pw,.b (K3 aj σ xs),.b (K3 aj σ xs),pl]=f ([ρ,.b (.str 0),.b (K3 x y z),.b (K3 aj σ xs),.b (K3 aj σ xs),.b (K3 x y z)],.next):=by have hk:d6.fn [.b (.str 0),.b (K3 x y z)]=f (.b (K3 x y z)):=j2 _ (by intro h;cases h);dsimp only[K3]at hk hg ⊢;dsimp only[cI,CS.hd,CS.tl,CS.body,ct,hk,hg,AV.isNone,dv,aD,ax,bf,bM,cV,rC,nR,dR];simp -iota [hk,hg,dv];dsimp only[cI,CS.hd,CS.tl,CS.body,ct,hk,hg,AV.isNone,dv,aD,ax,bf,bM,cV,rC,nR,dR];simp -iota [hk,hg,dv];dsimp only[cI,CS.hd,CS.tl,CS.body,ct,hk,hg,AV.isNone,dv,aD,ax,bf,bM,cV,rC,nR,dR]
theorem Hj(hg:fy ⟨0,.nil⟩ .gt (K3 x y z) (K3 aj σ xs)=f V):ct (aD [] cI.tl.hd.body) [2] (.b (K3 x y z)) [ρ,.b (.str 0),pw,.b (K3 aj σ xs),.b (K3 aj σ xs),pl]=f ([ρ,.b (.str 0),.b (K3 x y z),.b (K3 x y z),.b (K3 x y z),.b (K3 x y z)],.next):=by have hk:d6.fn [.b (.str 0),.b (K3 x y z)]=f (.b (K3 x y z)):=j2 _ (by intro h;cases h);dsimp only[K3]at hk hg ⊢;dsimp only[cI,CS.hd,CS.tl,CS.body,ct,hk,hg,AV.isNone,dv,aD,ax,bf,bM,fv,eo,cV,rC,I?,s?,nR,dR,ig,allB,x_,F?];simp -iota [hk,hg,dv,zM,uN,bW,mN];dsimp only[cI,CS.hd,CS.tl,CS.body,ct,hk,hg,AV.isNone,dv,aD,ax,bf,bM,fv,eo,cV,rC,I?,s?,nR,dR,ig,allB,x_,F?];simp -iota [hk,hg,dv,zM,uN,bW,mN];dsimp only[cI,CS.hd,CS.tl,CS.body,ct,hk,hg,AV.isNone,dv,aD,ax,bf,bM,fv,eo,cV,rC,I?,s?,nR,dR,ig,allB,x_,F?]
theorem Hk:ct (aD [] cI.tl.hd.body) [2] (.b (K3 x y z)) [ρ,.b (.str 0),pw,.b .none,.b .none,pl]=f ([ρ,.b (.str 0),.b (K3 x y z),.b (K3 x y z),.b (K3 x y z),.b (K3 x y z)],.next):=by have hk:d6.fn [.b (.str 0),.b (K3 x y z)]=f (.b (K3 x y z)):=j2 _ (by intro h;cases h);dsimp only[K3]at hk ⊢;rfl
theorem Ph(hD:mv ρ (.b (K3 x y z))=f (.b (zr n))):∃ M,aD [] cI.tl.tl [ρ,.b (.str 0),pw,.b (K3 x y z),.b (K3 x y z),pl]=f (M,.ret (.b (.tup [K3 x y z,zr n]))):=by cases ρ with|any=>exact nS hD|b w=>(cases w with|ub=>exact nS hD|_=>dsimp only[K3,zr]at hD ⊢;dsimp only[cI,CS.tl,aD,ax,bf,dR,AV.isNone,ig,allB];refine J hD ?_;exact⟨_,X⟩)|_=>dsimp only[K3,zr]at hD ⊢;dsimp only[cI,CS.tl,aD,ax,bf,dR,AV.isNone,ig,allB];refine J hD ?_;exact⟨_,X⟩
theorem EV:∀(r:ZP) (p:a_ × G) (pw pl:PV),∃ FC UI,dS (ct (aD [] cI.tl.hd.body) [2]) (r.map λq=>.b (kT q.1)) [ρ,.b (.str 0),pw,.b (kT p.1),.b (kT p.1),pl]=f ([ρ,.b (.str 0),FC,.b (kT (fQ r p).1),.b (kT (fQ r p).1),UI],.next):=by intro w9;induction w9 with|nil=>intro p pw pl;exact⟨pw,pl,X⟩|cons q r IH=>
  intro p pw pl;refine Dg λGq kq=>?_;have hg:=ae4 q.1 p.1;by_cases h:q.1<=p.1
  .obtain⟨FC,UI,ih⟩:=IH p (.b (kT q.1)) (.b (kT q.1));refine kq FC UI ?_;dsimp only[fQ];(refine J bW (J (CU.mpr h) ?_));dsimp only[dS];refine dT ih ?_;rw[bT (wu.mpr h)]at hg;exact J (Lg hg) X
  .obtain⟨FC,UI,ih⟩:=IH q (.b (kT q.1)) (.b (kT q.1));refine kq FC UI ?_;have hb:k_ q.1 p.1=N':=by cases e:k_ q.1 p.1 with|false=>rfl|true=>exact g_ (iB e) h
   dsimp only[fQ];(refine J bW (J hb ?_));dsimp only[dS];refine dT ih ?_;rw[bP (Nat.not_le.mp h)]at hg;exact J (Hj hg) X
theorem yl(h:jn b (p::r)):eP.fn [.dict (au (p::r)),.b (.str 0)]=f (.b (.tup [kT (fQ r p).1,zr (fQ r p).2])):=by
 refine gy (EV (ρ:=.dict (au (p::r))) r p (.b (kT p.1)) (.b (kT p.1))) λFC UI hl=>?_;have e1:aD [] cI.hd [.dict (au (p::r)),.b (.str 0),.any,.any,.any,.any]=f ([.dict (au (p::r)),.b (.str 0),.any,.b .none,.b .none,.any],.next):=by dsimp only[cI,CS.hd,aD,ax,bM,fv,eo,rC,I?,s?,ig,allB,x_,F?];rfl
 have e2:aD [] cI.tl.hd [.dict (au (p::r)),.b (.str 0),.any,.b .none,.b .none,.any]=f ([.dict (au (p::r)),.b (.str 0),FC,.b (kT (fQ r p).1),.b (kT (fQ r p).1),UI],.next):=by refine(jQ (i:=0) (ik:=.plain) (C':=[2]) (b:=cI.tl.hd.body) (Z:=(p::r).map λq=>.b (kT q.1)) X X (by(dsimp only[bf,Ef];exact J (qp _) X))).trans (dT hl (J bW ?_));dsimp only[dS];exact J Hk X
 obtain⟨M,e3⟩:=Ph (pw:=FC) (pl:=UI) (oq h _ (qr r p));exact aI (mu:=[]) (np:=2) (more:=4) (ha:=cI) (as:=[.dict (au (p::r)),.b (.str 0)]) X ((ag e1).trans ((ag e2).trans e3))
structure rS(e:ZE):Prop where
 ok:jn e.b e.p
 ld:∃ p r,e.p=p::r/\fQ r p=(e.l,1)
 bd:e.b<=1000000000
theorem EW:∀ P:ZP,OJ P=P.map λp=>(p.1,-p.2):=λw'=>by induction w' with|nil=>exact X|cons p P ih=>(dsimp only[OJ];refine J ih ?_);rfl
theorem qt(h:jn b P)(hb:b<=1000000000)(hz:rE b P=f e):gn.fn [.dict (au P),.b (.str 0)]=f (.dict (au e.p))/\rS e/\e.b=b/\∃ n,(e.l,n)∈P/\eP.fn [.dict (au P),.b (.str 0)]=f (.b (.tup [kT e.l,zr n])):=by cases P with|nil=>exact nS hz|cons p r=>
  have hl:=yl h;have key:∀ u:G,u≠0->u.natAbs<=1->rF.fn [.b (zr u)]=f (.b (zr u))->(fQ r p).2=u->gn.fn [.dict (au (p::r)),.b (.str 0)]=f (.dict (au ((p::r).map λq=>(q.1,q.2*u))))/\jn b ((p::r).map λq=>(q.1,q.2*u)):=λu h0 N hr hu=>by refine cF (Le (c:=b) h h0 (aR (HN b N) (by simp)) (by lia) (by lia)) λh3 h4=>?_;refine⟨?_,h4⟩;rw[hu]at hl;show prun [] 2 1 qe [.dict (au (p::r)),.b (.str 0)]=_;exact aI X ((ag (aB (ar X X hl) X)).trans (gc ((s8 X).trans (ar X (bE X (ar X (eY X) hr)) h3))))
  have fD:=qr r p;revert hz;refine ZY (λc n U' hz=>?_) λc n U' hz=>?_
  .revert hz;refine cA (λN hz=>?_);have N:=wt N;subst N;obtain rfl:=aw hz;refine cF (key 1 (by decide) (by decide) Hc (by exact J U' X)) λk1 k2=>?_
   have:((p::r).map λq=>(q.1,q.2*1))=p::r:=by simp
   rw[this]at k1 k2;refine⟨k1,⟨k2,⟨p,r,X,by exact J U' X⟩,hb⟩,X,1,?_,?_⟩
   .rw[U']at fD;exact fD
   .rw[U']at hl;exact hl
  .revert hz;refine cA (λN hz=>?_);have N:=wt N;subst N;obtain rfl:=aw hz;refine cF (key (-1) (by decide) (by decide) SG (by exact J U' X)) λk1 k2=>?_
   have:((p::r).map λq=>(q.1,q.2 * -1))=OJ (p::r):=by refine J (EW _) ?_;simp
   rw[this]at k1 k2;refine⟨k1,⟨k2,⟨(p.1,-p.2),r.map λq=>(q.1,-q.2),by simp[EW],?_⟩,hb⟩,X,-1,?_,?_⟩
   .exact J (Lf (w:=λn=>-n) r p) (J U' X)
   .rw[U']at fD;exact fD
   .rw[U']at hl;exact hl
theorem Hl(hl:sm l)(U':sm c)(h:pv l c=V):sm (c-l)/\K3 ((c/256:a_)-(l/256:a_)) ((c/16%16:a_)-(l/16%16:a_)) ((c%16:a_)-(l%16:a_))=kT (c-l):=by obtain⟨⟨a1,a2,a3⟩,e1,e2,e3⟩:=O8 hl U' h;dsimp only[sm,kT,K3];exact J e1 (J e2 (J e3 (J (UZ a1) (J (UZ a2) (J (UZ a3) ⟨⟨mM (C0 _ _) U'.1,mM (C0 _ _) U'.2.1,mM (C0 _ _) U'.2.2⟩,X⟩)))))
theorem AD(hl:sm l)(U':sm c):cK.fn [.b (kT l),.b (kT c)]=f (.b (.bool (pv l c))):=by refine J (O7 _ _ _ _ _ _) (J (yk hl U') ?_);simp only[QA]
abbrev pQ(e:ZE):PV:=.b (.tup [kT e.l,zr 1])
theorem hY(i:a_)(v:AV)(r:aC):fA i (.b v::r)=.b (.tup [.int i,v])::fA (i+1) r:=rfl
theorem Hm(hd:cK.fn [.b (K3 x y z),.b (K3 aj σ xs)]=f (.b (.bool V))):ct (aD [] bI.hd.body) [2,3] (.b (.tup [.int i,.tup [K3 x y z,zr 1]])) [.b (K3 aj σ xs),h2,a,o]=f ([.b (K3 aj σ xs),h2,.b (.int i),.b (.tup [K3 x y z,zr 1])],.ret (.b (.int i))):=by exact eh ((cu ((EO X).trans (ar X (bE X X) hd))).trans X)
theorem EX(hd:cK.fn [.b (K3 x y z),.b (K3 aj σ xs)]=f (.b (.bool N'))):ct (aD [] bI.hd.body) [2,3] (.b (.tup [.int i,.tup [K3 x y z,zr 1]])) [.b (K3 aj σ xs),h2,a,o]=f ([.b (K3 aj σ xs),h2,.b (.int i),.b (.tup [K3 x y z,zr 1])],.next):=by exact(ag ((cu ((EO X).trans (ar X (bE X X) hd))).trans X)).trans X
theorem Hn(U':sm c):∀(Es:d_ ZE) (i:a_) (a o:PV),(∀ e∈Es,sm e.l)->(∃ a' o',dS (ct (aD [] bI.hd.body) [2,3]) (fA i (Es.map pQ)) [.b (kT c),h2,a,o]=match kb c Es with|R=>f ([.b (kT c),h2,a',o'],.next)|f e=>f ([.b (kT c),h2,a',o'],.ret a'))/\∀ e,kb c Es=f e->∃ j:a_,Es[j]?=f e/\pv e.l c=V/\∃ a' o',dS (ct (aD [] bI.hd.body) [2,3]) (fA i (Es.map pQ)) [.b (kT c),h2,a,o]=f ([.b (kT c),h2,a',o'],.ret (.b (.int ((i+j:a_):G)))):=by intro w';induction w' with|nil=>intro i a o O;exact⟨⟨a,o,X⟩,λe h=>by cases h⟩|cons e Es ih=>intro i a o hE;have he:=hE e aQ;have hd:=AD he U';dsimp only[x_,hY,dS,kb];refine J (hY _ _ _) ?_;dsimp only[x_,hY,dS,kb];cases hz:pv e.l c with|true=>rw[hz]at hd;exact J (Hm (h2:=h2) (a:=a) (o:=o) (i:=i) hd) ⟨⟨.b (.int i),.b (.tup [kT e.l,zr 1]),X⟩,λd hd=>by obtain rfl:=aw hd;exact⟨0,X,hz,_,_,X⟩⟩|false=>rw[hz]at hd;refine J (EX (h2:=h2) (a:=a) (o:=o) (i:=i) hd) (cF (ih (i+1) (.b (.int i)) (.b (.tup [kT e.l,zr 1])) λd hd=>hE d (bg _ hd)) λN L=>⟨N,λd hd=>?_⟩);obtain⟨j,k1,k2,a',o',k3⟩:=L d hd;refine⟨j+1,k1,k2,a',o',?_⟩;dsimp only;exact J k3 (J (show i+1+j=i+(j+1) from by omega) X)
theorem Js(U':sm c)(hE:∀ e∈Es,sm e.l):(kb c Es=.none->cR.fn [.b (kT c),.list (Es.map pQ)]=f (.b (.int (-1)))) /\
  ∀ e,kb c Es=f e->∃ j:a_,Es[j]?=f e/\pv e.l c=V/\cR.fn [.b (kT c),.list (Es.map pQ)]=f (.b (.int (j:G))):=by
 obtain⟨⟨a',o',N⟩,L⟩:=Hn U' (h2:=.list (Es.map pQ)) Es 0 .any .any hE
 have e2:aD [] bI.hd [.b (kT c),.list (Es.map pQ),.any,.any]=dS (ct (aD [] bI.hd.body) [2,3]) (fA 0 (Es.map pQ)) [.b (kT c),.list (Es.map pQ),.any,.any]:=
  jQ (i:=1) (ik:=.enum) (C':=[2,3]) (b:=bI.hd.body) X X X
 refine⟨λhz=>?_,λe hz=>?_⟩
 .rw[hz]at N;have e3:aD [] bI.tl [.b (kT c),.list (Es.map pQ),a',o']=f ([.b (kT c),.list (Es.map pQ),a',o'],.ret (.b (.int (-1)))):=by rfl
  exact aI (mu:=[]) (np:=2) (more:=2) (ha:=bI) (as:=[.b (kT c),.list (Es.map pQ)]) X ((ag (e2.trans N)).trans e3)
 .obtain⟨j,k1,k2,a',o',k3⟩:=L e hz;rw[wx]at k3;exact kB j k1 k2 (aI (mu:=[]) (np:=2) (more:=2) (ha:=bI) (as:=[.b (kT c),.list (Es.map pQ)]) X (eh (e2.trans k3)))
theorem Lh:aD mu (.aug k i e) M=(match mu.contains i with|V=>R|N'=>match bf M i with|.b (.int x)=>(match ax e M with|f (.b (.int y))=>(match cX k x y with|f z=>f (bM M i (.b (.int z)),.next)|R=>R)|_=>R)|_=>R):=rfl
theorem SO(hm:mu.contains i=N')(hx:bf M i=M' x)(h:ax e M=f (M' y))(hb:cX k x y=f z):aD mu (.aug k i e) M=f (bM M i (M' z),.next):=by refine J Lh (J hm (J hx (J h ?_)));show(match cX k x y with|f z=>f (bM M i (M' z),kS.next) |R=>R)=_;exact J hb X
theorem Cy:aD mu (.dh o i e) M=(match mu.contains o with|V=>(match ax e M with|f (.b v)=>(match ax i M with|f (.b M')=>lA M o (j9 (bf M o) M' v)|_=>R)|_=>R)|N'=>R):=rfl
theorem Ho:aD mu (.qz d k) M=(match mu.contains d with|V=>(match ax k M with|f (.b kv)=>lA M d (Eh N' (bf M d) kv)|_=>R)|N'=>R):=rfl
theorem Hp{mu:cj}{o:a_}{i e:CE}{M:aC}{v M':AV}{hc:PV}(hm:mu.contains o=V)(hv:ax e M=f (.b v))(hi:ax i M=f (.b M'))(h:j9 (bf M o) M' v=f hc):aD mu (.dh o i e) M=f (bM M o hc,.next):=by refine J Cy (J hm (J hv (J hi ?_)));show lA M o (j9 (bf M o) M' v)=_;exact J h X
theorem Pj(hm:mu.contains d=V)(hk:ax k M=f (.b kv))(h:Eh N' (bf M d) kv=f hc):aD mu (.qz d k) M=f (bM M d hc,.next):=by refine J Ho (J hm (J hk ?_));show lA M d (Eh N' (bf M d) kv)=_;exact J h X
noncomputable abbrev DS (K':PV) (B1 L3:aC) (iv h2:dc) (wk:G) (a9 CQ AE uC uD:PV):aC:=[K',.list B1,.b (.str 0),.list L3,.any,.b (.int 20000),.dict iv,.dict h2,.b (.int wk),a9,CQ,AE,uC,uD,.any,.any,.any,.any,.any]
section
variable{K':PV}{B1 L3:aC}{iv h2:dc}{wk:G}{a9 CQ AE uC uD:PV}
theorem w_T(hl:h2.length<=lim):ax dN (DS K' B1 L3 iv h2 wk a9 CQ AE uC uD)=f (.b (.bool (decide (0<(h2.length:G))))):=
 cf (y:=0) (rO (eY X) (ai hl)) X
theorem w_1(h:eP.fn [.dict h2,.b (.str 0)]=f (.b (.tup [k,v]))):aD [6,7] fU (DS K' B1 L3 iv h2 wk a9 CQ AE uC uD)=f (DS K' B1 L3 iv h2 wk a9 (.b k) (.b v) uC uD,.next):=
 pN (ar X (bE X X) h) X X X
theorem w_2(hl:h2.length<=lim):aD [6,7] fV (DS K' B1 L3 iv h2 wk a9 CQ AE uC uD)=f (DS K' B1 L3 iv h2 (wk+(h2.length:G)) a9 CQ AE uC uD,.next):=
 SO (x:=wk) (y:=(h2.length:G)) X X (rO (eY X) (ai hl)) X
theorem w_3(N:wk<=3000000)(L:qi.fn [.b (.tup v)]=f (.b (.bool N')))(hx:x<=20000)(hy:y<=20000)(hz:z<=20000):aD [6,7] fW (DS K' B1 L3 iv h2 wk a9 (.b (K3 x y z)) (.b (.tup v)) uC uD)=f (DS K' B1 L3 iv h2 wk a9 (.b (K3 x y z)) (.b (.tup v)) uC uD,.next):=by have e:ax (.bq (.cmp .gt abl kc) [18] .plain iY) (DS K' B1 L3 iv h2 wk a9 (.b (K3 x y z)) (.b (.tup v)) uC uD)=f (.list [.b (.bool (decide (20000<x))),.b (.bool (decide (20000<y))),.b (.bool (decide (20000<z)))]):=X;rw[bT (by lia),bT (by lia),bT (by lia)]at e;exact(cu (Hb (cf (x:=wk) (y:=3000000) X X) (Hb (ar X (eY X) L) (rO (hc:=.b (.bool N')) (eY e) X)))).trans (by rw[cmpInt,bT (by lia)];rfl)
theorem w_4(h:cR.fn [.b (.tup k),.list L3]=f (.b (.int j))):aD [6,7] fX (DS K' B1 L3 iv h2 wk a9 (.b (.tup k)) AE uC uD)=f (DS K' B1 L3 iv h2 wk (.b (.int j)) (.b (.tup k)) AE uC uD,.next):=
 aB (ar X (bE X X) h) X
theorem w_5(h:0<=j):aD [6,7] fY (DS K' B1 L3 iv h2 wk (.b (.int j)) CQ AE uC uD)=f (DS K' B1 L3 iv h2 wk (.b (.int j)) CQ AE uC uD,.next):=by exact(cu (cf (x:=j) (y:=0) X X)).trans (by(rw[cmpInt];refine J (bT (by lia)) ?_);rfl)
theorem ae8{k v:al}{ks:aA}(N:keyOf k=f ks)(L:iv.length<=lim)(h3:h2.length<=lim)(h4:(jS h2 ks).isSome=V) :
  aD [6,7] fY (DS K' B1 L3 iv h2 wk (.b (.int (-1))) (.b (.tup k)) (.b (.tup v)) uC uD)=f (DS K' B1 L3 (iK iv ks (.tup v)) (lM h2 ks) wk (.b (.int (-1))) (.b (.tup k)) (.b (.tup v)) uC uD,.cont):=by
 have hs:j9 (.dict iv) (.tup k) (.tup v)=f (.dict (iK iv ks (.tup v))):=by show(match keyOf k with|f k=>if iv.length<=lim then f (PV.dict (iK iv k (.tup v))) else R |R=>R)=_;exact J N (ai L)
 have hp:Eh N' (.dict h2) (.tup k)=f (.dict (lM h2 ks)):=by show(match keyOf k with|f k=>if h2.length<=lim then(match N'||(jS h2 k).isSome with|V=>f (PV.dict (lM h2 k))|N'=>R) else .none |R=>R)=_;exact J N ((ai h3).trans (by exact J h4 X))
 exact(cu (cf (x:=-1) (y:=0) X X)).trans ((ag (Hp (o:=6) (M:=DS K' B1 L3 iv h2 wk (.b (.int (-1))) (.b (.tup k)) (.b (.tup v)) uC uD) (M':=.tup k) (v:=.tup v) X X X hs)).trans ((ag (Pj (d:=7) (M:=DS K' B1 L3 (iK iv ks (.tup v)) h2 wk (.b (.int (-1))) (.b (.tup k)) (.b (.tup v)) uC uD) (kv:=.tup k) X X hp)).trans (ta X)))
theorem w_6(N:yD L3 j=f (.b (.tup [.tup l,.tup c])))(h0:L3.length<=lim)(L:cn.fn [.b (.tup k),.b (.tup l)]=f (.b s))(h3:Cd.fn [.b (.tup v),.b (.tup c)]=f (.b u)) :
  aD [6,7] ir (DS K' B1 L3 iv h2 wk (.b (.int j)) (.b (.tup k)) (.b (.tup v)) uC uD)=f (DS K' B1 L3 iv h2 wk (.b (.int j)) (.b (.tup k)) (.b (.tup v)) (.b s) (.b u),.next):=
 pN (Cw (bE (ar X (bE X (eK (A:=.b (.tup [.tup l,.tup c])) (I:=M' 0) (eK (A:=.list L3) (I:=M' j) X X ((ai h0).trans N)) X X)) L) (ar X (bE X (eK (A:=.b (.tup [.tup l,.tup c])) (I:=M' 1) (eK (A:=.list L3) (I:=M' j) X X ((ai h0).trans N)) X X)) h3)) X) X X X
theorem w_8(N:yD B1 j=f (.dict Q))(h0:B1.length<=lim)(L:jE.fn [.dict Q,.b (.tup s),.b (.tup u)]=f (.dict S))(h3:qg.fn [.dict h2,.dict S]=f (.dict L')) :
  aD [6,7] jZ (DS K' B1 L3 iv h2 wk (.b (.int j)) CQ AE (.b (.tup s)) (.b (.tup u)))=f (DS K' B1 L3 iv L' wk (.b (.int j)) CQ AE (.b (.tup s)) (.b (.tup u)),.next):=
 aB (ar X (bE X (ar X (nx (eK (A:=.list B1) (I:=M' j) X X ((ai h0).trans N)) X X) L)) h3) X
end
structure QD(m:a_)(q:dc):Prop where
 len:q.length<=m
 el:∀ p∈q,∃ n:G,p.2=zr n/\n.natAbs<=m*1000000000
theorem Pk:∀{q:dc} {p:aA × AV},p∈iK q k v->p∈q\/p.2=v:=by intro w';induction w' with|nil=>intro p h;(dsimp only[iK]at h;rw[az]at h);exact J h (.inr X)|cons x q ih=>
  intro p h;dsimp only[iK]at h;split at h;rotate_left;rotate_left
  .rcases aV.mp h with h|h
   .exact J h (.inr X)
   .exact .inl (bg _ h)
  .rcases aV.mp h with h|h
   .exact J h (.inl aQ)
   .exact(ih h).imp (bg _) id
theorem EY:∀{q:dc},(iK q k v).length<=q.length+1
 |[]=>by(dsimp only[iK];simp)
 |x::q=>by
  dsimp only[iK];split
  .simp
  .have:=EY (k:=k) (v:=v) (q:=q)
   simp only[fE];lia
theorem Pl:∀{q:dc} {p:aA × AV},p∈lM q k->p∈q:=by intro w';induction w' with|nil=>intro p h;dsimp only[lM]at h;simp at h|cons x q ih=>
  intro p h;dsimp only[lM]at h;split at h;rotate_left;rotate_left
  .exact bg _ h
  .rcases aV.mp h with h|h
   .exact J h aQ
   .exact bg _ (ih h)
theorem EZ:∀{q:dc},(lM q k).length<=q.length
 |[]=>by(dsimp only[lM];simp)
 |x::q=>by
  dsimp only[lM];split
  .simp
  .have:=EZ (k:=k) (q:=q)
   simp only[fE];lia
theorem Pm:∀{q:dc},jS q k=f v->∃ p∈q,p.2=v:=by intro w';induction w' with|nil=>intro h;exact nS h|cons x q ih=>
  intro h;dsimp only[jS]at h;split at h;rotate_left;rotate_left
  .clear ih;obtain rfl:=aw h;exact aK x aQ X
  .exact ah (ih h) λp a b=>aK p (bg _ a) b
theorem XW(h:QD m q)(hm:m<=1000)(s:a_)(hn:n.natAbs<=1000000000):∃ q',c6.fn [.dict q,.b (kT s),.b (zr n)]=f (.dict q')/\QD (m+1) q':=by
 have hl:q.length<=lim:=aR h.len (aR hm (by dsimp only[lim];exact rX _ _));have up:∀ p∈q,∃ n:G,p.2=zr n/\n.natAbs<=(m+1)*1000000000:=λp hp=>by exact ah (h.el p hp) λn a b=>aK n a (aR b (zH _ (CW m)))
 have step:∀ t:G,t.natAbs<=(m+1)*1000000000->∃ q',(match fy ⟨0,.nil⟩ .eq (zr t) (.tup [.int 0,.int 1]) with|f V=>if q.length<=lim then f (PV.dict (lM q (ny s))) else .none|f N'=>if q.length<=lim then f (PV.dict (iK q (ny s) (zr t))) else .none|R=>R)=f (.dict q')/\QD (m+1) q':=λt ht=>by
  refine J (Jr _) ?_;by_cases h0:t=0
  .refine J (bP h0) ?_;simp only[hl,gv];exact⟨_,X,aR EZ (CX h.len),λp hp=>up p (Pl hp)⟩
  .refine J (bT h0) ?_;simp only[hl,gv];refine⟨_,X,aR EY (zI h.len),λp hp=>?_⟩;rcases Pk hp with hp|hp
   .exact up p hp
   .exact aK t hp ht
 show ∃ q',fR pD.fn [.dict q,.b (kT s),.b (zr n)]=_/\_;dsimp only[fR,we];cases hz:jS q (ny s) with|none=>exact step n (by omega)|some v=>refine ah (Pm hz) λp hp fJ=>?_;clear hz;subst fJ;refine ah (h.el p hp) λk hk hb=>J hk ?_;dsimp only;exact J (O5 k n (by omega) (by omega)) (step (k+n) (J (Nat.succ_mul m 1000000000) (nab hb hn)))
theorem Pn:∀{P h2 L':ZP},As s u P h2=f L'->(∀ p∈P,YF (r_ p.1 s)=V)/\L'=pP (P.map λp=>(p.1+s,-(p.2*u))) h2:=by intro w';induction w' with|nil=>intro h2 L' h;dsimp only[As]at h;rw[dQ]at h;exact⟨λO q=>g_ q gx,h.symm⟩|cons p P ih=>
  intro h2 L' h;revert h;refine cA (λhz h=>?_);refine cF (ih h) λN L=>?_;refine⟨λq hq=>?_,L⟩;rcases aV.mp hq with eG|hq
  .clear h L hq;subst eG;exact hz
  .exact N q hq
theorem Po(hL:jn b h2)(hP:jn bp P)(hs:sm s)(hu:u≠0)(hbp:bp<=1000000000)(hu2:u.natAbs<=1000000000)(hb:b+u.natAbs*bp<=1000000000)(h:As s u P h2=f L') :
  ∃ S,jE.fn [.dict (au P),.b (kT s),.b (zr u)]=f (.dict (au S))/\qg.fn [.dict (au h2),.dict (au S)]=f (.dict (au L'))/\jn (b+u.natAbs*bp) L':=by
 obtain⟨N,iC⟩:=Pn h;clear h;subst iC;refine cF (AB hP hs (λp hp=>Pa (hP.el p hp).1 hs (N p hp)) hu (c9 _) (by lia) (by lia)) λh3 h4=>?_;refine cF (SN hL h4 (by refine J (CZ bp _) ?_;lia)) λh5 h6=>?_;refine kB _ h3 ?_ ?_
 .exact J h5 (J fG X)
 .rw[fG,CZ bp]at h6;exact h6
theorem E0:∀{A:ZP} {p:a_ × G},p∈mx c n A->p∈A\/p=(c,n):=by intro w';induction w' with|nil=>intro p h;(dsimp only[mx]at h;rw[az]at h);exact .inr h|cons q A ih=>
  intro p h;dsimp only[mx]at h;revert h;cases q_:f_ q.1 c<;>intro h;rotate_left
  .rcases aV.mp h with h|h
   .exact .inr h
   .exact .inl (bg _ h)
  .rcases aV.mp h with h|h
   .exact J h (.inl aQ)
   .exact(ih h).imp (bg _) id
theorem Hq:∀{A:ZP},(keys A).Nodup->(keys (mx c n A)).Nodup:=by intro w';induction w' with|nil=>intro O;dsimp only[mx,keys];simp|cons q A ih=>
  intro hn;have hn0:=hn;dsimp only[keys]at hn;rw[bW,gw]at hn;dsimp only[mx];cases e:f_ q.1 c;rotate_left
  .exact dT (wt e) hn0
  .show(q.1::keys (mx c n A)).Nodup;refine J (propext gw) ⟨λh=>?_,ih hn.2⟩;refine ah (eT.mp h) λp hp hq=>?_;rcases E0 hp with hp|rfl
   .exact hn.1 (hq▸eT.mpr ⟨p,hp,X⟩)
   .exact(Mc e) hq.symm
theorem ym:∀{A:ZP},List.Sublist (oI c A) A:=by intro w';cases w' with|nil=>exact List.Sublist.refl _|cons q A=>
  dsimp only[oI];cases q_:f_ q.1 c;rotate_left
  .exact List.sublist_cons_self _ _
  .exact ym.cons₂ _
theorem jn.del(h:jn b A):jn b (oI c A):=⟨(ym.map (λx:a_ × G=>x.1)).nodup h.nd,λp hp=>h.el p (ym.mem hp)⟩
theorem jn.put(h:jn b A)(U':sm c)(h0:n≠0)(hn:n.natAbs<=b):jn b (mx c n A):=⟨Hq h.nd,λp hp=>by
 rcases E0 hp with hp|rfl
 .exact h.el p hp
 .exact⟨U',h0,hn⟩⟩
theorem rS.CR(h:rS e):sm e.l:=by
 refine eF (h.ld) λp r N L=>?_
 have:=qr r p
 rw[L,<-N]at this;exact(h.ok.el _ this).1
abbrev dP(e:ZE):PV:=.dict (au e.p)
theorem mh{α:Type}(Z:d_ α)(j:a_):yD Z (j:G)=Z[j]?:=rfl
theorem Pp(h:sm c):((c/256:a_):G)<=20000/\((c/16%16:a_):G)<=20000/\((c%16:a_):G)<=20000:=by exact⟨QA.mpr (aR (kF h.1) (by decide)),QA.mpr (aR (kF h.2.1) (by decide)),QA.mpr (aR (kF h.2.2) (by decide))⟩
theorem XX(hE:∀ e∈Es,rS e)(hEl:Es.length<=1000):∀(n b:a_) (iv h2:ZP) (b':a_) (R':ZP) (wk:G) (m:a_) (qs:d_ (dc)) (a9 CQ AE uC uD:PV) (h1:a_),Ew Es n b iv h2=f (b',R')->b<=1000000000->jn b h2->jn b iv->wk+n*1536<=3000000->qs.length=Es.length->(∀ q∈qs,QD m q)->m+n<=1000->n<=h1 ->
  xH c6.fn dN cS dE h1 (DS K' (Es.map dP) (Es.map pQ) (au iv) (au h2) wk a9 CQ AE uC uD) qs=f (.dict (au R'))/\jn b' R'/\b'<=1000000000:=by
 intro w';induction w' with|zero=>intro b iv h2 b' R' wk m qs a9 CQ AE uC uD h1 h O O O O O O O O;exact nS h|succ n ih=>intro b iv z3 b' R' wk m qs a9 CQ AE uC uD z14;cases z14 with|zero=>intro h O O O O O O O hN;lia|succ h1=>cases z3 with|nil=>(intro h hb hL hR hw hq hQ hm hN;dsimp only[Ew]at h;rw[dQ,rU]at h;obtain⟨j6,mr⟩:=h;subst j6;subst mr;refine qM ?_ hR hb;dsimp only[xH];refine J (w_T (by exact ji _)) ?_;rfl)|cons p r=>
    intro h hb hL hR hw hq hQ hm hN;have Qs:(au (p::r)).length<=lim:=J (cw _) hL.lim;have YJ:(au iv).length<=lim:=J (cw _) hR.lim;have hlen:(au (p::r)).length<=1536:=J (cw _) hL.length;have fD:=qr r p;have N:=yl hL;dsimp only[Ew]at h;rcases hca:fQ r p with ⟨c,a⟩;rw[hca]at h fD N;simp -iota only  at h N;refine dH (hL.el _ fD) λU' ha0 hab=>?_;simp only at U' ha0 hab;have hT:ax dN (DS K' (Es.map dP) (Es.map pQ) (au iv) (au (p::r)) wk a9 CQ AE uC uD)=f (.b (.bool V)):=by refine J (w_T Qs) ?_;simp[dW]
    have aby:=K6 a (by omega);refine dH (Pp U') λi1 i2 i3=>?_;have hls:∀ e∈Es,sm e.l:=λe he=>(hE e he).CR;obtain⟨hf0,hf1⟩:=Js U' hls;have base:∀{j:G} {b12 b13:PV},cR.fn [.b (kT c),.list (Es.map pQ)]=f (.b (.int j))->∀ aj,aD [6,7] (.seq fU (.seq fV (.seq fW (.seq fX aj)))) (DS K' (Es.map dP) (Es.map pQ) (au iv) (au (p::r)) wk a9 CQ AE b12 b13)=aD [6,7] aj (DS K' (Es.map dP) (Es.map pQ) (au iv) (au (p::r)) (wk+((au (p::r)).length:G)) (.b (.int j)) (.b (kT c)) (.b (zr a)) b12 b13):=λhj aj=>by exact J (ag (w_1 N)) (J (ag (w_2 Qs)) (J (ag (w_3 (by omega) aby i1 i2 i3)) (J (ag (w_4 hj)) X)))
    dsimp only[xH];refine J hT ?_
    cases hz:kb c Es with
    |none=>
     rw[hz]at h;simp only at h;have hD:aD [6,7] cS (DS K' (Es.map dP) (Es.map pQ) (au iv) (au (p::r)) wk a9 CQ AE uC uD)=f (DS K' (Es.map dP) (Es.map pQ) (au (mx c a iv)) (au (oI c (p::r))) (wk+((au (p::r)).length:G)) (.b (.int (-1))) (.b (kT c)) (.b (zr a)) uC uD,.cont):=by refine J (show cS=.seq fU (.seq fV (.seq fW (.seq fX (.seq fY (.seq ir .skip))))) from X) (J (base (hf0 hz) _) ?_);exact J (ta (ae8 (we c) YJ Qs (by rw[tc,Jq hL.nd fD];rfl))) (J (pO _ _ _) (J (EP _ _) X))
     exact J hD (ih b (mx c a iv) (oI c (p::r)) b' R' _ m qs _ _ _ _ _ h1 h hb hL.del (hR.put U' ha0 hab) (by lia) hq hQ (by exact kF ‹_›) (by lia))
    |some e=>
     rw[hz]at h;simp only at h;revert h;refine cA (λUJ h=>?_);have UJ:b+a.natAbs*e.b<=1000000000:=iB UJ;revert h;refine zsZ (λL' hL' h=>ib λGq zq=>bZ (hf1 e hz) λj hj hdv hfj=>?_);have heE:e∈Es:=dX hj;have he:=hE e heE;obtain⟨J6,hs2⟩:=Hl he.CR U' hdv;refine bZ (Po hL he.ok J6 ha0 he.bd (by exact aR ‹_› ‹_›) UJ hL') λS k1 k2 k3=>?_;refine zq ?_;clear zq;have hD:aD [6,7] cS (DS K' (Es.map dP) (Es.map pQ) (au iv) (au (p::r)) wk a9 CQ AE uC uD)=f (DS K' (Es.map dP) (Es.map pQ) (au iv) (au (p::r)) (wk+((au (p::r)).length:G)) (.b (.int j)) (.b (kT c)) (.b (zr a)) (.b (kT (c-e.l))) (.b (zr a)),.next):=by refine J (show cS=.seq fU (.seq fV (.seq fW (.seq fX (.seq fY (.seq ir .skip))))) from X) (J (base hfj _) (J (ag (w_5 (Qz j))) ?_));have hq6:cn.fn [.b (kT c),.b (kT e.l)]=f (.b (kT (c-e.l))):=J (rP _ _ _ _ _ _) (J hs2 X);refine J (ag (w_6 (j:=(j:G)) (by rw[mh,mL,hj];rfl) (by rw[cz];dsimp only[lim];lia) hq6 (XH a (by lia)))) ?_;rfl
     have Qp:j<qs.length:=J hq ((mq.mp hj).1);have hqj:qs[j]?=f qs[j]:=lL Qp;refine ah (XW (hQ _ (U5 Qp)) (by lia) (c-e.l) (n:=a) (by exact aR ‹_› ‹_›)) λq' hq1 YH=>?_;have hD2:aD [6,7] dE (DS K' (Es.map dP) (Es.map pQ) (au iv) (au (p::r)) (wk+((au (p::r)).length:G)) (.b (.int j)) (.b (kT c)) (.b (zr a)) (.b (kT (c-e.l))) (.b (zr a)))=f (DS K' (Es.map dP) (Es.map pQ) (au iv) (au L') (wk+((au (p::r)).length:G)) (.b (.int j)) (.b (kT c)) (.b (zr a)) (.b (kT (c-e.l))) (.b (zr a)),.next):=by refine J (show dE=.seq jZ .skip from X) (J (ag (w_8 (j:=(j:G)) (by rw[mh,mL,hj];rfl) (by rw[cz];dsimp only[lim];lia) k1 k2)) ?_);rfl
     refine J hD ?_;dsimp only[bf];refine J (show((j:G))=y_ j from X) ?_;refine J hqj ?_;dsimp only;refine J hq1 ?_;dsimp only;refine J (show(y_ j)=(j:G) from X) (J hD2 ?_);refine ih _ iv L' b' R' _ (m+1) (qs.set j q') _ _ _ _ _ h1 h UJ k3 (hR.mono (Nat.le_add_right _ _)) (by lia) (by exact J List.length_set hq) (λq hqm=>?_) (by lia) (by lia);rcases List.mem_or_eq_of_mem_set hqm with hqm|rfl
     .have:=hQ q hqm
      exact⟨CX this.len,λp hp=>ah (this.el p hp) λn x y=>⟨n,x,aR y (zH _ (CW m))⟩⟩
     .exact YH
theorem nA{α:Type}{g:PV->af (aC)}{K':α->PV}{w:α->aC}:∀(l:d_ α),(∀ x∈l,g (K' x)=f (w x))->lz g (l.map K')=f (l.flatMap w):=λw'=>by induction w' with|nil=>intro O;exact X|cons x l ih=>intro h;dsimp only[D_,lz];refine J (h x aQ) ?_;dsimp only;exact J (ih λy hy=>h y (bg _ hy)) (J C4 X)
theorem E5{α β:Type}(w:α->β):∀ l:d_ α,(l.flatMap λx=>[w x])=l.map w:=λw'=>by induction w' with|nil=>exact X|cons x l ih=>simp[ih]
theorem pR(h:rS e):eP.fn [dP e,.b (.str 0)]=f (pQ e):=by
 refine eF (h.ld) λp r N L=>?_
 have:=h.ok
 have k:=yl (N▸this);rw[L]at k;show eP.fn [.dict (au e.p),.b (.str 0)]=_;exact J N k
theorem bH{g:PV->af (aC)}(h:A=f hc)(N:Ef ik hc=f Xs)(L:lz g Xs=f Ys)(h3:Ys.length<=lim):rA A ik g=f (.list Ys):=by(dsimp only[rA];(refine J h ?_;try dsimp only;refine J N ?_;try dsimp only;refine J L ?_;try dsimp only;exact J (ai h3) X))
theorem fC(h:g (bM M i x)=f y):Eg g [i] M x=f [y]:=by dsimp only[Eg,cV];exact J h X
theorem yn(hb:cV C' x M=f v1)(U':c v1=f (.b (.bool V)))(hg:g v1=f y):rz c g C' M x=f [y]:=by dsimp only[rz];refine J hb ?_;dsimp only;refine J U' ?_;dsimp only;exact J hg X
theorem UK{K':PV->af (aC)}(N:K' x=f [a])(L:K' y=f [b]):lz K' [x,y]=f [a,b]:=by dsimp only[lz];refine J N ?_;dsimp only;exact J L X
theorem eR{g:PV->af (aC)}{α:Type}{K' w:α->PV}(l:d_ α)(h:∀ x∈l,g (K' x)=f [w x]):lz g (l.map K')=f (l.map w):=by exact J (nA (w:=λx=>[w x]) l h) (J (E5 _ _) X)
theorem SP{Es:d_ ZE}(hE:∀ e∈Es,rS e)(hl:Es.length<=lim){K':PV}:aD [6,7] dk ([K',.list (Es.map dP),.b (.str 0)]++bz 16)=f ([K',.list (Es.map dP),.b (.str 0),.list (Es.map pQ)]++bz 15,.next):=by refine aB (bH (hc:=.list (Es.map dP)) (Xs:=Es.map dP) (Ys:=Es.map pQ) X X ?_ (by exact J (cz _) hl)) X;refine eR Es λe he=>fC ?_;dsimp only[ax,EN,bz,bM,bf,cons_append,nil_append];exact pR (hE e he)
noncomputable def E6 (c:a_):al:=[.int ((c/256:a_):G),.int ((c/16%16:a_):G),.int ((c%16:a_):G)]
theorem Hr:∀(Z:aA) (a:G),(∀ x∈Z,x<=a)->iN (Z.map .int) a=f a:=λw'=>by induction w' with|nil=>intro a O;exact X|cons x Z ih=>
  intro a h
  have:=h x aQ
  dsimp only[D_,iN];exact J (ak (by lia)) (ih a λy hy=>h y (bg _ hy))
theorem i8:∀ Z:al,allB (Z.map .b)=f Z:=λw'=>by induction w' with|nil=>exact X|cons x Z ih=>dsimp only[D_,allB];exact J ih X
theorem XY:Xc (ax pz) .plain (ax nj) [16] [17] ([K',.list Bs,.b (.str 0),.list Ls,.any,.any,.dict iv,.dict h2,.b (.int 0)]++bz 10) (.b (K3 x y z))=f [.b (.int x),.b (.int y),.b (.int z)]:=by rfl
theorem Pq:∀ A:ZP,(A.flatMap λp=>(E6 p.1).map PV.b).length=3*A.length:=λw'=>by induction w' with|nil=>exact X|cons p A ih=>refine J C4 (J ou (J ih ?_));(dsimp only[E6];simp);lia
theorem XZ(hA:jn b A) :
  aD [6,7] dm ([.dict (au A),.list Bs,.b (.str 0),.list Ls,.any,.any,.dict iv,.dict h2,.b (.int 0)]++bz 10)=f ([.dict (au A),.list Bs,.b (.str 0),.list Ls,.any,.b (.int 20000),.dict iv,.dict h2,.b (.int 0)]++bz 10,.next):=by
 have hlen:(A.flatMap λp=>(E6 p.1).map PV.b).length<=lim:=by
  have:=hA.length
  refine J (Pq _) ?_;dsimp only[lim];lia
 have N:ax (.dJ nj [16] .plain bw [17] .plain pz) ([.dict (au A),.list Bs,.b (.str 0),.list Ls,.any,.any,.dict iv,.dict h2,.b (.int 0)]++bz 10)=f (.list (A.flatMap λp=>(E6 p.1).map .b)):=by
  refine bH (hc:=.dict (au A)) (Xs:=A.map λp=>.b (kT p.1)) X (by(dsimp only[Ef];exact J (qp _) X)) ?_ ?_
  .exact nA A λp hp=>XY
  .exact hlen
 have L:allB ([.b (.int 20000)]++A.flatMap λp=>(E6 p.1).map .b)=f ((20000::A.flatMap λp=>[((p.1/256:a_):G),((p.1/16%16:a_):G),((p.1%16:a_):G)]).map .int):=by
  have:[PV.b (.int 20000)]++(A.flatMap λp=>(E6 p.1).map PV.b)=((20000::A.flatMap λp=>[((p.1/256:a_):G),((p.1/16%16:a_):G),((p.1%16:a_):G)]).map AV.int).map .b:=by simp only[bW,List.singleton_append,List.map_flatMap];rfl
  exact J this (J (i8 _) X)
 have h3:iN ((A.flatMap λp=>[((p.1/256:a_):G),((p.1/16%16:a_):G),((p.1%16:a_):G)]).map .int) 20000=f 20000:=by refine Hr _ _ λx hx=>ah (Vd.mp hx) λp hp hx=>dH (Pp (hA.el p hp).1) λi1 i2 i3=>?_;simp only[aV,gx,or_false]at hx;rcases hx with rfl|rfl|rfl<;>assumption
 refine aB (hc:=.b (.int 20000)) ?_ X;show(match (match ax (.bin .add (.lst (bx (.glob "MOST_FAR" (.int 20000)))) (.dJ nj [16] .plain bw [17] .plain pz)) ([.dict (au A),.list Bs,.b (.str 0),.list Ls,.any,.any,.dict iv,.dict h2,.b (.int 0)]++bz 10) with|f x=>f (PV.tup [x])|R=>R) with|f (.tup Z)=>tC .yH Z|_=>R)=_;have h4:ax (.bin .add (.lst (bx (.glob "MOST_FAR" (.int 20000)))) (.dJ nj [16] .plain bw [17] .plain pz)) ([.dict (au A),.list Bs,.b (.str 0),.list Ls,.any,.any,.dict iv,.dict h2,.b (.int 0)]++bz 10)=f (.list ([.b (.int 20000)]++A.flatMap λp=>(E6 p.1).map .b)):=by refine J m7 (J N ?_);show Oi .add (.list [.b (.int 20000)]) (.list (A.flatMap λp=>(E6 p.1).map .b))=_;dsimp only[Oi];simp only[fE,uQ];exact ai ⟨by dsimp only[lim];exact rX _ _,hlen⟩
 refine J h4 ?_;dsimp only[tC,nT];simp only[L,bW,h3]
theorem Pr{b b':a_}{A iv:ZP}{Es:d_ ZE}(hA:jn b A)(hb:b<=1000000000)(hE:∀ e∈Es,rS e)(hEl:Es.length<=1000)(h:Ew Es 200 b [] A=f (b',iv)) :
  kU.fn [.dict (au A),.list (Es.map dP),.b (.str 0)]=f (.dict (au iv))/\jn b' iv/\b'<=1000000000:=by
 have hl:Es.length<=lim:=by unfold lim;lia
 have afc:jn b ([]:ZP):=⟨r6,λO q=>g_ q gx⟩
 obtain⟨N,L,h3⟩:=XX (K':=.dict (au A)) hE hEl 200 b [] A b' iv 0 0 (l_ Es.length []) .any .any .any .any .any 100000 h hb hA afc (by decide) (by exact Y6) (λq hq=>by
  refine J ((List.mem_replicate.mp hq).2) ?_
  exact⟨c9 _,λO q=>g_ q gx⟩) (by decide) (by decide)
 refine qM ?_ L h3;show jA c6.fn dk dm dN cS dE [.dict (au A),.list (Es.map dP),.b (.str 0)]=_;unfold jA;dsimp only;refine J (SP hE hl) ?_;dsimp only;have hd:tC .dict [.dict (au A)]=f (.dict (au A)):=by dsimp only[tC];rw[ai];exact J (cw _) ⟨hA.lim,AA hA⟩
 refine J hd ?_;dsimp only;have hm:=XZ hA (Bs:=Es.map dP) (Ls:=Es.map pQ) (iv:=[]) (h2:=au A);rw[show bM (bM (bM ([PV.dict (au A),.list (Es.map dP),.b (.str 0),.list (Es.map pQ)]++bz 15) 6 (.dict [])) 7 (.dict (au A))) 8 (.b (.int 0))=([.dict (au A),.list (Es.map dP),.b (.str 0),.list (Es.map pQ),.any,.any,.dict [],.dict (au A),.b (.int 0)]++bz 10) from X,hm];(refine J (cz _) ?_;try dsimp only;refine J (ai hl) ?_;try dsimp only);exact N
theorem td(a b:a_):lC a b=if b>a then b else a:=by dsimp only[lC];cases h:k_ a b with|true=>have:=iB h;simp only;split<;>lia|false=>
  have:¬ a<=b:=λq=>by rw[CU.mpr q]at h;exact tF h
  simp only;exact J (ak (by lia)) X
theorem Jt(a b:a_):lN a b=if b<a then b else a:=by dsimp only[lN];cases h:k_ a b with|true=>have:=iB h;simp only;split<;>lia|false=>
  have:¬ a<=b:=λq=>by rw[CU.mpr q]at h;exact tF h
  simp only;exact J (ai (by lia)) X
theorem Pu(a b:a_):eO a b=lC (a/256) (b/256)*256+(lC (a/16%16) (b/16%16)*16+lC (a%16) (b%16)):=rfl
theorem tf(N:a<c)(L:b<c):lC a b<c:=by refine J (td _ _) ?_;split<;>omega
theorem X0(a b:a_):a<=lC a b:=by refine J (td _ _) ?_;split<;>lia
theorem X3(a b:a_):b<=lC a b:=by refine J (td _ _) ?_;split<;>lia
theorem qu(N:sm a)(L:sm b):eO a b/256=lC (a/256) (b/256)/\eO a b/16%16=lC (a/16%16) (b/16%16)/\eO a b%16=lC (a%16) (b%16):=by
 have:=dg (lC (a/256) (b/256)) (rY (tf N.2.1 L.2.1) (by decide)) (rY (tf N.2.2 L.2.2) (by decide))
 rwa [CZ 256,CZ 16,Nat.add_assoc,<-Pu]at this
theorem tg(N:sm a)(L:sm b):sm (eO a b):=by refine dH (qu N L) λe1 e2 e3=>?_;dsimp only[sm]at N L ⊢;refine J e1 (J e2 (J e3 ?_));exact⟨tf N.1 L.1,tf N.2.1 L.2.1,tf N.2.2 L.2.2⟩
theorem Cz(N:sm a)(L:sm b):eA.fn [.b (kT a),.b (kT b)]=f (.b (kT (eO a b))):=by
 refine dH (qu N L) λe1 e2 e3=>?_;dsimp only[kT];simp only[XJ,e1,e2,e3]
 have c:∀ x y:a_,(if (y:G)>(x:G) then(y:G) else(x:G))=((lC x y:a_):G):=λx y=>by
  refine J (td _ _) ?_;by_cases h:y>x
  .exact J (ai h) (J (ai (by lia)) X)
  .exact J (ak h) (J (ak (by lia)) X)
 simp only[c,c,c]
theorem X4(N:sm a)(L:sm b):pv a (eO a b)=V:=by refine dH (qu N L) λe1 e2 e3=>?_;simp only[yk N (tg N L),e1,e2,e3];simp only[X0,decide_true,YS]
theorem X5(N:sm a)(L:sm b):pv b (eO a b)=V:=by refine dH (qu N L) λe1 e2 e3=>?_;simp only[yk L (tg N L),e1,e2,e3];simp only[X3,decide_true,YS]
theorem Pw(a b:a_):j0.fn [.b (kT a),.b (kT b)]=f (.b (.bool (t9 a b))):=by
 refine J (SH _ _ _ _ _ _) ?_
 have c:∀ x y:a_,(if (y:G)<(x:G) then(y:G) else(x:G))=((lN x y:a_):G):=λx y=>by
  refine J (Jt _ _) ?_;by_cases h:y<x
  .exact J (ai h) (J (ai (by lia)) X)
  .exact J (ak h) (J (ak (by lia)) X)
 refine J (c _ _) (J (c _ _) (J (c _ _) ?_))
 have:t9 a b=decide (((lN (a/256) (b/256):a_):G)+((lN (a/16%16) (b/16%16):a_):G)+((lN (a%16) (b%16):a_):G)=0):=by dsimp only[t9];show(match f_ (lN (a/256) (b/256)) 0 with|V=>(match f_ (lN (a/16%16) (b/16%16)) 0 with|V=>f_ (lN (a%16) (b%16)) 0|N'=>N')|N'=>N')=_;generalize lN (a/256) (b/256)=x;generalize lN (a/16%16) (b/16%16)=y;generalize lN (a%16) (b%16)=z;cases x with|zero=>(cases y with|zero=>(cases z with|zero=>rfl|succ z=>symm;exact bT (by omega))|succ y=>symm;exact bT (by omega))|succ x=>symm;exact bT (by omega)
 simp only[this]
theorem X6(N:eP.fn [.dict D1,.b (.str 0)]=f (.b (.tup [.tup l1,.tup u1])))(L:eP.fn [.dict D2,.b (.str 0)]=f (.b (.tup [.tup l2,.tup u2])))(h3:eA.fn [.b (.tup l1),.b (.tup l2)]=f (.b (.tup j)))(h4:cn.fn [.b (.tup j),.b (.tup l1)]=f (.b (.tup s1))) (h5:cn.fn [.b (.tup j),.b (.tup l2)]=f (.b (.tup s2))) (h6:rF.fn [.b (.tup u1)]=f (.b (.tup r1))) (h7:rF.fn [.b (.tup u2)]=f (.b (.tup r2)))(h8:jE.fn [.dict D1,.b (.tup s1),.b (.tup r1)]=f (.dict S1)) (h9:jE.fn [.dict D2,.b (.tup s2),.b (.tup r2)]=f (.dict S2)) (h10:qg.fn [.dict S1,.dict S2]=f (.dict iv)):pI.fn [.dict D1,.dict D2,.b (.str 0)]=f (.dict iv):=by
 show prun [] 3 4 sS [PV.dict D1,PV.dict D2,PV.b (.str 0)]=_;exact aI X ((ag (pN (Cw (bE (ar X X N) (ar X X L)) X) X X X)).trans ((ag (aB (ar X (bE X X) h3) X)).trans ((ag (aB (ar X (nx X (ar X (bE X X) h4) (ar X (eY X) h6)) h8) X)).trans (gc (ar X (bE X (ar X (nx X (ar X (bE X X) h5) (ar X (eY X) h7)) h9)) h10)))))
theorem Li:∀{P S:ZP},BZ s P=f S->(∀ p∈P,YF (r_ p.1 s)=V)/\S=P.map λp=>(p.1+s,p.2):=by intro w';induction w' with|nil=>intro S h;dsimp only[BZ]at h;rw[dQ]at h;exact⟨λO q=>g_ q gx,h.symm⟩|cons p P ih=>
  intro S h;revert h;refine cA (λhz h=>?_);revert h;refine zsZ (λQ hQ h=>?_);obtain rfl:=aw h;refine cF (ih hQ) λN aL=>?_;clear hQ;subst aL;refine⟨λq hq=>?_,X⟩;rcases aV.mp hq with eG|hq
  .clear h hq;subst eG;exact hz
  .exact N q hq
theorem SQ(hf:rS K')(hg:rS g)(h:OK K' g=f (b,iv)):pI.fn [dP K',dP g,.b (.str 0)]=f (.dict (au iv))/\jn b iv/\b<=1000000000:=by
 revert h;refine cA (λUJ h=>?_);have UJ:K'.b+g.b<=1000000000:=iB UJ;revert h;refine zsZ (λS hS=>zsZ (λR' hR h=>gJ h ?_));have hJ:=tg hf.CR hg.CR;obtain⟨s1,s2⟩:=Hl hf.CR hJ (X4 hf.CR hg.CR);obtain⟨t1,t2⟩:=Hl hg.CR hJ (X5 hf.CR hg.CR);obtain⟨z1,iC⟩:=Li hS;clear hS;subst iC;have hk:∀ p∈K'.p,sm (p.1+(eO K'.l g.l-K'.l)):=λp hp=>Pa (hf.ok.el p hp).1 s1 (z1 p hp);obtain⟨m1,m2⟩:=AB (c:=K'.b) (u:=1) hf.ok s1 hk (by decide) (by simp) (by lia) (by decide);have CA:(K'.p.map λp=>(p.1+(eO K'.l g.l-K'.l),p.2*1))=K'.p.map λp=>(p.1+(eO K'.l g.l-K'.l),p.2):=by simp
 rw[CA]at m1 m2;refine bZ (Po (bp:=g.b) (u:=1) m2 hg.ok t1 (by decide) (by lia) (by decide) (by simp;omega) hR) λS2 n1 n2 n3=>?_;refine qM (X6 (pR hf) (pR hg) (Cz hf.CR hg.CR) ?_ ?_ Hc Hc m1 n1 n2) ?_ UJ
 .exact(by rw[rP,s2]:cn.fn [.b (kT (eO K'.l g.l)),.b (kT K'.l)]=f (.b (kT (eO K'.l g.l-K'.l))))
 .exact(by rw[rP,t2]:cn.fn [.b (kT (eO K'.l g.l)),.b (kT g.l)]=f (.b (kT (eO K'.l g.l-g.l))))
 .have:K'.b+(1:G).natAbs*g.b=r_ K'.b g.b:=by show K'.b+1*g.b=K'.b+g.b;simp
  exact dT this n3
abbrev lP(e:ZE):PV:=.b (kT e.l)
noncomputable abbrev pT (i k:a_):AV:=.tup [.int (i:G),.int (k:G)]
abbrev wP(w:ZW):PV:=.b (pT w.i w.k)
structure Px(Es:d_ ZE)(w:ZW):Prop where
 at_:∃ e d,Es[w.i]?=f e/\Es[w.k]?=f d/\w.j=eO e.l d.l
theorem X7(N:yD h2 i=f (.b (.tup x)))(L:yD h2 k=f (.b (.tup y)))(h0:h2.length<=lim)(h3:eA.fn [.b (.tup x),.b (.tup y)]=f (.b (.tup j))):hG.fn [.b (.tup [.int i,.int k]),.list h2,.b (.str 0)]=f (.b (.tup [.tup j,.tup [.int i,.int k]])):=by show prun [] 3 1 n4 [.b (.tup [.int i,.int k]),.list h2,.b (.str 0)]=_;exact aI X ((ag (aB (ar X (bE (eK (A:=.list h2) (I:=M' i) X X ((ai h0).trans N)) (eK (A:=.list h2) (I:=M' k) X X ((ai h0).trans L))) h3) X)).trans (gc (Cw (bE (ar X (bE X X) (j2 (.tup j) (by intro h;cases h))) X) X)))
theorem yo(h:Px Es w)(hE:∀ e∈Es,rS e)(hl:Es.length<=lim):hG.fn [wP w,.list (Es.map lP),.b (.str 0)]=f (.b (.tup [kT w.j,pT w.i w.k])):=by exact aW (h.at_) λe d N L h3=>J h3 (X7 (by refine J (mh _ _) (J mL (J N ?_));rfl) (by refine J (mh _ _) (J mL (J L ?_));rfl) (by exact J (cz _) hl) (Cz (hE e (dX N)).CR (hE d (dX L)).CR))
theorem CB(a b:a_):k_ a b=decide (a<=b):=by cases h:k_ a b with|true=>exact(bP (iB h)).symm|false=>exact(bT λq=>by rw[CU.mpr q]at h;exact tF h).symm
theorem SR(h:a<b):k_ b a=N':=J (Az _ _) (J (bT (Nat.not_le_of_lt h)) X)
theorem YK(h:a<=b):k_ a b=V:=Za h
theorem afe(a b:ZW):fy ⟨0,.nil⟩ .lt (.tup [kT a.j,pT a.i a.k]) (.tup [kT b.j,pT b.i b.k])=f (OM a b):=by
 show r9 (fq 2) (kY N' 2) _ _ _=_;dsimp only[OM];by_cases N:a.j=b.j
 .refine J (YI ((eqK 1 _ _).trans (cb f (bP N)))) (J (YK (Nat.le_of_eq N.symm)) (J (YK (Nat.le_of_eq N)) ?_));by_cases L:a.i=b.i/\a.k=b.k
  .have e:fq 2 (pT a.i a.k) (pT b.i b.k)=f V:=by refine J L.1 (J L.2 ?_);show f (decide ((b.i:G)=b.i)&&(decide ((b.k:G)=b.k)&&V))=_;exact J (bP X) (J (bP X) X)
   refine J (YI e) (J L.1 (J L.2 (J (YK (c9 _)) ?_)));show f (decide (2<2))=f (k_ _ _);rw[Az,bT (Nat.not_succ_le_self _)];rfl
  .have e:fq 2 (pT a.i a.k) (pT b.i b.k)=f N':=by show f (decide ((a.i:G)=b.i)&&(decide ((a.k:G)=b.k)&&V))=_;exact J (Bool.and_true _) (dT (Bool.decide_and _ _) (J (bT λk=>L ⟨vE k.1,vE k.2⟩) X))
   refine J (XQ e) ?_;show r9 (fq 1) (kY N' 1) _ _ _=_;by_cases h3:a.i=b.i
   .exact J (YI (iT h3)) (J (XQ (iF λk=>L ⟨h3,k⟩)) (J iO (J h3 (J (YK (c9 _)) (cb f (Az _ _).symm)))))
   .refine J (XQ (iF h3)) (J iO ?_);rcases Nat.lt_or_gt_of_ne h3 with h|h
    .exact J (SR h) (cb f (bP h))
    .exact J (YK (kF h)) (J (SR h) (cb f (bT (Nat.lt_asymm h))))
 .refine J (XQ ((eqK 1 _ _).trans (cb f (bT N)))) (J (XR _ _ _ _) ?_);rcases Nat.lt_or_gt_of_ne N with h|h
  .exact J (SR h) (cb f (bP h))
  .exact J (YK (kF h)) (J (SR h) (cb f (bT (Nat.lt_asymm h))))
theorem E7(h:hG.fn [.b (.tup [.int i,.int k]),.list h2,.b (.str 0)]=f (.b (.tup t))):ct (aD [] bS.tl.hd.body) [3] (.b (.tup [.int i,.int k])) [.list W,.list h2,.b (.str 0),x,.b .none,.b .none,a6]=f ([.list W,.list h2,.b (.str 0),.b (.tup [.int i,.int k]),.b (.tup [.int i,.int k]),.b (.tup t),.b (.tup t)],.next):=by dsimp only[bS,CS.hd,CS.tl,CS.body,ct,h,AV.isNone,hU,aD,ax,bf,bM,fv,eo,cV,rC,I?,s?,dR,ig,allB,x_,F?];simp -iota only [h,hU,zM,uN,bW,mN];rfl
theorem Hs(h:hG.fn [.b (.tup [.int i,.int k]),.list h2,.b (.str 0)]=f (.b (.tup t)))(U':fy ⟨0,.nil⟩ .lt (.tup t) (.tup t')=f g) :
  ct (aD [] bS.tl.hd.body) [3] (.b (.tup [.int i,.int k])) [.list W,.list h2,.b (.str 0),x,.b (.tup [.int i',.int k']),.b (.tup t'),a6]=f (bif g then [.list W,.list h2,.b (.str 0),.b (.tup [.int i,.int k]),.b (.tup [.int i,.int k]),.b (.tup t),.b (.tup t)]
   else [.list W,.list h2,.b (.str 0),.b (.tup [.int i,.int k]),.b (.tup [.int i',.int k']),.b (.tup t'),.b (.tup t)],.next):=by
 cases g<;>(dsimp only[bS,CS.hd,CS.tl,CS.body,ct,h,U',AV.isNone,hU,aD,ax,bf,bM,fv,eo,cV,rC,I?,s?,nR,dR,ig,allB,x_,F?];simp -iota [h,U',hU,zM,uN,bW,mN];dsimp only[bS,CS.hd,CS.tl,CS.body,ct,h,U',AV.isNone,hU,aD,ax,bf,bM,fv,eo,cV,rC,I?,s?,nR,dR,ig,allB,x_,F?];simp -iota [h,U',hU,zM,uN,bW,mN];dsimp only[bS,CS.hd,CS.tl,CS.body,ct,h,U',AV.isNone,hU,aD,ax,bf,bM,fv,eo,cV,rC,I?,s?,nR,dR,ig,allB,x_,F?])
theorem Ht:∀(r:d_ ZW) (w:ZW),c0 r w∈w::r:=λw'=>by induction w' with|nil=>intro w;dsimp only[c0];exact aQ|cons v r ih=>
  intro w;dsimp only[c0];cases q_:OM v w;rotate_left
  .exact bg _ (ih v)
  .rcases aV.mp (ih w) with h|h
   .exact J h aQ
   .exact bg _ (bg _ h)
theorem Hu(hE:∀ e∈Es,rS e)(hl:Es.length<=lim):∀(r:d_ ZW) (w:ZW) (x a6:PV),(∀ v∈r,Px Es v)->Px Es w->∃ x' AF,dS (ct (aD [] bS.tl.hd.body) [3]) (r.map wP) [.list W,.list (Es.map lP),.b (.str 0),x,wP w,.b (.tup [kT w.j,pT w.i w.k]),a6] =
  f ([.list W,.list (Es.map lP),.b (.str 0),x',wP (c0 r w),.b (.tup [kT (c0 r w).j,pT (c0 r w).i (c0 r w).k]),AF],.next):=by
 intro w';induction w' with|nil=>intro w x a6 O O;exact⟨x,a6,X⟩|cons v r IH=>intro w x a6 hr hw;refine Dg λGq kq=>?_;have hv:=hr v aQ;have ht:=Hs (W:=W) (x:=x) (a6:=a6) (i':=w.i) (k':=w.k) (yo hv hE hl) (afe v w);have hr':∀ u∈r,Px Es u:=λu hu=>hr u (bg _ hu);cases hz:OM v w with|true=>(rw[hz]at ht;obtain⟨x',AF,ih⟩:=IH v (wP v) (.b (.tup [kT v.j,pT v.i v.k])) hr' hv;refine kq x' AF ?_;dsimp only[c0];(refine J bW (J hz ?_));dsimp only[dS];refine dT ih (J ht ?_);rfl)|false=>rw[hz]at ht;obtain⟨x',AF,ih⟩:=IH w (wP v) (.b (.tup [kT v.j,pT v.i v.k])) hr' hw;refine kq x' AF ?_;dsimp only[c0];(refine J bW (J hz ?_));dsimp only[dS];refine dT ih (J ht ?_);rfl
theorem SS(hE:∀ e∈Es,rS e)(hl:Es.length<=lim)(hr:∀ v∈w::r,Px Es v):kN.fn [.list ((w::r).map wP),.list (Es.map lP),.b (.str 0)]=f (wP (c0 r w)):=by
 have hw:=hr w aQ;refine gy (Hu hE hl (W:=(w::r).map wP) r w (wP w) (.b (.tup [kT w.j,pT w.i w.k])) (λv hv=>hr v (bg _ hv)) hw) λx' AF N=>?_;have e1:aD [] bS.hd [.list ((w::r).map wP),.list (Es.map lP),.b (.str 0),.any,.any,.any,.any]=f ([.list ((w::r).map wP),.list (Es.map lP),.b (.str 0),.any,.b .none,.b .none,.any],.next):=by dsimp only[bS,CS.hd,aD,ax,bM,fv,eo,rC,I?,s?,ig,allB,x_,F?];rfl
 have e2:aD [] bS.tl.hd [.list ((w::r).map wP),.list (Es.map lP),.b (.str 0),.any,.b .none,.b .none,.any]=f ([.list ((w::r).map wP),.list (Es.map lP),.b (.str 0),x',wP (c0 r w),.b (.tup [kT (c0 r w).j,pT (c0 r w).i (c0 r w).k]),AF],.next):=by refine(jQ (i:=0) (ik:=.plain) (C':=[3]) (b:=bS.tl.hd.body) (Z:=(w::r).map wP) X X X).trans ?_;rw[<-N,bW,dS,E7 (yo hw hE hl)]
 have e3:aD [] bS.tl.tl [.list ((w::r).map wP),.list (Es.map lP),.b (.str 0),x',wP (c0 r w),.b (.tup [kT (c0 r w).j,pT (c0 r w).i (c0 r w).k]),AF]=f ([.list ((w::r).map wP),.list (Es.map lP),.b (.str 0),x',wP (c0 r w),.b (.tup [kT (c0 r w).j,pT (c0 r w).i (c0 r w).k]),AF],.ret (wP (c0 r w))):=by rfl
 exact aI (mu:=[]) (np:=3) (more:=4) (ha:=bS) (as:=[.list ((w::r).map wP),.list (Es.map lP),.b (.str 0)]) X ((ag e1).trans ((ag e2).trans e3))
theorem AG(i k a b:a_):fq 3 (pT i k) (pT a b)=f (f_ i a&&f_ k b):=by
 have c:∀ x y:a_,decide ((x:G)=(y:G))=f_ x y:=λx y=>by
  by_cases h:x=y
  .subst h;exact J (JK _) (bP X)
  .exact J (La h) (bT λq=>h (vE q))
 dsimp only[fq,Fx];simp only[c,Bool.and_true]
theorem UL(a b:a_):∀ W:d_ ZW,jk (pT a b) (W.map λw=>pT w.i w.k)=f (zo a b W):=λw'=>by induction w' with|nil=>exact X|cons w W ih=>dsimp only[x_,jk,AG,ih,zo];simp -iota only [bW,AG,ih];dsimp only[x_,jk,AG,ih,zo];simp -iota only [bW,AG,ih];dsimp only[x_,jk,AG,ih,zo];cases f_ w.i a<;>cases f_ w.k b<;>rfl
theorem Py(W:d_ ZW):allB (W.map wP)=f (W.map λw=>pT w.i w.k):=by
 have:W.map wP=(W.map λw=>pT w.i w.k).map .b:=J fG X
 exact J this (J (i8 _) X)
theorem SU(a i k:a_):jk (.int (a:G)) [.int (i:G),.int (k:G)]=f (f_ a i||f_ a k):=by
 have c:∀ x y:a_,decide ((x:G)=(y:G))=f_ y x:=λx y=>by
  by_cases h:x=y
  .subst h;exact J (JK _) (bP X)
  .exact J (La (kz h)) (bT λq=>h (vE q))
 dsimp only[jk,fq];simp only[c,JG]
theorem Lj{a3 a6 a7:PV}(hW:allB W=f ws)(N:jk (.int a) [.int i,.int k]=f g1)(L:cK.fn [.b (.tup p),.b (.tup j)]=f (.b (.bool g2)))(hb1:(if a<i then a else i)=b1) (sF:(if a>i then a else i)=b2) (hc1:(if a<k then a else k)=c1) (Wg:(if a>k then a else k)=c2) (h3:jk (.tup [.int b1,.int b2]) ws=f g3) (h4:jk (.tup [.int c1,.int c2]) ws=f g4) :
  ct (aD [] ck.tl.tl.tl.hd.body) [6,7] (.b (.tup [.int a,.tup p])) [.b (.tup [.int i,.int k]),.list W,.list h2,.b (.tup j),.b (.int i),.b (.int k),a6,a7] =
   f ([.b (.tup [.int i,.int k]),.list W,.list h2,.b (.tup j),.b (.int i),.b (.int k),.b (.int a),.b (.tup p)],match g1||!g2 with|V=>.cont|N'=>match g3||g4 with|V=>.next|N'=>.ret (.b (.bool V))):=by
 subst hb1 sF hc1 Wg;have inW:∀ x g,jk x ws=f g->Xa (.b x) (.list W)=f g:=λx g h=>by show(match allB W with|f Z=>jk x Z |R=>R)=_;exact J hW h
 have e1:=cu (mu:=[]) (a:=.seq .cont .skip) (b:=.skip) (Hb (yj (y:=V) (a:=.var 6) (b:=.var 0) (M:=[.b (.tup [.int i,.int k]),.list W,.list h2,.b (.tup j),.b (.int i),.b (.int k),.b (.int a),.b (.tup p)]) X X N) (SE (ar (K':="powers_divide") (F:=gW) vR (bE (a:=.var 7) (b:=.var 3) X X) L)));have e2:=cu (mu:=[]) (a:=.seq (.ret (.k (.bool V))) .skip) (b:=.skip) (Cx (yj (y:=N') (a:=.bc (aO (.bi .min2 (aO jg lO)) (.bi .max2 (aO jg lO)))) (b:=.var 1) (M:=[.b (.tup [.int i,.int k]),.list W,.list h2,.b (.tup j),.b (.int i),.b (.int k),.b (.int a),.b (.tup p)]) X X (inW _ _ h3)) (yj (y:=N') (a:=.bc (aO (.bi .min2 (aO kc lO)) (.bi .max2 (aO kc lO)))) (b:=.var 1) X X (inW _ _ h4)));show aD [] (.seq (.iff _ _ _) (.seq (.iff _ _ _) .skip)) _=_;cases hx:g1||!g2 with|true=>rw[QW,hx]at e1;exact ta (e1.trans X)|false=>rw[QW,hx]at e1;refine(ag (e1.trans X)).trans ?_;(clear h3;cases g3)<;>(clear h4;cases g4)<;>first|exact(ag (e2.trans X)).trans X|exact eh (e2.trans X)
theorem E8(a i:a_):(if (a:G)<(i:G) then(a:G) else(i:G))=((lN i a:a_):G):=by
 refine J (Jt _ _) ?_;by_cases h:a<i
 .exact J (ai h) (J (ai (by lia)) X)
 .exact J (ak h) (J (ak (by lia)) X)
theorem E9(a i:a_):(if (a:G)>(i:G) then(a:G) else(i:G))=((lC i a:a_):G):=by
 refine J (td _ _) ?_;by_cases h:a>i
 .exact J (ai h) (J (ai (by lia)) X)
 .exact J (ak h) (J (ak (by lia)) X)
theorem Lk(hj:sm w.j):∀(r:d_ ZE) (a:a_) (a6 a7:PV),(∀ e∈r,rS e)->∃ AF Fa,dS (ct (aD [] ck.tl.tl.tl.hd.body) [6,7]) (fA a (r.map lP)) [wP w,.list (W.map wP),.list h2,.b (kT w.j),.b (.int w.i),.b (.int w.k),a6,a7] =
  f ([wP w,.list (W.map wP),.list h2,.b (kT w.j),.b (.int w.i),.b (.int w.k),AF,Fa],match vy w W a r with|V=>.ret (.b (.bool V))|N'=>.next):=by
 intro w';induction w' with|nil=>intro a a6 a7 O;exact⟨a6,a7,X⟩|cons e r IH=>intro a a6 a7 hr;have he:=hr e aQ;refine gy (IH (a+1) (.b (.int a)) (lP e) λd hd=>hr d (bg _ hd)) λAF Fa ih=>?_;dsimp only[x_,hY,dS,vy];refine J (hY _ _ _) ?_;dsimp only[x_,hY,dS,vy];refine J (Lj (h2:=h2) (a3:=.any) (a6:=a6) (a7:=a7) (Py W) (SU a w.i w.k) (AD he.CR hj) (E8 a w.i) (E9 a w.i) (E8 a w.k) (E9 a w.k) (UL (lN w.i a) (lC w.i a) W) (UL (lN w.k a) (lC w.k a) W)) ?_;cases N:(f_ a w.i||f_ a w.k)||!(pv e.l w.j) with|true=>exact uY AF Fa ih|false=>cases L:zo (lN w.i a) (lC w.i a) W||zo (lN w.k a) (lC w.k a) W with|true=>exact uY AF Fa ih|false=>exact uY _ _ X
theorem X8:aD [] ck.hd [.b (.tup [.int i,.int k]),.list W,.list h2,.any,.any,.any,.any,.any]=f ([.b (.tup [.int i,.int k]),.list W,.list h2,.any,.b (.int i),.b (.int k),.any,.any],.next):=by rfl
theorem X9(N:yD h2 i=f (.b (.tup x)))(L:yD h2 k=f (.b (.tup y)))(h0:h2.length<=lim)(h3:j0.fn [.b (.tup x),.b (.tup y)]=f (.b (.bool g))) :
  aD [] ck.tl.hd [.b (.tup [.int i,.int k]),.list W,.list h2,.any,.b (.int i),.b (.int k),.any,.any]=f ([.b (.tup [.int i,.int k]),.list W,.list h2,.any,.b (.int i),.b (.int k),.any,.any],bif g then .ret (.b (.bool V)) else .next):=
 (cu (ar X (bE (eK (A:=.list h2) (I:=M' i) X X ((ai h0).trans N)) (eK (A:=.list h2) (I:=M' k) X X ((ai h0).trans L))) h3)).trans (by(clear h3;cases g)<;>rfl)
theorem Yb(N:yD h2 i=f (.b (.tup x)))(L:yD h2 k=f (.b (.tup y)))(h0:h2.length<=lim)(h3:eA.fn [.b (.tup x),.b (.tup y)]=f (.b (.tup j))) :
  aD [] ck.tl.tl.hd [.b (.tup [.int i,.int k]),.list W,.list h2,.any,.b (.int i),.b (.int k),.any,.any]=f ([.b (.tup [.int i,.int k]),.list W,.list h2,.b (.tup j),.b (.int i),.b (.int k),.any,.any],.next):=
 aB (ar X (bE (eK (A:=.list h2) (I:=M' i) X X ((ai h0).trans N)) (eK (A:=.list h2) (I:=M' k) X X ((ai h0).trans L))) h3) X
theorem Hv(hE:∀ e∈Es,rS e)(hl:Es.length<=lim)(hf:Es[w.i]?=f K')(hg:Es[w.k]?=f g)(hw:w.j=eO K'.l g.l) :
  jP.fn [wP w,.list (W.map wP),.list (Es.map lP)]=f (.b (.bool (t9 K'.l g.l||vy w W 0 Es))):=by
 have l1:yD (Es.map lP) (w.i:G)=f (lP K'):=by refine J (mh _ _) (J mL (J hf ?_));rfl
 have l2:yD (Es.map lP) (w.k:G)=f (lP g):=by refine J (mh _ _) (J mL (J hg ?_));rfl
 have l0:(Es.map lP).length<=lim:=J (cz _) hl;have sf:=(hE K' (dX hf)).CR;have sg:=(hE g (dX hg)).CR;have e1:=X8 (W:=W.map wP) (h2:=Es.map lP) (i:=w.i) (k:=w.k);have e2:=X9 (W:=W.map wP) (h2:=Es.map lP) (i:=w.i) (k:=w.k) l1 l2 l0 (Pw K'.l g.l);cases hz:t9 K'.l g.l with|true=>rw[hz]at e2;exact aI (mu:=[]) (np:=3) (more:=5) (ha:=ck) (as:=[wP w,.list (W.map wP),.list (Es.map lP)]) X ((ag e1).trans (eh e2))|false=>rw[hz]at e2;have e3:=Yb (W:=W.map wP) (h2:=Es.map lP) (i:=w.i) (k:=w.k) l1 l2 l0 (Cz sf sg);refine gy (Lk (W:=W) (h2:=Es.map lP) (w:=w) (by exact J hw (tg sf sg)) Es 0 .any .any hE) λa6 a7 UM=>?_;rw[hw]at UM;have e4:=(jQ (mu:=[]) (i:=2) (ik:=.enum) (C':=[6,7]) (b:=ck.tl.tl.tl.hd.body) (M:=[wP w,.list (W.map wP),.list (Es.map lP),.b (kT (eO K'.l g.l)),.b (.int w.i),.b (.int w.k),.any,.any]) (Z:=fA 0 (Es.map lP)) X X X).trans UM;cases hn:vy w W 0 Es with|true=>rw[hn]at e4;exact aI (mu:=[]) (np:=3) (more:=5) (ha:=ck) (as:=[wP w,.list (W.map wP),.list (Es.map lP)]) X ((ag e1).trans ((ag e2).trans ((ag e3).trans (eh e4))))|false=>
   rw[hn]at e4;have e5:aD [] ck.tl.tl.tl.tl [wP w,.list (W.map wP),.list (Es.map lP),.b (kT (eO K'.l g.l)),.b (.int w.i),.b (.int w.k),a6,a7]=f ([wP w,.list (W.map wP),.list (Es.map lP),.b (kT (eO K'.l g.l)),.b (.int w.i),.b (.int w.k),a6,a7],.ret (.b (.bool N'))):=by rfl
   exact aI (mu:=[]) (np:=3) (more:=5) (ha:=ck) (as:=[wP w,.list (W.map wP),.list (Es.map lP)]) X ((ag e1).trans ((ag e2).trans ((ag e3).trans ((ag e4).trans e5))))
noncomputable abbrev GS (S:PV) (ha h2 W:aC) (dn:G) (a7 a8:PV):aC:=[S,.b (.str 0),.b (.int 200),.list ha,.list h2,.list W,.b (.int dn),a7,a8,.any,.any,.any,.any,.any,.any]
abbrev GB:CS:=c7.tl.tl.tl.tl.hd.body
noncomputable def CS.test:CS->CE|.kH t O=>t|_=>.bad
abbrev GT:CE:=c7.tl.tl.tl.tl.hd.test
section
variable{S:PV}{ha h2 W:aC}{dn:G}{a7 a8:PV}
theorem g_T(hl:W.length<=lim):ax GT (GS S ha h2 W dn a7 a8)=f (.b (.bool (decide (0<(W.length:G))))):=
 cf (y:=0) (rO (eY X) (ai hl)) X
theorem g_1(h:kN.fn [.list W,.list h2,.b (.str 0)]=f (.b p)):aD [3,4,5] GB.hd (GS S ha h2 W dn a7 a8)=f (GS S ha h2 W dn (.b p) a8,.next):=
 aB (ar X (nx X X X) h) X
theorem g_3(h:jP.fn [.b (.tup p),.list W,.list h2]=f (.b (.bool g))):aD [3,4,5] GB.tl.tl.hd (GS S ha h2 W dn (.b (.tup p)) a8)=f (GS S ha h2 W dn (.b (.tup p)) a8,bif g then .cont else .next):=
 (cu (ar X (nx X X X) h)).trans (by(clear h;cases g)<;>rfl)
theorem g_4:aD [3,4,5] GB.tl.tl.tl.hd (GS S ha h2 W dn a7 a8)=f (GS S ha h2 W (dn+1) a7 a8,.next):=by rfl
theorem g_5(h:dn<=200):aD [3,4,5] GB.tl.tl.tl.tl.hd (GS S ha h2 W dn a7 a8)=f (GS S ha h2 W dn a7 a8,.next):=by exact(cu (cf (x:=dn) (y:=200) X X)).trans (by(rw[cmpInt];refine J (bT (by lia)) ?_);rfl)
theorem g_6(N:yD ha i=f (.dict D1))(L:yD ha k=f (.dict D2))(h0:ha.length<=lim)(h3:pI.fn [.dict D1,.dict D2,.b (.str 0)]=f (.dict T))(h4:kU.fn [.dict T,.list ha,.b (.str 0)]=f (.dict iv)) :
  aD [3,4,5] GB.tl.tl.tl.tl.tl.hd (GS S ha h2 W dn (.b (.tup [.int i,.int k])) a8)=f (GS S ha h2 W dn (.b (.tup [.int i,.int k])) (.dict iv),.next):=
 aB (ar X (nx (ar X (nx (eK (A:=.list ha) (I:=M' i) X X ((ai h0).trans N)) (eK (A:=.list ha) (I:=M' k) X X ((ai h0).trans L)) X) h3) X X) h4) X
theorem aff:aD [3,4,5] GB.tl.tl.tl.tl.tl.tl.hd (GS S ha h2 W dn a7 (.dict []))=f (GS S ha h2 W dn a7 (.dict []),.next):=by rfl
theorem g_7{n:a_}{iv vs:dc}{aj:al}{l c:AV}(hB:ha.length=n)(hn:n<=1000)(hR:0<iv.length)(hRl:iv.length<=lim)(hW:W.length<=lim)(hL:h2.length<=lim)(hX:ax (.bq (.bc (aO yE (.bi .len (bx cD)))) [9] .range (.bi .len (bx cD))) (GS S ha h2 W dn a7 (.dict iv))=f (.list (aj.map .b))) (hXl:aj.length<=lim) (N:gn.fn [.dict iv,.b (.str 0)]=f (.dict vs)) (L:eP.fn [.dict iv,.b (.str 0)]=f (.b (.tup [l,c]))) :
  aD [3,4,5] GB.tl.tl.tl.tl.tl.tl.hd (GS S ha h2 W dn a7 (.dict iv))=f (GS S (ha++[.dict vs]) (h2++[.b l]) (W++aj.map .b) dn a7 (.dict iv),.next):=by
 have e2:(2:a_)<=lim:=by decide
 have e (x y:AV):yD [x,y] 0=f x:=X;have hBl:ha.length<=lim:=by refine J hB ?_;dsimp only[lim];lia
 have hR':decide (0<(iv.length:G))=V:=bP (by lia);have t1:ax (.cmp .gt (.bi .len (bx tE)) bC) (GS S ha h2 W dn a7 (.dict iv))=f (.b (.bool V)):=by dsimp only[ax,bf,tC,nR,fy,cmpInt];simp[hRl];omega
 have t2:aD [3,4,5] (.extend 5 (.bq (.bc (aO yE (.bi .len (bx cD)))) [9] .range (.bi .len (bx cD)))) (GS S ha h2 W dn a7 (.dict iv))=f (GS S ha h2 (W++aj.map .b) dn a7 (.dict iv),.next):=by have aiM:(aj.map PV.b).length<=lim:=J (cz _) hXl;dsimp only[aD,bf,fresh];(simp -iota only [hX,i8,Mh,YS];dsimp only[hX,i8,Option.isSome_some,Bool.and_self];simp -iota only [hX,i8,Mh,YS]);dsimp only[bM];simp[hW,hXl]
 have t3:aD [3,4,5] (.append 3 (fS (aO tE aS))) (GS S ha h2 (W++aj.map .b) dn a7 (.dict iv))=f (GS S (ha++[.dict vs]) h2 (W++aj.map .b) dn a7 (.dict iv),.next):=by dsimp only[aD,ax,bf,bM,rC,fw,eN,fresh];simp[hBl,N,K4,K5]
 have t4:aD [3,4,5] (.append 4 (.idx (bN (aO tE aS)) bC)) (GS S (ha++[.dict vs]) h2 (W++aj.map .b) dn a7 (.dict iv))=f (GS S (ha++[.dict vs]) (h2++[.b l]) (W++aj.map .b) dn a7 (.dict iv),.next):=by dsimp only[aD,ax,bf,bM,rC,mv];simp[hL,L,e,e2,EN]
 have t5:aD [3,4,5] (.seq (.extend 5 (.bq (.bc (aO yE (.bi .len (bx cD)))) [9] .range (.bi .len (bx cD)))) (.seq (.append 3 (fS (aO tE aS))) (.seq (.append 4 (.idx (bN (aO tE aS)) bC)) .skip))) (GS S ha h2 W dn a7 (.dict iv))=f (GS S (ha++[.dict vs]) (h2++[.b l]) (W++aj.map .b) dn a7 (.dict iv),.next):=by exact J (ag t2) (J (ag t3) (J (ag t4) X))
 exact J Ao (J t1 t5)
theorem g_X(hB:ha.length=n)(hn:n<=1000):ax (.bq (.bc (aO yE (.bi .len (bx cD)))) [9] .range (.bi .len (bx cD))) (GS S ha h2 W dn a7 a8)=f (.list (((A_ n).map λ(i:a_)=>pT i n).map .b)):=by
 have hBl:ha.length<=lim:=by refine J hB ?_;dsimp only[lim];lia
 have N:ax (.bi .len (bx cD)) (GS S ha h2 W dn a7 a8)=f (.b (.int (n:G))):=by dsimp only[ax,bf,tC];simp[hB];lia
 refine bH (Xs:=(A_ n).map λ(i:a_)=>.b (.int (i:G))) N ?_ ?_ (by simp;dsimp only[lim];omega)
 .dsimp only[Ef];refine J (ai ⟨by simp,by lia⟩) ?_;refine J fG (J (CT _) ?_);rfl
 .refine J fG (eR (w:=λ(i:a_)=>.b (pT i n)) _ λi hi=>fC ?_);have hn':n<=lim:=by dsimp only[lim];omega
  dsimp only[ax,bM,bf,tC,hB,hn',if_true,ig,allB];simp -iota only [hB,hn',gv];rfl
theorem Ll(w:ZW):∀ Ws:d_ ZW,(Ws.flatMap λv=>bif sQ v w then [] else [wP v])=(eW w Ws).map wP:=λw'=>by induction w' with|nil=>exact X|cons v Ws ih=>dsimp only[eW];refine J C4 (J ih ?_);cases sQ v w<;>rfl
theorem abz(v w:ZW):fy ⟨0,.nil⟩ .ne (pT v.i v.k) (pT w.i w.k)=f (!(sQ v w)):=by show(match fq 3 (pT v.i v.k) (pT w.i w.k) with|f p=>f (!p) |R=>R)=_;refine J (AG _ _ _ _) ?_;dsimp only[sQ];cases f_ v.i w.i<;>rfl
theorem g_2(hl:Ws.length<=lim):aD [3,4,5] GB.tl.hd (GS S ha h2 (Ws.map wP) dn (wP w) a8)=f (GS S ha h2 ((eW w Ws).map wP) dn (wP w) a8,.next):=by
 have hlen:((eW w Ws).map wP).length<=lim:=by refine J (cz _) (aR ?_ hl);clear hl;induction Ws with|nil=>exact c9 _|cons v Ws ih=>
   dsimp only[eW];cases q_:sQ v w;rotate_left
   .exact CX ih
   .exact zI ih
 have N:ax (.bR iY [10] .plain kc (.cmp .ne iY rV)) (GS S ha h2 (Ws.map wP) dn (wP w) a8)=f (.list ((eW w Ws).map wP)):=by refine bH (hc:=.list (Ws.map wP)) (Xs:=Ws.map wP) X X ?_ hlen;refine dT (Ll w Ws) (nA Ws λv hv=>?_);have ej:=abz v w;dsimp only[pT]at ej;dsimp only[rz,cV,ax,bM,bf,nR];refine J ej ?_;cases sQ v w<;>rfl
 exact aB N (by(dsimp only[rC,fw,eN,fresh];simp[Py]))
end
theorem Pz:∀(Bs:d_ ZE) (i:a_),OL Bs i=Bs[i]?:=λw'=>by induction w' with|nil=>intro i;rfl|cons e Bs ih=>intro z1;cases z1 with|zero=>exact X|succ i=>dsimp only[OL];refine J (La (Nat.succ_ne_zero i)) ?_;exact ih i
theorem Hw(l n:a_):∀(Es:d_ ZE) (a:a_),(my l n a Es).map (λw=>pT w.i w.k)=(List.range' a Es.length).map λi=>pT i n:=λw'=>by induction w' with|nil=>intro a;exact X|cons e Es ih=>intro a;dsimp only[my];simp only[bW,fE,List.range'_succ,ih (b? a)]
theorem Lm:∀(r:d_ ZE) (a:a_),(∀ i,r[i]?=Bs[a+i]?)->∀ w∈my e.l Bs.length a r,Px (Bs++[e]) w:=λw'=>by induction w' with|nil=>intro a O w hw;dsimp only[my]at hw;simp at hw|cons d r ih=>
  intro a h w hw;dsimp only[my]at hw;rw[aV]at hw;rcases hw with eG|hw
  .subst eG;have h0:=h 0;simp only[QE,Nat.add_zero]at h0;refine⟨d,e,?_,?_,X⟩
   .refine J (L8 ((mq.mp h0.symm).1)) ?_;exact h0.symm
   .show(Bs++[e])[Bs.length]?=_;simp
  .refine ih (b? a) (λi=>?_) w hw
   have:=h (i+1)
   simp only[U3]at this;refine J this ?_;congr 1;lia
theorem Px.more(h:Px Bs w):Px (Bs++[e]) w:=by exact aW (h.at_) λK' g N L h3=>⟨K',g,by refine J (L8 (mq.mp N).1) ?_;exact N,by refine J (L8 (mq.mp L).1) ?_;exact L,h3⟩
theorem Ln:∀{W:d_ ZW},v∈eW w W->v∈W:=by intro w';induction w' with|nil=>intro h;dsimp only[eW]at h;simp at h|cons u W ih=>
  intro h;dsimp only[eW]at h;revert h;cases q_:sQ u w<;>intro h;rotate_left
  .exact bg _ (ih h)
  .rcases aV.mp h with h|h
   .exact J h aQ
   .exact bg _ (ih h)
theorem Lo(w:ZW):∀ W:d_ ZW,(eW w W).length<=W.length:=λw'=>by induction w' with|nil=>exact c9 _|cons v W ih=>
  dsimp only[eW];cases q_:sQ v w;rotate_left
  .exact CX (ih)
  .exact zI (ih)
theorem Hx(l n:a_):∀(Es:d_ ZE) (a:a_),(my l n a Es).length=Es.length:=λw'=>by induction w' with|nil=>intro O;exact X|cons e Es ih=>intro a;dsimp only[my];simp[ih]
theorem PA{S:PV}:∀(m:a_) (Bs:d_ ZE) (W:d_ ZW) (SV:d_ ZE) (dn:G) (a7 a8:PV) (h1:a_),Ex m Bs W=f SV->(∀ e∈Bs,rS e)->(∀ w∈W,Px Bs w)->dn+m<=200->Bs.length+m<=1000->W.length+m*1000<=1000000->m<=h1 ->
  ∃ L' W' dn' Fa a8',fc (ax GT) (aD [3,4,5] GB) h1 (GS S (Bs.map dP) (Bs.map lP) (W.map wP) dn a7 a8)=f (GS S (SV.map dP) L' W' dn' Fa a8',.next)/\(∀ e∈SV,rS e)/\SV.length<=1000:=by
 intro w';induction w' with|zero=>intro Bs W SV dn a7 a8 h1 h O O O O O O;exact nS h|succ m ih=>intro Bs z2 SV dn a7 a8 z7;cases z7 with|zero=>intro h O O O O O hN;lia|succ h1=>cases z2 with|nil=>intro h hE hW hd hBl hWl hN;dsimp only[Ex]at h;rw[dQ]at h;subst h;refine⟨Bs.map lP,[],dn,a7,a8,?_,hE,by lia⟩;dsimp only[fc];refine J (g_T (by exact ji _)) ?_;rfl|cons v r=>
    intro h hE hW hd hBl hWl hN;have Ju:Bs.length<=lim:=by dsimp only[lim];lia
    have UN:(v::r).length<=lim:=by dsimp only[lim];lia
    have hT:ax GT (GS S (Bs.map dP) (Bs.map lP) ((v::r).map wP) dn a7 a8)=f (.b (.bool V)):=by refine J (g_T (by rw[cz];exact UN)) ?_;simp
    dsimp only[Ex]at h;generalize hw:c0 r v=w at h;have hwm:w∈v::r:=dT hw (Ht r v);have k1:=g_1 (S:=S) (ha:=Bs.map dP) (dn:=dn) (a7:=a7) (a8:=a8) (SS hE Ju hW);rw[hw]at k1;have k2:=g_2 (S:=S) (ha:=Bs.map dP) (h2:=Bs.map lP) (dn:=dn) (a8:=a8) (w:=w) UN;have hW':∀ u∈eW w (v::r),Px Bs u:=λu hu=>hW u (Ln hu);have aiR:=Lo w (v::r);revert h;refine XA (λK' hf h=>?_);rw[Pz]at hf;revert h;refine XA (λg hg h=>?_);rw[Pz]at hg;have hj:w.j=eO K'.l g.l:=by refine aW ((hW w hwm).at_) λe d e1 e2 e3=>?_;rw[hf]at e1;obtain rfl:=aw e1;rw[hg]at e2;obtain rfl:=aw e2;exact e3
    have k3:=g_3 (S:=S) (ha:=Bs.map dP) (dn:=dn) (a8:=a8) (Hv hE Ju (W:=eW w (v::r)) hf hg hj);dsimp only[fc];refine J hT ?_;revert h;refine TZ (λCN h=>?_) λCN h=>?_
    .rw[CN]at k3
     have body:aD [3,4,5] GB (GS S (Bs.map dP) (Bs.map lP) ((v::r).map wP) dn a7 a8)=f (GS S (Bs.map dP) (Bs.map lP) ((eW w (v::r)).map wP) dn (wP w) a8,.cont):=
      (ag (a:=GB.hd) k1).trans ((ag (a:=GB.tl.hd) k2).trans (ta (a:=GB.tl.tl.hd) k3))
     exact J body (ih Bs (eW w (v::r)) SV dn _ _ h1 h hE hW' (by lia) (by exact kF ‹_›) (by lia) (by lia))
    .rw[CN]at k3;have k4:=g_4 (S:=S) (ha:=Bs.map dP) (h2:=Bs.map lP) (W:=(eW w (v::r)).map wP) (dn:=dn) (a7:=wP w) (a8:=a8);have k5:=g_5 (S:=S) (ha:=Bs.map dP) (h2:=Bs.map lP) (W:=(eW w (v::r)).map wP) (dn:=dn+1) (a7:=wP w) (a8:=a8) (by(simp -iota at *;omega));revert h;refine zsP (λb T YE h=>?_);have hfE:=hE K' (dX hf);have hgE:=hE g (dX hg);refine dH (SQ hfE hgE YE) λs1 s2 s3=>?_;revert h;refine zsP (λb2 iv hR h=>dH (Pr s2 s3 hE (by omega) hR) λr1 r2 r3=>?_);have k6:=g_6 (S:=S) (h2:=Bs.map lP) (W:=(eW w (v::r)).map wP) (dn:=dn+1) (a8:=a8) (ha:=Bs.map dP) (i:=w.i) (k:=w.k) (by refine J (mh _ _) (J mL (J hf ?_));rfl) (by refine J (mh _ _) (J mL (J hg ?_));rfl) (by exact J (cz _) Ju) s1 r1
     have abC:∀{aj σ:aC},aD [3,4,5] GB.tl.tl.tl.tl.tl.tl.hd (GS S (Bs.map dP) (Bs.map lP) ((eW w (v::r)).map wP) (dn+1) (wP w) (.dict (au iv)))=f (σ,.next)->aD [3,4,5] GB (GS S (Bs.map dP) (Bs.map lP) ((v::r).map wP) dn a7 a8)=f (σ,.next):=fun {aj σ} k7=>
      (ag (a:=GB.hd) k1).trans ((ag (a:=GB.tl.hd) k2).trans ((ag (a:=GB.tl.tl.hd) k3).trans ((ag (a:=GB.tl.tl.tl.hd) k4).trans ((ag (a:=GB.tl.tl.tl.tl.hd) k5).trans ((ag (a:=GB.tl.tl.tl.tl.tl.hd) k6).trans ((ag (a:=GB.tl.tl.tl.tl.tl.tl.hd) k7).trans X))))))
     revert h;refine zsN (λhRe h=>?_) (λhRn h=>?_)
     .clear hR r1 r2 k6;subst hRe;have body:=abC (aj:=[]) aff;refine J body ?_;simp only;exact ih Bs (eW w (v::r)) SV (dn+1) _ _ h1 h hE hW' (by lia) (by exact kF ‹_›) (by lia) (by lia)
     .revert h;refine XA (λe he h=>?_);obtain⟨m1,m2,m3,n,m4,m5⟩:=qt r2 r3 he;have hRp:0<(au iv).length:=by refine J (cw _) ?_;cases iv with|nil=>exact g_ X hRn|cons p iv=>exact iG _
      have k7:=g_7 (S:=S) (ha:=Bs.map dP) (h2:=Bs.map lP) (W:=(eW w (v::r)).map wP) (dn:=dn+1) (a7:=wP w) (n:=Bs.length) (by exact J (cz _) X) (by lia) hRp (by exact J (cw _) r2.lim) (by exact J (cz _) (aR ‹_› ‹_›)) (by exact J (cz _) Ju) (g_X (by exact J (cz _) X) (by omega)) (by simp;dsimp only[lim];assumption) m1 m5;have body:=abC (aj:=[]) k7;refine J body ?_;simp only
      have hx:(eW w (v::r)).map wP++((A_ Bs.length).map λi=>pT i Bs.length).map PV.b=((eW w (v::r))++my e.l Bs.length 0 Bs).map wP:=by
       refine J C6 ?_;congr 1
       have:=Hw e.l Bs.length Bs 0
       refine J List.range_eq_range' (dT this (J fG ?_));rfl
      have hB':Bs.map dP++[PV.dict (au e.p)]=(Bs++[e]).map dP:=by simp
      have hL':Bs.map lP++[PV.b (kT e.l)]=(Bs++[e]).map lP:=by simp
      refine J hx (J hB' (J hL' (ih (Bs++[e]) _ SV (dn+1) _ _ h1 h (λd hd=>?_) (λu hu=>?_) (by lia) (by simp;lia) (by refine J ou (J (Hx _ _ _ _) ?_);lia) (by lia))))
      .rcases fH.mp hd with hd|hd
       .exact hE d hd
       .exact J (az.mp hd) m2
      .rcases fH.mp hu with hu|hu
       .exact(hW' u hu).more
       .exact Lm Bs 0 (λi=>by exact J (wx _) X) u hu
theorem afh(l1:0<D1.length)(l2:0<D2.length)(k1:D1.length<=lim)(k2:D2.length<=lim)(N:gn.fn [.dict D1,.b (.str 0)]=f (.dict M1))(L:gn.fn [.dict D2,.b (.str 0)]=f (.dict M2)) :
  aD [3,4,5] c7.hd ([.list [.dict D1,.dict D2],.b (.str 0),.b (.int 200)]++bz 12)=f ([.list [.dict D1,.dict D2],.b (.str 0),.b (.int 200),.list [.dict M1,.dict M2]]++bz 11,.next):=by
 have d1:decide (0<(D1.length:G))=V:=bP (by lia);have d2:decide (0<(D2.length:G))=V:=bP (by lia);exact aB (bH (hc:=.list [.dict D1,.dict D2]) (Xs:=[.dict D1,.dict D2]) X X (UK (yn X ((cf (o:=.gt) (x:=(D1.length:G)) (y:=0) (rO (k:=.len) (Vs:=[.dict D1]) (eY X) (ai k1)) X).trans (by rw[cmpInt,d1])) (ar X (bE X X) N)) (yn X ((cf (o:=.gt) (x:=(D2.length:G)) (y:=0) (rO (k:=.len) (Vs:=[.dict D2]) (eY X) (ai k2)) X).trans (by rw[cmpInt,d2])) (ar X (bE X X) L))) (show(2:a_)<=lim by decide)) X
theorem afi(N:eP.fn [.dict M1,.b (.str 0)]=f (.b (.tup [x1,u1])))(L:eP.fn [.dict M2,.b (.str 0)]=f (.b (.tup [x2,u2]))) :
  aD [3,4,5] c7.tl.hd ([S0,.b (.str 0),.b (.int 200),.list [.dict M1,.dict M2]]++bz 11)=f ([S0,.b (.str 0),.b (.int 200),.list [.dict M1,.dict M2],.list [.b x1,.b x2]]++bz 10,.next):=
 aB (bH (hc:=.list [.dict M1,.dict M2]) (Xs:=[.dict M1,.dict M2]) X X (UK (fC (eK (A:=.b (.tup [x1,u1])) (I:=M' 0) (ar X (bE X X) N) X X)) (fC (eK (A:=.b (.tup [x2,u2])) (I:=M' 0) (ar X (bE X X) L) X X))) (show(2:a_)<=lim by decide)) X
theorem afj:aD [3,4,5] c7.tl.tl.hd ([S0,.b (.str 0),.b (.int 200),.list [x1,x2],.list [y1,y2]]++bz 10)=f ([S0,.b (.str 0),.b (.int 200),.list [x1,x2],.list [y1,y2],.list [.b (pT 0 1)]]++bz 9,.next):=by
 have e2:(2:a_)<=lim:=by decide
 have e1:(1:a_)<=lim:=by decide
 have r2:gZ 2=[.int 0,.int 1]:=X;have r1:gZ 1=[.int 0]:=X;have r0:gZ 0=[]:=X;kernel_rfl
theorem afk:aD [3,4,5] c7.tl.tl.tl.hd ([S0,.b (.str 0),.b (.int 200),ha,h2,W]++bz 9)=f ([S0,.b (.str 0),.b (.int 200),ha,h2,W,.b (.int 0)]++bz 8,.next):=by rfl
theorem Fb(h:A≠[]):0<(au A).length:=by cases A with|nil=>exact g_ X h|cons p A=>simp[dW]
theorem Hy(hf:jn 2 K')(hg:jn 2 g)(he:rE 2 K'=f e)(hd:rE 2 g=f d)(h:Ex 200 [e,d] [⟨eO e.l d.l,0,1⟩]=f Bs) :
  rJ.fn [.list [.dict (au K'),.dict (au g)],.b (.str 0),.b (.int 200)]=f (.list (Bs.map dP))/\(∀ e∈Bs,rS e)/\Bs.length<=1000:=by
 refine ib λGq zq=>?_;obtain⟨m1,m2,m3,n1,m4,m5⟩:=qt hf (by decide) he;obtain⟨k1,k2,k3,n2,k4,k5⟩:=qt hg (by decide) hd;refine zq ?_;clear zq;have hfn:K'≠[]:=by intro iC;clear hf m1 m4 m5;subst iC;exact nS he
 have hgn:g≠[]:=by intro j6;clear hg k1 k4 k5;subst j6;exact nS hd
 have s1:=afh (Fb hfn) (Fb hgn) (by exact J (cw _) hf.lim) (by exact J (cw _) hg.lim) m1 k1;have s2:=afi (S0:=.list [.dict (au K'),.dict (au g)]) (pR m2) (pR k2);have s3:=afj (S0:=.list [.dict (au K'),.dict (au g)]) (x1:=dP e) (x2:=dP d) (y1:=lP e) (y2:=lP d);have s4:=afk (S0:=.list [.dict (au K'),.dict (au g)]) (ha:=.list [dP e,dP d]) (h2:=.list [lP e,lP d]) (W:=.list [.b (pT 0 1)])
 have hE:∀ c∈[e,d],rS c:=λc U'=>by
  rcases aV.mp U' with eG|U'
  .clear he h m1 m3 m4 m5 s1 s2 s3 s4 U';subst eG;exact m2
  .exact J (az.mp U') k2
 obtain⟨L',W',dn',Fa,a8',N,L,h3⟩:=PA (S:=.list [.dict (au K'),.dict (au g)]) 200 [e,d] [⟨eO e.l d.l,0,1⟩] Bs 0 .any .any 100000 h hE (λw hw=>by
  refine J (az.mp hw) ?_
  exact⟨e,d,X,X,X⟩) (by decide) (by simp) (by simp) (by decide)
 refine⟨?_,L,h3⟩;have s5:aD [3,4,5] c7.tl.tl.tl.tl.hd ([.list [.dict (au K'),.dict (au g)],.b (.str 0),.b (.int 200),.list [dP e,dP d],.list [lP e,lP d],.list [.b (pT 0 1)],.b (.int 0)]++bz 8)=f (GS (.list [.dict (au K'),.dict (au g)]) (Bs.map dP) L' W' dn' Fa a8',.next):=N;have s6:aD [3,4,5] c7.tl.tl.tl.tl.tl (GS (.list [.dict (au K'),.dict (au g)]) (Bs.map dP) L' W' dn' Fa a8')=f (GS (.list [.dict (au K'),.dict (au g)]) (Bs.map dP) L' W' dn' Fa a8',.ret (.list (Bs.map dP))):=by dsimp only[c7,CS.tl,aD,ax,bf]
 exact aI (mu:=[3,4,5]) (np:=3) (more:=12) (ha:=c7) (as:=[.list [.dict (au K'),.dict (au g)],.b (.str 0),.b (.int 200)]) X ((ag s1).trans ((ag s2).trans ((ag s3).trans ((ag s4).trans ((ag s5).trans s6)))))
theorem Lp(U':sm c)(hL:∀ e∈Ls,sm e.l)(hl:Ls.length<=lim):gk.fn [.b (kT c),.list (Ls.map lP)]=f (.b (.bool (oJ c Ls))):=by
 have N:ax (.bq (.bc (aO cM (.glob "R1" (.tup [.int 1,.int 1])))) [2] .plain aS) [.b (kT c),.list (Ls.map lP),.any]=f (.list (Ls.map pQ)):=by refine bH (hc:=.list (Ls.map lP)) (Xs:=Ls.map lP) X X ?_ (by exact J (cz _) hl);exact eR (w:=pQ) Ls λe he=>fC (by dsimp only[ax,bM,bf,ig,allB])
 obtain⟨f0,f1⟩:=Js U' hL
 have key:∀{j:G},cR.fn [.b (kT c),.list (Ls.map pQ)]=f (.b (.int j))->gk.fn [.b (kT c),.list (Ls.map lP)]=f (.b (.bool (decide (0<=j)))):=fun {j} hj=>by
  have L:ax (eQ (aO bw (.bq (.bc (aO cM (.glob "R1" (.tup [.int 1,.int 1])))) [2] .plain aS))) [.b (kT c),.list (Ls.map lP),.any]=f (.b (.int j)):=by
   have h3:ax (aO bw (.bq (.bc (aO cM (.glob "R1" (.tup [.int 1,.int 1])))) [2] .plain aS)) [.b (kT c),.list (Ls.map lP),.any]=f (.tup [.b (kT c),.list (Ls.map pQ)]):=by exact J bX (J tY (J bX (J N X)))
   exact J rD (J h3 (J vS hj))
  refine aI (mu:=[]) (np:=2) (more:=1) (ha:=kM) (as:=[.b (kT c),.list (Ls.map lP)]) (M:=[.b (kT c),.list (Ls.map lP),.any]) X (eh ?_);have h4:ax (.cmp .ge (eQ (aO bw (.bq (.bc (aO cM (.glob "R1" (.tup [.int 1,.int 1])))) [2] .plain aS))) bC) [.b (kT c),.list (Ls.map lP),.any]=f (.b (.bool (decide (0<=j)))):=by refine J jw (J L ?_);rfl
  show aD [] (.ret (.cmp .ge (eQ (aO bw (.bq (.bc (aO cM (.glob "R1" (.tup [.int 1,.int 1])))) [2] .plain aS))) bC)) [.b (kT c),.list (Ls.map lP),.any]=_;dsimp only[aD];exact J h4 X
 have Xo:oJ c Ls=(kb c Ls).isSome:=by clear hL hl N f0 f1 key;induction Ls with|nil=>rfl|cons e Ls ih=>dsimp only[oJ,kb];cases pv e.l c with|true=>rfl|false=>exact ih
 refine J Xo ?_;cases hz:kb c Ls with|none=>exact J (key (f0 hz)) X|some e=>refine bZ (f1 e hz) λj O O h3=>?_;refine J (key h3) ?_;rfl
theorem Fc(c:a_):∀ A ha:d_ ZE,oJ c (A++ha)=(oJ c A||oJ c ha):=λw'=>by induction w' with|nil=>intro ha;exact X|cons e A ih=>intro ha;dsimp only[cons_append,oJ];cases pv e.l c with|true=>rfl|false=>exact ih ha
abbrev MB:CS:=cx.tl.tl.tl.hd.body
@[simp] theorem PV.list.injEq (a b):(PV.list a=PV.list b)=(a=b):=propext ⟨λh=>by cases h;rfl,λh=>h▸X⟩
theorem Fd{k:a_}(h:Z.length<=lim):Al (.list Z) (.b (.int (k:G)))=f (.list (Z.take k)):=by show(if Z.length<=lim then _ else _)=_;exact J (ai h) X
theorem Hz{k:a_}(h:Z.length<=lim):sK (.list Z) (.b (.int (k:G)))=f (.list (Z.drop k)):=by show(if Z.length<=lim then _ else _)=_;exact J (ai h) X
theorem PC(hs:Ls=P++e::r)(hE:∀ d∈Ls,sm d.l)(hl:Ls.length<=1000)(hK:K.length<=lim)(hEs:Es=Ls.map dP) :
  ∃ Fa,ct (aD [4] MB) [5,6] (.b (.tup [.int (P.length:G),kT e.l])) ([b0,.b (.str 0),.list Es,.list (Ls.map lP),.list K,a5,a6,a7]++bz 3) =
   f ([b0,.b (.str 0),.list Es,.list (Ls.map lP),.list (bif oJ e.l P||oJ e.l (r.filter λd:ZE=>!(f_ d.l e.l)) then K else K++[dP e]),.b (.int (P.length:G)),.b (kT e.l),Fa]++bz 3,.next):=by
 have Qs:(Ls.map lP).length<=lim:=by refine J (cz _) ?_;dsimp only[lim];lia
 have hlen:P.length+(r.length+1)<=1000:=by rw[hs]at hl;simp at hl;omega
 have t1:ax (.bR tE [8] .plain (.fu cD (.bin .add kc bQ)) (.cmp .ne tE lO)) ([b0,.b (.str 0),.list Es,.list (Ls.map lP),.list K,.b (.int (P.length:G)),.b (kT e.l),a7]++bz 3)=f (.list ((r.filter λd:ZE=>!(f_ d.l e.l)).map lP)):=by
  have u1:ax (.fu cD (.bin .add kc bQ)) ([b0,.b (.str 0),.list Es,.list (Ls.map lP),.list K,.b (.int (P.length:G)),.b (kT e.l),a7]++bz 3)=f (.list (r.map lP)):=by
   have:ax (.fu cD (.bin .add kc bQ)) ([b0,.b (.str 0),.list Es,.list (Ls.map lP),.list K,.b (.int (P.length:G)),.b (kT e.l),a7]++bz 3)=sK (.list (Ls.map lP)) (.b (.int ((P.length+1:a_):G))):=X
   refine J this (J (Hz Qs) (dT List.map_drop (J hs (J List.drop_append ?_))));simp
  refine bH (hc:=.list (r.map lP)) (Xs:=r.map lP) u1 X ?_ (by
   refine J (cz _) ?_
   have:=HZ (λd:ZE=>!(f_ d.l e.l)) r
   dsimp only[lim];lia)
  have:(r.filter λd:ZE=>!(f_ d.l e.l)).map lP=r.flatMap λd=>bif f_ d.l e.l then [] else [lP d]:=by clear hs hlen u1;induction r with|nil=>rfl|cons d r ih=>refine J C4 (dT ih (J U2 ?_));cases f_ d.l e.l<;>rfl
  refine J this (nA r λd hd=>?_);show(match (match nR .ne (.b (kT d.l)) (.b (kT e.l)) with|f r=>f (PV.b (.bool r))|R=>R) with|f (.b (.bool V))=>f [lP d]|f (.b (.bool N'))=>f []|_=>R)=_;show(match (match fy ⟨0,.nil⟩ .ne (kT d.l) (kT e.l) with|f r=>f (PV.b (.bool r))|R=>R) with|f (.b (.bool V))=>f [lP d]|f (.b (.bool N'))=>f []|_=>R)=_;refine J (ae6 d.l e.l) ?_;cases f_ d.l e.l<;>rfl
 have t2:ax (.gK cD kc) ([b0,.b (.str 0),.list Es,.list (Ls.map lP),.list K,.b (.int (P.length:G)),.b (kT e.l),a7]++bz 3)=f (.list (P.map lP)):=by
  have:ax (.gK cD kc) ([b0,.b (.str 0),.list Es,.list (Ls.map lP),.list K,.b (.int (P.length:G)),.b (kT e.l),a7]++bz 3)=Al (.list (Ls.map lP)) (.b (.int (P.length:G))):=X
  exact J this (J (Fd Qs) (dT Va (J hs (J List.take_left X))))
 have t3:aD [4] MB.hd ([b0,.b (.str 0),.list Es,.list (Ls.map lP),.list K,.b (.int (P.length:G)),.b (kT e.l),a7]++bz 3)=f ([b0,.b (.str 0),.list Es,.list (Ls.map lP),.list K,.b (.int (P.length:G)),.b (kT e.l),.list ((P++r.filter λd:ZE=>!(f_ d.l e.l)).map lP)]++bz 3,.next):=by
  refine aB (hc:=.list ((P++r.filter λd:ZE=>!(f_ d.l e.l)).map lP)) ?_ X;refine J m7 (J t2 (J t1 ?_));show(if _ then _ else _)=_
  rw[ai ⟨by rw[cz];dsimp only[lim];lia,by
   rw[cz]
   have:=HZ (λd:ZE=>!(f_ d.l e.l)) r
   dsimp only[lim];omega⟩,C6]
 have fD:e∈Ls:=by refine J hs ?_;simp
 have w0:∀ d∈P++r.filter (λd:ZE=>!(f_ d.l e.l)),sm d.l:=λd hd=>hE d (by
  refine J hs ?_;rcases fH.mp hd with hd|hd
  .exact uS _ hd
  .exact H0 _ (bg _ (Vb.mp hd).1))
 have t4:=Lp (hE e fD) w0 (by
  have:=HZ (λd:ZE=>!(f_ d.l e.l)) r
  refine J ou ?_;dsimp only[lim];lia)
 rw[Fc]at t4;refine⟨.list ((P++r.filter λd:ZE=>!(f_ d.l e.l)).map lP),?_⟩;refine J (X:ct (aD [4] MB) [5,6] (.b (.tup [.int (P.length:G),kT e.l])) ([b0,.b (.str 0),.list Es,.list (Ls.map lP),.list K,a5,a6,a7]++bz 3)=aD [4] MB ([b0,.b (.str 0),.list Es,.list (Ls.map lP),.list K,.b (.int (P.length:G)),.b (kT e.l),a7]++bz 3)) ?_;have afl:mv (.list Es) (.b (.int (P.length:G)))=f (dP e):=by show(if Es.length<=lim then Es[P.length]? else .none)=_;refine J (ai (by rw[hEs,cz];dsimp only[lim];lia)) (J hEs (J hs ?_));simp
 refine(ag (a:=MB.hd) (b:=MB.tl) t3).trans ?_
 cases hz:oJ e.l P||oJ e.l (r.filter λd:ZE=>!(f_ d.l e.l)) with
 |true=>
  rw[hz]at t4;dsimp only[kT,K3]at t4 ⊢
  have t5:aD [4] MB.tl.hd ([b0,.b (.str 0),.list Es,.list (Ls.map lP),.list K,.b (.int (P.length:G)),.b (kT e.l),.list ((P++r.filter λd:ZE=>!(f_ d.l e.l)).map lP)]++bz 3)=f ([b0,.b (.str 0),.list Es,.list (Ls.map lP),.list K,.b (.int (P.length:G)),.b (kT e.l),.list ((P++r.filter λd:ZE=>!(f_ d.l e.l)).map lP)]++bz 3,.next):=by
   show(match (match (match gk.fn [.b (kT e.l),.list ((P++r.filter λd:ZE=>!(f_ d.l e.l)).map lP)]with
    |f (.b (.bool b))=>f (PV.b (.bool (!b)))
    |_=>R) with|f (.b (.bool V))=>aD [4] (.seq (.append 4 (.idx cM kc)) .skip) ([b0,.b (.str 0),.list Es,.list (Ls.map lP),.list K,.b (.int (P.length:G)),.b (kT e.l),.list ((P++r.filter λd:ZE=>!(f_ d.l e.l)).map lP)]++bz 3)|f (.b (.bool N'))=>aD [4] .skip ([b0,.b (.str 0),.list Es,.list (Ls.map lP),.list K,.b (.int (P.length:G)),.b (kT e.l),.list ((P++r.filter λd:ZE=>!(f_ d.l e.l)).map lP)]++bz 3)|_=>R) with|r=>r)=_
   refine J t4 ?_;rfl
  exact(ag (a:=MB.tl.hd) t5).trans X
 |false=>
  rw[hz]at t4
  have t5:aD [4] MB.tl.hd ([b0,.b (.str 0),.list Es,.list (Ls.map lP),.list K,.b (.int (P.length:G)),.b (kT e.l),.list ((P++r.filter λd:ZE=>!(f_ d.l e.l)).map lP)]++bz 3)=f ([b0,.b (.str 0),.list Es,.list (Ls.map lP),.list (K++[dP e]),.b (.int (P.length:G)),.b (kT e.l),.list ((P++r.filter λd:ZE=>!(f_ d.l e.l)).map lP)]++bz 3,.next):=by
   have t6:aD [4] (.append 4 (.idx cM kc)) ([b0,.b (.str 0),.list Es,.list (Ls.map lP),.list K,.b (.int (P.length:G)),.b (kT e.l),.list ((P++r.filter λd:ZE=>!(f_ d.l e.l)).map lP)]++bz 3)=f ([b0,.b (.str 0),.list Es,.list (Ls.map lP),.list (K++[dP e]),.b (.int (P.length:G)),.b (kT e.l),.list ((P++r.filter λd:ZE=>!(f_ d.l e.l)).map lP)]++bz 3,.next):=by have u:ax (.idx cM kc) ([b0,.b (.str 0),.list Es,.list (Ls.map lP),.list K,.b (.int (P.length:G)),.b (kT e.l),.list ((P++r.filter λd:ZE=>!(f_ d.l e.l)).map lP)]++bz 3)=f (dP e):=afl;dsimp only[aD];refine J u ?_;show(if K.length<=lim then _ else _)=_;refine J (ai hK) ?_;rfl
   show(match (match gk.fn [.b (kT e.l),.list ((P++r.filter λd:ZE=>!(f_ d.l e.l)).map lP)]with
    |f (.b (.bool b))=>f (PV.b (.bool (!b)))
    |_=>R) with|f (.b (.bool V))=>aD [4] (.seq (.append 4 (.idx cM kc)) .skip) ([b0,.b (.str 0),.list Es,.list (Ls.map lP),.list K,.b (.int (P.length:G)),.b (kT e.l),.list ((P++r.filter λd:ZE=>!(f_ d.l e.l)).map lP)]++bz 3)|f (.b (.bool N'))=>aD [4] .skip ([b0,.b (.str 0),.list Es,.list (Ls.map lP),.list K,.b (.int (P.length:G)),.b (kT e.l),.list ((P++r.filter λd:ZE=>!(f_ d.l e.l)).map lP)]++bz 3)|_=>R)=_
   refine J t4 ?_;show aD [4] (.seq (.append 4 (.idx cM kc)) .skip) _=_;refine J (ag t6) ?_;rfl
  exact(ag (a:=MB.tl.hd) t5).trans X
theorem PD(hE:∀ d∈Ls,sm d.l)(hl:Ls.length<=1000):∀(r P:d_ ZE) (K:aC) (a5 a6 a7:PV),Ls=P++r->K.length<=P.length ->
  ∃ a5' AF Fa,dS (ct (aD [4] MB) [5,6]) (fA P.length (r.map lP)) ([b0,.b (.str 0),.list (Ls.map dP),.list (Ls.map lP),.list K,a5,a6,a7]++bz 3)=f ([b0,.b (.str 0),.list (Ls.map dP),.list (Ls.map lP),.list (K++(nV P r).map dP),a5',AF,Fa]++bz 3,.next):=by
 intro w';induction w' with|nil=>intro P K a5 a6 a7 O O;exact⟨a5,a6,a7,by simp[fA,dS,nV]⟩|cons e r IH=>
  intro P K a5 a6 a7 hs hK;have hlen:P.length+(r.length+1)<=1000:=by rw[hs]at hl;simp at hl;omega
  obtain⟨Fa,ht⟩:=PC (b0:=b0) (K:=K) hs hE hl (by dsimp only[lim];lia) X (a5:=a5) (a6:=a6) (a7:=a7);simp only[bW,hY,dS,ht];have Fy:Ls=(P++[e])++r:=by refine J hs ?_;simp
  have UO:(P++[e]).length=P.length+1:=by simp
  dsimp only[nV];cases hz:oJ e.l P||oJ e.l (r.filter λd:ZE=>!(f_ d.l e.l)) with|true=>(obtain⟨b5,b6,b7,ih⟩:=IH (P++[e]) K (.b (.int (P.length:G))) (.b (kT e.l)) Fa Fy (by lia);rw[UO]at ih;exact MI b5 b6 b7 ih)|false=>obtain⟨b5,b6,b7,ih⟩:=IH (P++[e]) (K++[dP e]) (.b (.int (P.length:G))) (.b (kT e.l)) Fa Fy (by simp;omega);rw[UO]at ih;refine MI b5 b6 b7 ?_;rw[U1]at ih;exact ih
theorem PE:∀{P r:d_ ZE} {e:ZE},e∈nV P r->e∈r:=by intro P w';induction w' generalizing P with|nil=>intro e h;dsimp only[nV]at h;simp at h|cons d r ih=>
  intro e h;dsimp only[nV]at h;revert h;cases q_:oJ d.l P||oJ d.l (r.filter λx=>!(f_ x.l d.l))<;>intro h;rotate_left
  .exact bg _ (ih h)
  .rcases aV.mp h with h|h
   .exact J h aQ
   .exact bg _ (ih h)
theorem rS.ne(h:rS e):0<(au e.p).length:=by refine eF (h.ld) λp r N O=>?_;refine J N ?_;simp[dW]
theorem Lq(hE:∀ e∈Ls,rS e)(hl:Ls.length<=1000):ki.fn [.list (Ls.map dP),.b (.str 0)]=f (.list ((nV [] Ls).map dP)):=by
 have oH:Ls.length<=lim:=by dsimp only[lim];lia
 have s1:aD [4] cx.hd ([.list (Ls.map dP),.b (.str 0)]++bz 9)=f ([.list (Ls.map dP),.b (.str 0),.list (Ls.map dP)]++bz 8,.next):=by refine aB (bH (hc:=.list (Ls.map dP)) (Xs:=Ls.map dP) (Ys:=Ls.map dP) X X ?_ (by exact J (cz _) oH)) X;refine eR (w:=dP) Ls λe he=>?_;have N:=(hE e he).ne;have L:(au e.p).length<=lim:=J (cw _) ((hE e he).ok.lim);have h3:decide (0<((au e.p).length:G))=V:=bP (by lia);exact yn X ((cf (o:=.gt) (x:=((au e.p).length:G)) (y:=0) (rO (k:=.len) (Vs:=[.dict (au e.p)]) (eY X) (ai L)) X).trans (by rw[cmpInt,h3])) X
 have s2:aD [4] cx.tl.hd ([.list (Ls.map dP),.b (.str 0),.list (Ls.map dP)]++bz 8)=f ([.list (Ls.map dP),.b (.str 0),.list (Ls.map dP),.list (Ls.map lP)]++bz 7,.next):=by refine aB (bH (hc:=.list (Ls.map dP)) (Xs:=Ls.map dP) (Ys:=Ls.map lP) X X ?_ (by exact J (cz _) oH)) X;refine eR (w:=lP) Ls λe he=>fC ?_;have N:ax (bN (aO yE aS)) (bM ([.list (Ls.map dP),.b (.str 0),.list (Ls.map dP)]++bz 8) 9 (dP e))=f (pQ e):=pR (hE e he);refine J m8 (J N ?_);rfl
 have s3:aD [4] cx.tl.tl.hd ([.list (Ls.map dP),.b (.str 0),.list (Ls.map dP),.list (Ls.map lP)]++bz 7)=f ([.list (Ls.map dP),.b (.str 0),.list (Ls.map dP),.list (Ls.map lP),.list []]++bz 6,.next):=X;refine Ii (PD (b0:=.list (Ls.map dP)) (Ls:=Ls) (λd hd=>(hE d hd).CR) hl Ls [] [] .any .any .any X (c9 _)) λa5 a6 a7 h4=>?_;have s4:aD [4] cx.tl.tl.tl.hd ([.list (Ls.map dP),.b (.str 0),.list (Ls.map dP),.list (Ls.map lP),.list []]++bz 6)=f ([.list (Ls.map dP),.b (.str 0),.list (Ls.map dP),.list (Ls.map lP),.list ((nV [] Ls).map dP),a5,a6,a7]++bz 3,.next):=by refine(jQ (i:=3) (ik:=.enum) (C':=[5,6]) (b:=MB) (Z:=fA 0 (Ls.map lP)) X X X).trans ?_;rw[C7]at h4;exact h4
 have s5:aD [4] cx.tl.tl.tl.tl ([.list (Ls.map dP),.b (.str 0),.list (Ls.map dP),.list (Ls.map lP),.list ((nV [] Ls).map dP),a5,a6,a7]++bz 3)=f ([.list (Ls.map dP),.b (.str 0),.list (Ls.map dP),.list (Ls.map lP),.list ((nV [] Ls).map dP),a5,a6,a7]++bz 3,.ret (.list ((nV [] Ls).map dP))):=X;exact aI (mu:=[4]) (np:=2) (more:=9) (ha:=cx) (as:=[.list (Ls.map dP),.b (.str 0)]) X ((ag s1).trans ((ag s2).trans ((ag s3).trans ((ag s4).trans s5))))
abbrev kV(e:ZE)(i:a_):AV:=.tup [kT e.l,.int (i:G)]
def zA:a_->d_ ZE->al|O,[]=>[]|i,e::r=>kV e i::zA (i+1) r
theorem Jv:∀(Ms:d_ ZE) (i:a_),(zA i Ms).length=Ms.length:=λw'=>by induction w' with|nil=>intro O;exact X|cons e Ms ih=>intro i;dsimp only[zA];simp[ih]
theorem AH:∀(Ms:d_ ZE) (i:a_),Ms≠[]->B0 Ms=V->xb (zA i Ms)=V|[],O,h,O'=>g_ X h|[e],i,O,O'=>X|e::d::r,i,O,h=>by revert h;refine q7 (λiE h=>?_);have iE:d.l<e.l:=iB iE;have ih:=AH (d::r) (i+1) (by simp) h;show((match fq 3 (kT d.l) (kT e.l),kY N' 3 (kT d.l) (kT e.l) with|f N',f V=>V|_,_=>N')&&xb (zA (i+1) (d::r)))=V;refine J (abw _ _) (J (ae5 _ _) (J (La (by lia)) (J (bP iE) (J ih ?_))));rfl
theorem SW:∀(Ms:d_ ZE) (i:a_),sy (zA i Ms)=V:=λw'=>by induction w' with|nil=>intro O;exact X|cons e Ms ih=>intro i;exact ih (i+1)
theorem Lr:∀(Ms:d_ ZE) (i:a_),(∀ e∈Ms,rS e) ->
  lz (Eg (ax (.bc (aO (d7 (aO aS (.idx (bN (aO tE aS)) bC))) rV))) [7,8] [x0,.b (.str 0),.list K0,a3,a4,a5,a6,.any,.any]) (fA i (Ms.map dP))=f ((zA i Ms).map .b):=by
 intro w';induction w' with|nil=>intro i O;exact X|cons e Ms ih=>
  intro i h;have hl:=pR (h e aQ);have hk:d6.fn [.b (.str 0),.b (kT e.l)]=f (.b (kT e.l)):=j2 _ (by intro h;cases h)
  have N:Eg (ax (.bc (aO (d7 (aO aS (.idx (bN (aO tE aS)) bC))) rV))) [7,8] [x0,.b (.str 0),.list K0,a3,a4,a5,a6,.any,.any] (.tup [.b (.int (i:G)),dP e])=f [.b (kV e i)]:=by
   have g1:ax (bN (aO tE aS)) [x0,.b (.str 0),.list K0,a3,a4,a5,a6,.b (.int (i:G)),dP e]=f (pQ e):=hl;have g2:ax (.idx (bN (aO tE aS)) bC) [x0,.b (.str 0),.list K0,a3,a4,a5,a6,.b (.int (i:G)),dP e]=f (.b (kT e.l)):=by exact J m8 (J g1 X)
   have g3:ax (d7 (aO aS (.idx (bN (aO tE aS)) bC))) [x0,.b (.str 0),.list K0,a3,a4,a5,a6,.b (.int (i:G)),dP e]=f (.b (kT e.l)):=by
    refine J rD (J dv ?_)
    show(match ax (aO aS (.idx (bN (aO tE aS)) bC)) [x0,.b (.str 0),.list K0,a3,a4,a5,a6,.b (.int (i:G)),dP e]with
     |f (.tup Z)=>d6.fn Z
     |_=>R)=_
    have g4:ax (aO aS (.idx (bN (aO tE aS)) bC)) [x0,.b (.str 0),.list K0,a3,a4,a5,a6,.b (.int (i:G)),dP e]=f (.tup [.b (.str 0),.b (kT e.l)]):=by
     first|exact bE X g2|(rw[bX,tY,bX,g2];rfl)
    exact J g4 hk
   have g5:ax (aO (d7 (aO aS (.idx (bN (aO tE aS)) bC))) rV) [x0,.b (.str 0),.list K0,a3,a4,a5,a6,.b (.int (i:G)),dP e]=f (.tup [.b (kT e.l),.b (.int (i:G))]):=by exact J bX (J g3 X)
   show(match ax (.bc (aO (d7 (aO aS (.idx (bN (aO tE aS)) bC))) rV)) [x0,.b (.str 0),.list K0,a3,a4,a5,a6,.b (.int (i:G)),dP e]with
    |f y=>f [y]
    |R=>R)=_
   refine J fe (J g5 ?_);rfl
  have L:fA i ((e::Ms).map dP)=.tup [.b (.int (i:G)),dP e]::fA (i+1) (Ms.map dP):=X;refine J L ?_;dsimp only[lz];refine J N ?_;refine J (ih (i+1) λd hd=>h d (bg _ hd)) ?_;rfl
abbrev RB:CS:=cv.tl.tl.tl.tl.hd.body
theorem PF{x0:PV}{Ms:d_ ZE}(hM:∀ e∈Ms,rS e)(hl:Ms.length<=1000):∀(r:d_ (ZE × a_)) (Ds wg:d_ ZE) (a5 a6:PV),(∀ p∈r,Ms[p.2]?=f p.1)->GG (r.map (·.1)) Ds=f wg->(∀ e∈Ds,rS e)->Ds.length+r.length<=1000 ->
  ∃ a5' AF,dS (ct (aD [3,4] RB) [5,6]) (r.map λp=>.b (kV p.1 p.2)) [x0,.b (.str 0),.list (Ms.map dP),.any,.list (Ds.map dP),a5,a6,.any,.any]=f ([x0,.b (.str 0),.list (Ms.map dP),.any,.list (wg.map dP),a5',AF,.any,.any],.next)/\∀ e∈wg,rS e:=by
 intro w';induction w' with|nil=>(intro Ds wg a5 a6 O h hD O;refine MC λGq kq=>?_;obtain rfl:=aw h;exact kq a5 a6 X hD)|cons p r ih=>
  intro Ds wg a5 a6 hr h hD hlen;refine MC λGq kq=>?_;have hp:=hr p aQ;have hpE:=hM p.1 (dX hp);simp only[fE]at hlen
  (conv at h=>lhs;whnf)
  revert h;refine zsP (λb iv hR h=>?_);revert h;refine XA (λd hd h=>ib λGq zq=>dH (Pr hpE.ok hpE.bd hD (by lia) hR) λr1 r2 r3=>?_);obtain⟨m1,m2,m3,n,m4,m5⟩:=qt r2 r3 hd;refine zq ?_;clear zq
  have ht:ct (aD [3,4] RB) [5,6] (.b (kV p.1 p.2)) [x0,.b (.str 0),.list (Ms.map dP),.any,.list (Ds.map dP),a5,a6,.any,.any]=f ([x0,.b (.str 0),.list (Ms.map dP),.any,.list ((Ds++[d]).map dP),.b (kT p.1.l),.b (.int (p.2:G)),.any,.any],.next):=by
   have g1:ax (.idx cM lO) [x0,.b (.str 0),.list (Ms.map dP),.any,.list (Ds.map dP),.b (kT p.1.l),.b (.int (p.2:G)),.any,.any]=f (dP p.1):=by show(if (Ms.map dP).length<=lim then(Ms.map dP)[p.2]? else .none)=_;refine J (ai (by rw[cz];dsimp only[lim];lia)) (J mL (J hp ?_));rfl
   have g2:ax (hF (iD (.idx cM lO) jg aS)) [x0,.b (.str 0),.list (Ms.map dP),.any,.list (Ds.map dP),.b (kT p.1.l),.b (.int (p.2:G)),.any,.any]=f (.dict (au iv)):=by
    have g3:ax (iD (.idx cM lO) jg aS) [x0,.b (.str 0),.list (Ms.map dP),.any,.list (Ds.map dP),.b (kT p.1.l),.b (.int (p.2:G)),.any,.any]=f (.tup [dP p.1,.list (Ds.map dP),.b (.str 0)]):=by exact J bX (J g1 X)
    exact ar X g3 r1
   have g4:ax (fS (aO (hF (iD (.idx cM lO) jg aS)) aS)) [x0,.b (.str 0),.list (Ms.map dP),.any,.list (Ds.map dP),.b (kT p.1.l),.b (.int (p.2:G)),.any,.any]=f (dP d):=by
    have g5:ax (aO (hF (iD (.idx cM lO) jg aS)) aS) [x0,.b (.str 0),.list (Ms.map dP),.any,.list (Ds.map dP),.b (kT p.1.l),.b (.int (p.2:G)),.any,.any]=f (.tup [.dict (au iv),.b (.str 0)]):=by exact J bX (J g2 X)
    exact ar X g5 m1
   show aD [3,4] (.seq (.append 4 (fS (aO (hF (iD (.idx cM lO) jg aS)) aS))) .skip) [x0,.b (.str 0),.list (Ms.map dP),.any,.list (Ds.map dP),.b (kT p.1.l),.b (.int (p.2:G)),.any,.any]=_;have g6:aD [3,4] (.append 4 (fS (aO (hF (iD (.idx cM lO) jg aS)) aS))) [x0,.b (.str 0),.list (Ms.map dP),.any,.list (Ds.map dP),.b (kT p.1.l),.b (.int (p.2:G)),.any,.any]=f ([x0,.b (.str 0),.list (Ms.map dP),.any,.list ((Ds++[d]).map dP),.b (kT p.1.l),.b (.int (p.2:G)),.any,.any],.next):=by dsimp only[aD];refine J g4 ?_;show(if (Ds.map dP).length<=lim then _ else _)=_;refine J (ai (by rw[cz];dsimp only[lim];lia)) ?_;dsimp only[bM];simp
   refine J (ag g6) ?_;rfl
  obtain⟨a5',AF,ih1,ih2⟩:=ih (Ds++[d]) wg (.b (kT p.1.l)) (.b (.int (p.2:G))) (λq hq=>hr q (bg _ hq)) h (λc U'=>by
   rcases fH.mp U' with U'|U'
   .exact hD c U'
   .exact J (az.mp U') m2) (by simp;lia)
  refine kq a5' AF ?_ ih2;refine J bW ?_;rw[dS];refine J ht ?_;exact ih1
noncomputable def qV:a_->d_ ZE->d_ (ZE × a_)|O,[]=>[]|i,e::r=>(e,i)::qV (i+1) r
theorem PG:∀(Ms:d_ ZE) (i:a_),zA i Ms=(qV i Ms).map λp=>kV p.1 p.2:=λw'=>by induction w' with|nil=>intro O;exact X|cons e Ms ih=>intro i;dsimp only[zA,qV];exact J (ih _) X
theorem AI:∀(Ms:d_ ZE) (i:a_),(qV i Ms).map (·.1)=Ms:=λw'=>by induction w' with|nil=>intro O;exact X|cons e Ms ih=>intro i;exact J bW (J (ih _) X)
theorem PH:∀(Ms Ns:d_ ZE),∀ p∈qV Ns.length Ms,(Ns++Ms)[p.2]?=f p.1:=λw'=>by induction w' with|nil=>intro Ns p h;dsimp only[qV]at h;simp at h|cons e Ms ih=>
  intro Ns p h;dsimp only[qV]at h;rw[aV]at h;rcases h with eG|h
  .subst eG;simp
  .have:=ih (Ns++[e]) p (by exact J ou h)
   rw[U1]at this;exact this
theorem Lu{Bs Ds:d_ ZE}(hE:∀ e∈Bs,rS e)(hl:Bs.length<=1000)(hf:B0 (nV [] Bs)=V)(L:2<=(nV [] Bs).length)(h64:(nV [] Bs).length<64)(h:GG (nV [] Bs).reverse []=f Ds) :
  lE.fn [.list (Bs.map dP),.b (.str 0)]=f (.list (Ds.map dP))/\∀ e∈Ds,rS e:=by
 have hm:=Lq hE hl;generalize hMs:nV [] Bs=Ms at *;have hM:∀ e∈Ms,rS e:=λe he=>hE e (PE (hMs▸he));have s1:aD [3,4] cv.hd ([.list (Bs.map dP),.b (.str 0)]++bz 7)=f ([.list (Bs.map dP),.b (.str 0),.list (Ms.map dP)]++bz 6,.next):=by refine aB (hc:=.list (Ms.map dP)) ?_ X;exact hm
 have s2:aD [3,4] cv.tl.hd ([.list (Bs.map dP),.b (.str 0),.list (Ms.map dP)]++bz 6)=f ([.list (Bs.map dP),.b (.str 0),.list (Ms.map dP),.list ((zA 0 Ms).map .b)]++bz 5,.next):=by refine aB (bH (hc:=.list (Ms.map dP)) (Xs:=fA 0 (Ms.map dP)) (Ys:=(zA 0 Ms).map .b) X X (Lr Ms 0 hM) (by refine J (cz _) (J (Jv _ _) ?_);dsimp only[lim];lia)) ?_;rfl
 have s3:aD [3,4] cv.tl.tl.hd ([.list (Bs.map dP),.b (.str 0),.list (Ms.map dP),.list ((zA 0 Ms).map .b)]++bz 5)=f ([.list (Bs.map dP),.b (.str 0),.list (Ms.map dP),.list ((zA 0 Ms).map PV.b).reverse]++bz 5,.next):=by
  have:Ei (.list ((zA 0 Ms).map .b))=f (.list ((zA 0 Ms).map PV.b).reverse):=by dsimp only[Ei];simp only[i8,Jv,SW,AH Ms 0 (by intro q;rw[q]at L;exact g_ L (by decide)) hf,YS];exact ai ⟨L,h64⟩
  show lA ([.list (Bs.map dP),.b (.str 0),.list (Ms.map dP),.list ((zA 0 Ms).map .b)]++bz 5) 3 (Ei (.list ((zA 0 Ms).map .b)))=_;refine J this ?_;rfl
 have s4:aD [3,4] cv.tl.tl.tl.hd ([.list (Bs.map dP),.b (.str 0),.list (Ms.map dP),.list ((zA 0 Ms).map PV.b).reverse]++bz 5)=f ([.list (Bs.map dP),.b (.str 0),.list (Ms.map dP),.list ((zA 0 Ms).map PV.b).reverse,.list []]++bz 4,.next):=X
 obtain⟨a5,a6,k1,k2⟩:=PF (x0:=.list (Bs.map dP)) hM (by lia) (qV 0 Ms).reverse [] Ds .any .any (λp hp=>PH Ms [] p (List.mem_reverse.mp hp)) (by exact J U9 (J (AI _ _) h)) (λO q=>g_ q gx) (by
  have:(qV 0 Ms).length=Ms.length:=by(exact dT (cz (f:=λp:ZE × a_=>p.1)) (J (AI _ _) X))
  refine J uR (J this (J uQ ?_));lia)
 have s5:aD [3,4] cv.tl.tl.tl.tl.hd ([.list (Bs.map dP),.b (.str 0),.list (Ms.map dP),.list ((zA 0 Ms).map PV.b).reverse,.list []]++bz 4)=f ([.list (Bs.map dP),.b (.str 0),.list (Ms.map dP),.any,.list (Ds.map dP),a5,a6,.any,.any],.next):=by
  have hx:((zA 0 Ms).map PV.b).reverse=(qV 0 Ms).reverse.map λp=>PV.b (kV p.1 p.2):=by exact J (PG _ _) (J fG (J U9 X))
  exact J hx k1
 have s6:aD [3,4] cv.tl.tl.tl.tl.tl [.list (Bs.map dP),.b (.str 0),.list (Ms.map dP),.any,.list (Ds.map dP),a5,a6,.any,.any]=f ([.list (Bs.map dP),.b (.str 0),.list (Ms.map dP),.any,.list (Ds.map dP),a5,a6,.any,.any],.ret (.list (Ds.map dP))):=X;exact⟨aI (mu:=[3,4]) (np:=2) (more:=7) (ha:=cv) (as:=[.list (Bs.map dP),.b (.str 0)]) X ((ag s1).trans ((ag s2).trans ((ag s3).trans ((ag s4).trans ((ag s5).trans s6))))),k2⟩
theorem Fe{α:Type}(K':α->e_):∀ l:d_ α,boolsOf (l.map λx=>.bool (K' x))=f (l.map K'):=λw'=>by induction w' with|nil=>exact X|cons x l ih=>dsimp only[D_,boolsOf];exact J ih X
theorem Yc(h:rS e):n7.fn [dP e,.b (.int 1)]=f (.b (.bool (e.p.all λp=>t_ p.1 256))):=by
 have hl:e.p.length<=lim:=h.ok.lim
 have N:ax (.bq (.cmp .eq (.bi .sum (bx (.gK cM aS))) bC) [2] .plain bw) [dP e,.b (.int 1),.any]=f (.list ((e.p.map λp=>AV.bool (t_ p.1 256)).map .b)):=by
  refine J fG (bH (hc:=dP e) (Xs:=e.p.map λp=>.b (kT p.1)) X (by(dsimp only[Ef];exact J (qp _) X)) ?_ (by exact J (cz _) hl));refine eR (w:=λp:a_ × G=>.b (.bool (t_ p.1 256))) _ λp hp=>fC ?_
  have g:t_ p.1 256=decide ((0:G)+((p.1/256:a_):G)=0):=by
   unfold t_;refine J (CB _ _) ?_;by_cases q:p.1<256
   .exact J (bP (show p.1.succ<=256 by assumption)) (J (bP (by lia)) X)
   .exact J (bT (show ¬ p.1.succ<=256 by assumption)) (J (bT (by lia)) X)
  refine J g ?_;rfl
 have L:ax (.bi .all (bx (.bq (.cmp .eq (.bi .sum (bx (.gK cM aS))) bC) [2] .plain bw))) [dP e,.b (.int 1),.any]=f (.b (.bool (e.p.all λp=>t_ p.1 256))):=by
  have h3:ax (bx (.bq (.cmp .eq (.bi .sum (bx (.gK cM aS))) bC) [2] .plain bw)) [dP e,.b (.int 1),.any]=f (.tup [.list ((e.p.map λp=>AV.bool (t_ p.1 256)).map .b)]):=by exact J bX (J N X)
  refine J jY (J h3 ?_);(dsimp only[tC,nT];(refine J (i8 _) ?_;try dsimp only;refine J (Fe _ _) ?_;try dsimp only;refine J List.all_map ?_;try dsimp only));rfl
 refine aI (mu:=[]) (np:=2) (more:=1) (ha:=kO) (as:=[dP e,.b (.int 1)]) (M:=[dP e,.b (.int 1),.any]) X (eh ?_);show aD [] (.ret (.bi .all (bx (.bq (.cmp .eq (.bi .sum (bx (.gK cM aS))) bC) [2] .plain bw)))) [dP e,.b (.int 1),.any]=_;dsimp only[aD];exact J L X
theorem Yd(hf:jn 2 K')(hg:jn 2 g)(h:Au K' g=f Ds):l8.fn [.list [.dict (au K'),.dict (au g)],.b (.int 1),.b (.int 200)]=f (.list (Ds.map dP))/\∀ e∈Ds,rS e:=by
 delta Au at h;revert h;refine XA (λe he h=>?_);revert h;refine XA (λd hd h=>?_);revert h;refine zsL (λBs hB h=>dH (Hy hf hg he hd hB) λg1 g2 g3=>?_);simp -iota only  at h;revert h;refine gg nS λU' h=>?_;simp only[jc]at U';revert h;refine zsL (λwg hD h=>?_);cases h;obtain⟨r1,r2⟩:=Lu g2 g3 U'.1 (iB U'.2.1) (iB U'.2.2) hD
 have hb:km.fn [.list [.dict (au K'),.dict (au g)],.b (.str 0),.b (.int 200)]=f (.list (wg.map dP)):=by
  have N:ax (j1 (iD bw aS cM)) [.list [.dict (au K'),.dict (au g)],.b (.str 0),.b (.int 200)]=f (.list (Bs.map dP)):=g1
  have L:ax (kj (aO (j1 (iD bw aS cM)) aS)) [.list [.dict (au K'),.dict (au g)],.b (.str 0),.b (.int 200)]=f (.list (wg.map dP)):=by
   have h3:ax (aO (j1 (iD bw aS cM)) aS) [.list [.dict (au K'),.dict (au g)],.b (.str 0),.b (.int 200)]=f (.tup [.list (Bs.map dP),.b (.str 0)]):=by exact J bX (J N X)
   exact ar X h3 r1
  refine aI (mu:=[]) (np:=3) (more:=0) (ha:=gY) (as:=[.list [.dict (au K'),.dict (au g)],.b (.str 0),.b (.int 200)]) (M:=[.list [.dict (au K'),.dict (au g)],.b (.str 0),.b (.int 200)]) X (eh ?_);show aD [] (.ret (kj (aO (j1 (iD bw aS cM)) aS))) [.list [.dict (au K'),.dict (au g)],.b (.str 0),.b (.int 200)]=_;dsimp only[aD];exact J L X
 have WG:wg.length<=1000:=by
  have:∀(r Ds wg:d_ ZE),GG r Ds=f wg->wg.length=Ds.length+r.length:=by intro r;induction r with|nil=>intro Ds wg h;(dsimp only[GG]at h;rw[dQ]at h);exact J h X|cons e r ih=>intro Ds wg h;dsimp only[GG]at h;revert h;refine zsP (λO O O=>XA (λO O h=>?_));refine J (ih _ _ h) ?_;simp;lia
  have N:=this _ _ _ hD;have L:=iB U'.2.2;rw[uR,uQ]at N;lia
 refine⟨?_,λc hcm=>r2 c (Vb.mp hcm).1⟩
 have h4:ax (.bR cD [3] .plain (jF (iD bw (.k (.str 0)) cM)) (gP (aO cD aS))) [.list [.dict (au K'),.dict (au g)],.b (.int 1),.b (.int 200),.any]=f (.list ((wg.filter λe:ZE=>e.p.all λp=>t_ p.1 256).map dP)):=by
  refine bH (hc:=.list (wg.map dP)) (Xs:=wg.map dP) hb X ?_ (by
   refine J (cz _) ?_
   have:=HZ (λe:ZE=>e.p.all λp=>t_ p.1 256) wg
   dsimp only[lim];lia)
  have:(wg.filter λe:ZE=>e.p.all λp=>t_ p.1 256).map dP=wg.flatMap λe=>bif (e.p.all λp=>t_ p.1 256) then [dP e] else []:=by clear hD r1 r2 hb WG;induction wg with|nil=>rfl|cons c wg ih=>refine J U2 (J C4 (dT ih ?_));cases (c.p.all λp=>t_ p.1 256)<;>rfl
  refine J this (nA wg λc hcm=>?_);have UA:=Yc (r2 c hcm);have h5:ax (gP (aO cD aS)) [.list [.dict (au K'),.dict (au g)],.b (.int 1),.b (.int 200),dP c]=f (.b (.bool (c.p.all λp=>t_ p.1 256))):=UA
  show(match ax (gP (aO cD aS)) [.list [.dict (au K'),.dict (au g)],.b (.int 1),.b (.int 200),dP c]with
   |f (.b (.bool V))=>f [dP c]
   |f (.b (.bool N'))=>f []
   |_=>R)=_
  refine J h5 ?_;cases (c.p.all λp=>t_ p.1 256)<;>rfl
 refine aI (mu:=[]) (np:=3) (more:=1) (ha:=l7) (as:=[.list [.dict (au K'),.dict (au g)],.b (.int 1),.b (.int 200)]) (M:=[.list [.dict (au K'),.dict (au g)],.b (.int 1),.b (.int 200),.any]) X (eh ?_);show aD [] (.ret (.bR cD [3] .plain (jF (iD bw (.k (.str 0)) cM)) (gP (aO cD aS)))) [.list [.dict (au K'),.dict (au g)],.b (.int 1),.b (.int 200),.any]=_;dsimp only[aD];exact J h4 X
end Mine.Internal
end
section
namespace Mine.Internal
noncomputable def FD (n:G):e_:=k_ n.natAbs 1000000000
def HA:aA->e_|[]=>V|x::r=>match FD x with|V=>HA r|N'=>N'
def cT:aA->aA|[]=>[]|x::r=>match cT r with|[]=>(match zm x with|V=>[]|N'=>[x])|y::s=>x::y::s
noncomputable def YL:G->G->G|.ofNat m,.ofNat n=>Q? m n|.ofNat m,.negSucc n=>.ofNat (b? (r_ m n))|.negSucc m,.ofNat n=>.negSucc (r_ m n)|.negSucc m,.negSucc n=>Q? n m
def yp:aA->aA->aA|r,[]=>r|[],y::b=>L? y::yp [] b|x::r,y::b=>YL x y::yp r b
def jI:a_->aA->aA->aA|0,r,b=>yp r b|n+1,[],b=>0::jI n [] b|n+1,x::r,b=>x::jI n r b
noncomputable def Jw (k:G):aA->aA|[]=>[]|x::r=>Int.mul x k::Jw k r
noncomputable def PI:G->e_|.ofNat n=>f_ n 1|_=>N'
def CC(p:aA)(k:G):af (aA):=match HA p with|N'=>R|V=>match PI k with|V=>f p|N'=>match zm k with|V=>R|N'=>match FD k with|V=>f (Jw k p)|N'=>R
noncomputable def dO:aA->G->G|[],d=>d|x::r,O=>dO r x
def Ye(first:G)(b:aA)(lb:a_):a_->aA->a_->a_->af (aA × a_)|0,O,O',O''=>R|m+1,D',fb,left=>match k_ lb D'.length with|N'=>(match zbd fb with|V=>f (D',left)|N'=>R)|V=>match left with|0=>R|left+1=>match zbd fb with|N'=>R|V=>match CC D' first with|R=>R|f r1=>match CC b (dO D' 0) with|R=>R|f b1=>Ye first b lb m (cT (jI (Y_ D'.length lb) r1 b1)) (r_ (z? fb first.natAbs) (dO D' 0).natAbs) left
def UP(a b:aA):af (aA):=match Ye (dO b 0) b b.length 10 a 0 (r_ (Y_ a.length b.length) 1) with|R=>R|f (D',left)=>match FD (dO b 0) with|N'=>R|V=>match left with|0=>(match HA D' with|V=>f D'|N'=>R)|_=>match FD ((dO b 0)^left) with|N'=>R|V=>match CC D' ((dO b 0)^left) with|R=>R|f r=>match HA r with|V=>f r|N'=>R
def j3(n:G)(p:aA):aA:=match PI n with|V=>p|N'=>p.map λx=>Int.fdiv x n
noncomputable def jo (n:a_):e_:=f_ (q? n 2) 0
def CD:a_->aA->aA->G->G->G->af G|0,O,O',O'',O''',O''''=>R|m+1,a,b,sign,g,h=>match b with|[]=>f 0|[b0]=>(match a.length with|0=>R|1=>R|k+2=>match FD b0&&(FD h&&(FD (h^k)&&(!(zm (h^k))&&FD sign))) with|N'=>R|V=>match Int.fdiv (b0^(k+1)) (h^k) with|r=>match k_ r.natAbs 1000000000000000000 with|V=>f (Int.mul sign r)|N'=>R)|b=>match k_ b.length a.length with|N'=>R|V=>match Y_ a.length b.length with|gap=>match (match jo a.length&&jo b.length with|V=>L? sign|N'=>sign) with|iA=>match UP a b with|R=>R|f D'=>match h^gap with|hg=>match FD g&&(FD h&&FD hg) with|N'=>R|V=>match Int.mul g hg with|n=>match FD n&&!(zm n) with|N'=>R|V=>match dO b 0 with|g'=>match gap with|0=>CD m b (j3 n D') iA g' h|k+1=>match FD g'&&(FD (h^k)&&!(zm (h^k))) with|N'=>R|V=>CD m b (j3 n D') iA g' (Int.fdiv (g'^(k+1)) (h^k))
noncomputable def AJ:aA->a_->a_|[],g=>g|x::r,g=>AJ r (r? g x.natAbs)
noncomputable def PJ:aA->e_|[]=>V|x::r=>match k_ x.natAbs 90000 with|V=>PJ r|N'=>N'
def PK(p:aA):e_:=match PJ p with|V=>f_ (AJ p 0) 1|N'=>N'
noncomputable def SX (r:af G):af G:=match r with|R=>R|f r=>match k_ r.natAbs 1000000000000000000 with|V=>f r|N'=>R
def Lv(a b:aA):af G:=match PK a&&PK b with|N'=>R|V=>match t_ a.length b.length with|V=>SX (CD 10 b a (match jo a.length&&jo b.length with|V=>-1|N'=>1) 1 1)|N'=>SX (CD 10 a b 1 1 1)
end Mine.Internal
end
section
open PySem
namespace Mine.Internal
abbrev il(l:aA):PV:=.list (l.map M')
theorem i9(l:aA):(l.map M').length=l.length:=cz _
theorem yq(x:G):∀ l:aA,cT (l++[x])=if x=0 then cT l else l++[x]:=λw'=>by
 induction w' with
 |nil=>
  dsimp only[nil_append,cT,fB];refine J (fB _) ?_;by_cases h:x=0
  .simp[h]
  .simp[h]
 |cons y l ih=>
  dsimp only[cons_append,cT,ih];refine J ih ?_;by_cases h:x=0
  .simp -iota [h]
  .simp -iota only [ak h];(clear ih;cases l)<;>rfl
theorem Yg(hl:l.length<=lim)(h:mv (il l) (M' (k-1))=f (M' v)):ax i7.tl.hd.test [il l,M' k]=f (.b (.bool (decide (0<k)&&decide (v=0)))):=by
 by_cases hk:0<k
 .have L:ax (.idx bw (.bin .sub aS bQ)) [il l,M' k]=f (M' v):=h;show(match (f (PV.b (.bool (decide (0<k)))):ft) with|f (.b (.bool V))=>ax (.cmp .eq (.idx bw (.bin .sub aS bQ)) bC) [il l,M' k]|f (.b (.bool N'))=>f (.b (.bool N'))|_=>R)=_;refine J (bP hk) ?_;refine J jw (J L ?_);rfl
 .show(match (f (PV.b (.bool (decide (0<k)))):ft) with|f (.b (.bool V))=>ax (.cmp .eq (.idx bw (.bin .sub aS bQ)) bC) [il l,M' k]|f (.b (.bool N'))=>f (.b (.bool N'))|_=>R)=_;refine J (bT hk) ?_;rfl
theorem CF(hl:l.length<=lim)(k:a_):mv (il l) (M' (k:G))=(l[k]?).map M':=by show(if (l.map M').length<=lim then(l.map M')[k]? else .none)=_;exact J (ai (by rw[i9];exact hl)) (J mL X)
theorem AK(hl:l.length<=lim):∀(k h1:a_),k<=l.length->k<h1->∃ k':a_,k'<=k/\fc (ax i7.tl.hd.test) (aD [] i7.tl.hd.body) h1 [il l,M' (k:G)]=f ([il l,M' (k':G)],.next)/\l.take k'=cT (l.take k)
 |0,h1+1,O,O'=>⟨0,c9 _,by dsimp only[fc];rfl,X⟩
 |k+1,h1+1,hk,hN=>by
  have hx:l[k]?=f l[k]:=lL ‹_›;have hi:mv (il l) (M' (((k+1:a_):G)-1))=f (M' l[k]):=by exact J (show((k+1:a_):G)-1=(k:G) from by simp) (J (CF hl _) (J hx X))
  have hT:=Yg hl hi;rw[bP (show(0:G)<((k+1:a_):G) by simp),Bool.true_and]at hT;have htk:l.take (k+1)=l.take k++[l[k]]:=J List.take_add_one (J hx X);dsimp only[fc];refine J hT (J htk (J (yq _ _) ?_));by_cases h0:l[k]=0
  .refine J (bP h0) (J (ai h0) ?_);refine bZ (AK hl k h1 (by exact kF ‹_›) (by lia)) λk' N L h3=>kB k' (by lia) ?_ h3;have hb:aD [] i7.tl.hd.body [il l,M' ((k+1:a_):G)]=f ([il l,M' (k:G)],.next):=by show f ([il l,M' (((k+1:a_):G)-1)],kS.next)=_;exact J (show((k+1:a_):G)-1=(k:G) from by simp) X
   exact J hb L
  .refine(bT h0).symm▸?_;refine(ak h0).symm▸?_;exact kB (k+1) (c9 _) X htk
theorem SY(hl:l.length<=1000):Ch.fn [il l]=f (il (cT l)):=by
 have oH:l.length<=lim:=by dsimp only[lim];lia
 refine bZ (AK oH l.length 100000 (c9 _) (by lia)) λk' N L h3=>?_;rw[List.take_length]at h3
 have s1:aD [] i7.hd [il l,.any]=f ([il l,M' (l.length:G)],.next):=by
  have:ax (.bi .len (bx bw)) [il l,.any]=f (M' (l.length:G)):=by show(if (l.map M').length<=lim then f (M' ((l.map M').length:G)) else .none)=_;exact J (ai (by rw[i9];exact oH)) (J (i9 _) X)
  exact aB this X
 have s2:aD [] i7.tl.hd [il l,M' (l.length:G)]=f ([il l,M' (k':G)],.next):=L;have hle:(cT l).length<=lim:=by(refine dT h3 (J U7 ?_));lia
 have s3:aD [] i7.tl.tl [il l,M' (k':G)]=f ([il l,M' (k':G)],.ret (il (cT l))):=by
  have g1:ax (.gK bw aS) [il l,M' (k':G)]=f (il (cT l)):=by show Al (il l) (M' (k':G))=_;((refine J (Fd (by rw[i9];exact oH)) ?_);exact dT Va (J h3 X))
  have g2:ax (.bi .list (bx (.gK bw aS))) [il l,M' (k':G)]=f (il (cT l)):=by have g3:ax (bx (.gK bw aS)) [il l,M' (k':G)]=f (.tup [il (cT l)]):=J bX (J g1 X);refine J jY (J g3 ?_);exact ai (by exact J (i9 _) hle)
  exact eh (by(dsimp only[aD];exact J g2 X))
 exact aI (mu:=[]) (np:=1) (more:=1) (ha:=i7) (as:=[il l]) X ((ag s1).trans ((ag s2).trans s3))
theorem uE:∀ l:aA,(cT l).length<=l.length:=λw'=>by induction w' with|nil=>exact c9 _|cons x r IH=>have ih:=IH;dsimp only[cT];cases h:cT r with|nil=>(cases zm x with|true=>exact ji _|false=>exact zI (ji _))|cons y s=>exact zI (h▸ih)
theorem Lw:∀{l:aA} {x:G},x∈cT l->x∈l:=by intro w';induction w' with|nil=>intro x h;dsimp only[cT]at h;simp at h|cons y r ih=>intro x h;dsimp only[cT]at h;revert h;cases hz:cT r with|nil=>(cases zm y with|true=>exact λh=>g_ h gx|false=>intro h;exact J (az.mp h) aQ)|cons z s=>
   intro h;rcases aV.mp h with h|h
   .exact J h aQ
   .exact bg _ (ih (hz▸h))
noncomputable def gd:aA->aA->aA|[],b=>b|a,[]=>a|x::a,y::b=>(x+y)::gd a b
theorem yr:∀ a:aA,gd a []=a:=λw'=>by cases w' with|nil=>exact X|cons x a=>exact X
theorem th:∀ a b:aA,(gd a b).length=max a.length b.length:=λw'=>by induction w' with|nil=>intro b;rfl|cons x a ih=>intro z1;cases z1 with|nil=>rfl|cons y b=>dsimp only[gd];simp[ih b]
theorem SZ:∀(a b:aA) (i:a_),(gd a b)[i]?=if i<max a.length b.length then f (a.getD i 0+b.getD i 0) else .none:=λw'=>by
 induction w' with
 |nil=>
  intro b i;dsimp only[gd];refine J (Nat.zero_max _) ?_;by_cases h:i<b.length
  .refine J (ai h) ?_;simp[K?,lL h]
  .refine J (ak h) ?_;simp at h ⊢;omega
 |cons x a ih=>
  intro z1
  cases z1 with
  |nil=>
   intro i;dsimp only[gd];refine J (Nat.max_zero _) ?_;by_cases h:i<(x::a).length
   .refine J (ai h) ?_;simp[K?,lL h]
   .refine J (ak h) ?_;simp at h ⊢;omega
  |cons y b=>intro z2;cases z2 with|zero=>dsimp only[gd];simp|succ i=>
    dsimp only[gd];simp only[U3,ih b i,fE];by_cases h:i<max a.length b.length
    .refine J (ai h) (J (ai (by lia)) ?_);rfl
    .exact J (ak h) (J (ak (by lia)) X)
theorem HB(a b:aA):(A_ (max a.length b.length)).map (λi=>a.getD i 0+b.getD i 0)=gd a b:=by
 apply List.ext_getElem?;intro i;refine J mL (J (SZ _ _ _) ?_);by_cases h:i<max a.length b.length
 .refine J (ai h) (J (Y3 h) ?_);rfl
 ·(refine J (ak h) (J (L9 (by simp;lia)) ?_));rfl
theorem yt(h:l.length<=lim):tC .len [il l]=f (M' (l.length:G)):=by show(if (l.map M').length<=lim then f (M' ((l.map M').length:G)) else .none)=_;exact J (ai (by rw[i9];exact h)) (J (i9 _) X)
theorem PL(B:a.length<=lim)(i:a_):ax (.ite (.cmp .lt cD (.bi .len (bx bw))) (.idx bw cD) bC) [il a,b,s,M' (i:G)]=f (M' (a.getD i 0)):=by
 have N:ax (.cmp .lt cD (.bi .len (bx bw))) [il a,b,s,M' (i:G)]=f (.b (.bool (decide ((i:G)<(a.length:G))))):=by
  have:ax (.bi .len (bx bw)) [il a,b,s,M' (i:G)]=f (M' (a.length:G)):=yt B
  exact J jw (J this X)
 refine J qa (J N ?_);by_cases h:i<a.length
 .refine J (bP (by lia)) ?_;show mv (il a) (M' (i:G))=_;refine J (CF B _) (J (lL h) ?_);simp[K?,h]
 .refine J (bT (by lia)) ?_;show f (M' 0)=_;(rw[K?];refine J (L9 (by lia)) ?_);rfl
theorem Lx(hb:b.length<=lim)(B:a≠.any)(i:a_):ax (.ite (.cmp .lt cD (.bi .len (bx aS))) (.idx aS cD) bC) [a,il b,s,M' (i:G)]=f (M' (b.getD i 0)):=by
 have N:ax (.cmp .lt cD (.bi .len (bx aS))) [a,il b,s,M' (i:G)]=f (.b (.bool (decide ((i:G)<(b.length:G))))):=by
  have:ax (.bi .len (bx aS)) [a,il b,s,M' (i:G)]=f (M' (b.length:G)):=yt hb
  exact J jw (J this X)
 refine J qa (J N ?_);by_cases h:i<b.length
 .refine J (bP (by lia)) ?_;show mv (il b) (M' (i:G))=_;refine J (CF hb _) (J (lL h) ?_);simp[K?,h]
 .refine J (bT (by lia)) ?_;show f (M' 0)=_;(rw[K?];refine J (L9 (by lia)) ?_);rfl
theorem Yh(B:a.length<=1000)(hb:b.length<=1000):GW.fn [il a,il b]=f (il (cT (gd a b))):=by
 have la:a.length<=lim:=by dsimp only[lim];lia
 have lb:b.length<=lim:=by dsimp only[lim];lia
 have s1:aD [] uj.hd [il a,il b,.any,.any]=f ([il a,il b,M' ((max a.length b.length:a_):G),.any],.next):=by
  have g1:ax (.bi .len (bx bw)) [il a,il b,.any,.any]=f (M' (a.length:G)):=yt la;have g2:ax (.bi .len (bx aS)) [il a,il b,.any,.any]=f (M' (b.length:G)):=yt lb;refine aB (hc:=M' ((max a.length b.length:a_):G)) ?_ X;have g3:ax (aO (.bi .len (bx bw)) (.bi .len (bx aS))) [il a,il b,.any,.any]=f (.tup [M' (a.length:G),M' (b.length:G)]):=by exact J bX (J g1 (J bX (J g2 X)))
  refine J jY (J g3 ?_);show f (M' (if (b.length:G)>(a.length:G) then(b.length:G) else(a.length:G)))=_;congr 3;split<;>lia
 have s2:aD [] uj.tl [il a,il b,M' ((max a.length b.length:a_):G),.any]=f ([il a,il b,M' ((max a.length b.length:a_):G),.any],.ret (il (cT (gd a b)))):=by
  have g1:ax (.bq (.bin .add (.ite (.cmp .lt cD (.bi .len (bx bw))) (.idx bw cD) bC) (.ite (.cmp .lt cD (.bi .len (bx aS))) (.idx aS cD) bC)) [3] .range cM) [il a,il b,M' ((max a.length b.length:a_):G),.any]=f (il (gd a b)):=by
   have hx:il (gd a b)=.list ((A_ (max a.length b.length)).map λ(i:a_)=>M' (a.getD i 0+b.getD i 0)):=by(dsimp only[il];refine dT (HB _ _) (J fG ?_));rfl
   refine J hx (bH (hc:=M' ((max a.length b.length:a_):G)) (Xs:=(A_ (max a.length b.length)).map λ(i:a_)=>M' (i:G)) X ?_ ?_ (by simp;dsimp only[lim];lia))
   .show(if 0<=((max a.length b.length:a_):G)/\((max a.length b.length:a_):G)<=1000000 then f ((gZ ((max a.length b.length:a_):G)).map PV.b) else .none)=_;refine J (ai ⟨by simp,by lia⟩) ?_;refine J fG (J (CT _) ?_);rfl
   .refine eR (w:=λ(i:a_)=>M' (a.getD i 0+b.getD i 0)) _ λi hi=>fC ?_;refine J m7 (J (PL la _) (J (Lx lb (by intro h;cases h) _) ?_));rfl
  have g2:ax (bx (.bq (.bin .add (.ite (.cmp .lt cD (.bi .len (bx bw))) (.idx bw cD) bC) (.ite (.cmp .lt cD (.bi .len (bx aS))) (.idx aS cD) bC)) [3] .range cM)) [il a,il b,M' ((max a.length b.length:a_):G),.any]=f (.tup [il (gd a b)]):=J bX (J g1 X);refine eh ?_;exact J Ap (J (ar X g2 (SY (by rw[th];lia))) X)
 exact aI (mu:=[]) (np:=2) (more:=2) (ha:=uj) (as:=[il a,il b]) X ((ag s1).trans s2)
theorem Yi(hl:l.length<=lim):G1.fn [il l]=f (il (l.map λx=>-x)):=by
 refine aI (mu:=[]) (np:=1) (more:=1) (ha:=Ck) (as:=[il l]) (M:=[il l,.any]) X (eh ?_)
 have:ax (.bq (.neg aS) [1] .plain bw) [il l,.any]=f (il (l.map λx=>-x)):=by refine bH (hc:=il l) (Xs:=l.map M') X X ?_ (by simp;exact hl);exact J fG (eR (w:=λx=>M' (-x)) l λx hx=>fC X)
 show aD [] (.ret (.bq (.neg aS) [1] .plain bw)) [il l,.any]=_;dsimp only[aD];exact J this X
theorem HC(B:a.length<=1000)(hb:b.length<=1000):G3.fn [il a,il b]=f (il (cT (gd a (b.map λx=>-x)))):=by
 refine aI (mu:=[]) (np:=2) (more:=0) (ha:=Cm) (as:=[il a,il b]) (M:=[il a,il b]) X (eh ?_);have g1:ax (sT (bx aS)) [il a,il b]=f (il (b.map λx=>-x)):=Yi (by dsimp only[lim];lia);have g2:ax (aO bw (sT (bx aS))) [il a,il b]=f (.tup [il a,il (b.map λx=>-x)]):=by exact J bX (J tY (J bX (J g1 X)))
 have g3:ax (wc (aO bw (sT (bx aS)))) [il a,il b]=f (il (cT (gd a (b.map λx=>-x)))):=by exact ar X g2 (Yh B (by exact J (cz _) hb))
 show aD [] (.ret (wc (aO bw (sT (bx aS))))) [il a,il b]=_;dsimp only[aD];exact J g3 X
theorem abE(B:ax a M=f A)(hb:ax b M=f ha)(U':ax c M=f sl)(hd:ax d M=f ρ):ax (Sp a b c d) M=f (.tup [A,ha,sl,ρ]):=by exact J bX (J B (J (nx hb U' hd) X))
theorem ja(hl:l.length<=lim)(h:ax i M=f (il l)):ax (.bi .len (bx i)) M=f (M' (l.length:G)):=by exact J jY (J (eY h) (yt hl))
theorem dB{a:G}{n:a_}(B:a.natAbs<2^63)(hn:n<=4096):cX .pow a (n:G)=f (a^n):=by exact ai ⟨B,hn⟩
theorem pS(h0:b≠0)(hb:b.natAbs<=1000000000):cX .fdiv a b=f (a.fdiv b):=by dsimp only[cX];exact J (ai ⟨h0,by lia⟩) X
theorem pU(hl:p.length<=lim)(h0:k≠0)(hk:k.natAbs<2^63)(hp:∀ x∈p,x.natAbs<2^63):xS.fn [il p,M' k]=f (il (p.map λx=>x*k)):=by
 have ht:ax (.cmp .ne aS bC) [il p,M' k,.any]=f (.b (.bool V)):=by refine J (cf (x:=k) (y:=0) X X) ?_;dsimp only[cmpInt];simp[h0]
 have g:ax (.bq (.bin .mul cM aS) [2] .plain bw) [il p,M' k,.any]=f (il (p.map λx=>x*k)):=by refine bH (hc:=il p) (Xs:=p.map M') X X ?_ (by simp;exact hl);exact J fG (eR (w:=λx=>M' (x*k)) p λx hx=>fC (aP X X (cE (hp x hx) hk)))
 exact aI (mu:=[]) (np:=2) (more:=1) (ha:=sU) (as:=[il p,M' k]) (M:=[il p,M' k,.any]) X (gc ((lJ ht).trans g))
theorem Ff{p:aA}{n:a_}(hp:p≠[])(hl:p.length<=1000)(hn:n<=1000):xU.fn [il p,M' (n:G)]=f (il (l_ n 0++p)):=by
 have lp:p.length<=lim:=by dsimp only[lim];lia
 have ht:ax (.cmp .gt (.bi .len (bx bw)) bC) [il p,M' (n:G)]=f (.b (.bool V)):=by
  refine J (cf (ja lp X) (y:=0) X) ?_
  have:0<p.length:=by cases p with|nil=>exact g_ X hp|cons _ _=>exact iG _
  dsimp only[cmpInt];exact J (bP (by lia)) X
 have g1:ax (.bin .mul (.lst (bx bC)) aS) [il p,M' (n:G)]=f (il (l_ n 0)):=by show(if 0<=(n:G)/\(n:G)<=1000000 then f (PV.list (l_ (n:G).toNat (.b (.int 0)))) else .none)=_;dsimp only[il];exact J (ai ⟨by simp,by lia⟩) (J (CT _) (J List.map_replicate X))
 have g2:ax (.bi .list (bx bw)) [il p,M' (n:G)]=f (il p):=by exact ai (by exact J (i9 _) lp)
 have g3:ax (.bin .add (.bin .mul (.lst (bx bC)) aS) (.bi .list (bx bw))) [il p,M' (n:G)]=f (il (l_ n 0++p)):=by refine J m7 (J g1 (J g2 ?_));show(if ((l_ n (0:G)).map M').length<=lim/\(p.map M').length<=lim then f (PV.list ((l_ n (0:G)).map M'++p.map M')) else .none)=_;dsimp only[il];(exact J (ai ⟨by simp;dsimp only[lim];lia,by rw[i9];exact lp⟩) (J C6 X))
 exact aI (mu:=[]) (np:=2) (more:=0) (ha:=sV) (as:=[il p,M' (n:G)]) (M:=[il p,M' (n:G)]) X (gc ((lJ ht).trans g3))
theorem PM:∀(l:aA) (d:G),dO l d=l.getLastD d:=λw'=>by induction w' with|nil=>intro d;exact X|cons x r ih=>intro d;refine J (ih x) ?_;(clear ih;cases r)<;>rfl
theorem Fg(hl:l.length<=lim)(h:l≠[]):mv (il l) (M' (-1))=f (M' (dO l 0)):=by
 show(if (l.map M').length<=lim then(if 0<(l.map M').length then(l.map M')[(l.map M').length-1-0]? else .none) else .none)=_;have hp:0<l.length:=by cases l with|nil=>exact g_ X h|cons _ _=>exact iG _
 refine J (ai (by rw[i9];exact hl)) (J (ai (by rw[i9];exact hp)) (J (i9 _) (J mL (J (PM _ _) ?_))))
 have:l[l.length-1-0]?=f (l.getLastD 0):=by refine J (Nat.sub_zero _) (dT List.getLast?_eq_getElem? ?_);cases l with|nil=>exact g_ X h|cons x r=>rfl
 exact J this X
theorem CG(hl:l.length<=lim)(h:l≠[]):Cj.fn [il l]=f (M' (dO l 0)):=by
 have ht:ax (.cmp .gt (.bi .len (bx bw)) bC) [il l]=f (.b (.bool V)):=by
  refine J (cf (ja hl X) (y:=0) X) ?_
  have:0<l.length:=by cases l with|nil=>exact g_ X h|cons _ _=>exact iG _
  dsimp only[cmpInt];exact J (bP (by lia)) X
 exact aI (mu:=[]) (np:=1) (more:=0) (ha:=wd) (as:=[il l]) (M:=[il l]) X (gc ((lJ ht).trans (Fg hl h)))
theorem uF(hl:l.length<=lim):um.fn [il l]=f (M' ((l.length:G)-1)):=by exact aI (mu:=[]) (np:=1) (more:=0) (ha:=qm) (as:=[il l]) (M:=[il l]) X (gc (aP (ja hl X) (y:=1) X X))
theorem Ta(hl:l.length<=lim)(h:l≠[]):f5.fn [il l]=f (.b .none):=by
 have ht:ax (.cmp .eq (.bi .len (bx bw)) bC) [il l]=f (.b (.bool N')):=by
  refine J (cf (ja hl X) (y:=0) X) ?_
  have:0<l.length:=by cases l with|nil=>exact g_ X h|cons _ _=>exact iG _
  dsimp only[cmpInt];exact J (bT (by lia)) X
 have e:aD [] dr [il l]=f ([il l],.next):=by
  have:aD [] dr.hd [il l]=f ([il l],.next):=by
   show(match ax (.cmp .eq (.bi .len (bx bw)) bC) [il l]with
    |f (.b (.bool V))=>aD [] (.seq .raise .skip) [il l]
    |f (.b (.bool N'))=>aD [] .skip [il l]
    |_=>R)=_
   exact J ht X
  exact(ag (a:=dr.hd) this).trans X
 show prun [] 1 0 dr [il l]=_;dsimp only[prun];refine J (ai (show [il l].length=1 from X)) ?_
 show(match aD [] dr [il l]with
  |f (O,.ret hc)=>f hc
  |f (O,.next)=>f (PV.b .none)
  |_=>R)=_
 exact J e X
theorem mi(n:G):FD n=V↔n.natAbs<=1000000000:=⟨λh=>iB h,λh=>CU.mpr h⟩
theorem yu:∀ l:aA,HA l=V↔∀ x∈l,x.natAbs<=1000000000:=λw'=>by induction w' with|nil=>dsimp only[HA];trivial|cons x l ih=>dsimp only[HA];simp -iota only [aV,forall_eq_or_imp,<-ih,<-mi x];cases FD x<;>simp
set_option tactic.hygienic true in
theorem HD(x y:G):YL x y=x-y:=by
 cases x<;>cases y
 .rename_i m n
  show Q? m n=_;exact J Y0 X
 .rename_i m n
  show y_ (b? (r_ m n))=_
  have:r_ m n=m+n:=X
  refine J this ?_;simp only[YZ,AW];rfl
 .rename_i m n
  show D? (r_ m n)=_
  have:r_ m n=m+n:=X
  refine J this ?_;simp only[YZ,AW];lia
 .rename_i m n
  show Q? n m=_;refine J Y0 ?_;simp only[AW];lia
theorem yv:∀ r b:aA,yp r b=gd r (b.map λx=>-x)|r,[]=>by(dsimp only[yp];simp[yr])|[],y::b=>by dsimp only[yp];refine J (yv [] b) ?_;dsimp only[gd];refine J bW ?_;rfl|x::r,y::b=>by dsimp only[yp];refine J (HD _ _) (J (yv r b) ?_);dsimp only[x_,gd,Int.sub_eq_add_neg];rfl
theorem AL:∀(n:a_) (r b:aA),jI n r b=gd r ((l_ n 0++b).map λx=>-x):=λw'=>by induction w' with|zero=>intro r b;(dsimp only[jI];refine J (yv _ _) ?_);rfl|succ n ih=>intro z1;cases z1 with|nil=>intro b;dsimp only[jI];refine J (ih [] b) ?_;dsimp only[gd];rfl|cons x r=>intro b;dsimp only[jI];refine J (ih r b) ?_;dsimp only[replicate_succ,gd];simp[H3];dsimp only[replicate_succ,gd];simp[H3]
theorem PN(k:G):∀ p:aA,Jw k p=p.map λx=>x*k:=λw'=>by induction w' with|nil=>exact X|cons x p ih=>(dsimp only[Jw];refine J ih ?_);rfl
theorem Fh(k:G):PI k=V↔k=1:=by
 cases k with
 |ofNat n=>
  show f_ n 1=V↔_;constructor
  .intro h;exact J (wt h) X
  .intro h;have:n=1:=vE (show y_ n=y_ 1 from h);exact J this X
 |negSucc n=>(dsimp only[PI];simp)
theorem qv(h:CC p k=f q):q=p.map (λx=>x*k)/\k≠0/\k.natAbs<=1000000000/\∀ x∈p,x.natAbs<=1000000000:=by
 revert h;refine gg nS λB h=>?_;rw[yu]at B;revert h;refine TZ (λN h=>?_) λO h=>?_
 .obtain rfl:=aw h;rw[Fh]at N;subst N;exact qN (by simp) (by decide) (by decide) B
 .revert h;refine zT nS λh0 h=>?_;rw[fB,uP]at h0;revert h;refine cA (λhk h=>?_);obtain rfl:=aw h;rw[mi]at hk;exact qN (PN k p) h0 hk B
theorem HE:∀{a b:aA},(∀ x∈a,x.natAbs<=A)->(∀ y∈b,y.natAbs<=ha)->∀ z∈gd a b,z.natAbs<=A+ha:=by intro w';induction w' with|nil=>intro b O hb z hz;exact aR (hb z hz) (rX _ _)|cons x a ih=>intro z1;cases z1 with|nil=>intro B O z hz;exact aR (B z hz) (Nat.le_add_right _ _)|cons y b=>
   intro B hb z hz;dsimp only[gd]at hz;rw[aV]at hz;rcases hz with eG|hz
   .subst eG;exact nab (B x aQ) (hb y aQ)
   .exact ih (λx hx=>B x (bg _ hx)) (λy hy=>hb y (bg _ hy)) z hz
abbrev PB:CS:=fj.tl.tl.tl.hd.body
abbrev PT:CE:=fj.tl.tl.tl.hd.test
abbrev FE(a b:aA)(m:G)(r K':aA)(k g:G)(u v:PV):aC:=[il a,il b,M' m,.any,il r,il K',M' k,M' g,u,v]
theorem Jx{a b:aA}{first mn:G}(BG:b≠[])(Je:b.length<=1000):∀(m:a_) (D':aA) (fb left:a_) (xd:aA) (vx:a_) (found:aA) (n8 p9:PV) (h1:a_),Ye first b b.length m D' fb left=f (xd,vx)->(∀ x∈found,x.natAbs<=fb)->found.length<=1000->D'.length<=1000->m<=h1 ->
  ∃ HF n8' p9',fc (ax PT) (aD [] PB) h1 (FE a b mn D' found (left:G) first n8 p9)=f ((FE a b mn xd HF (vx:G) first n8' p9'),.next)/\(∀ x∈HF,x.natAbs<=1000000000)/\HF.length<=1000/\xd.length<=D'.length/\vx<=left:=by
 intro w';induction w' with|zero=>intro D' fb left xd vx found n8 p9 h1 h O O O O;exact nS h|succ m ih=>intro D' fb left xd vx found n8 p9 z9;cases z9 with|zero=>intro h O O O hN;lia|succ h1=>
   intro h hf hfl YJ hN;have lb:b.length<=lim:=by dsimp only[lim];lia
   have lr:D'.length<=lim:=by dsimp only[lim];lia
   have hbp:0<b.length:=by cases b with|nil=>exact g_ X BG|cons _ _=>exact iG _
   have hT:ax PT (FE a b mn D' found (left:G) first n8 p9)=f (.b (.bool (decide ((b.length:G)<=(D'.length:G))))):=
    cf (o:=.ge) (ja lr X) (ja lb X)
   dsimp only[fc];refine J hT ?_;dsimp only[Ye]at h;rw[CB]at h;by_cases hle:b.length<=D'.length
   .rw[bP hle]at h;refine J (bP (by omega)) ?_;dsimp only at h;rcases left with _|kD;exact nS h;refine ib λGq zq=>?_;revert h;refine gg nS λYM h=>?_;have YM:fb<=1000000000:=iB YM;revert h;refine sj nS λr1 YN h=>?_;refine jj (qv YN) λaL f0 f1 hra=>?_;subst aL;revert h;refine sj nS λb1 hb1 h=>?_;refine jj (qv hb1) λaL n0 n1 hba=>?_;subst aL;refine zq ?_;clear zq;have hrn:D'≠[]:=by intro iC;clear YJ lr hT hra YN n0 n1 hb1 h;subst iC;rw[uQ]at hle;lia
    generalize afp:dO D' 0=num at *;have hp:Y_ D'.length b.length=D'.length-b.length:=X;rw[hp]at h
    have g0:aD [] PB.hd (FE a b mn D' found ((kD+1:a_):G) first n8 p9)=f ((FE a b mn D' found ((kD+1:a_):G) first (M' num) (M' ((D'.length-b.length:a_):G))),.next):=by
     have e1:ax (.idx jg (.neg bQ)) (FE a b mn D' found ((kD+1:a_):G) first n8 p9)=f (M' num):=afp▸Fg lr hrn;have e2:ax (.bin .sub (.bi .len (bx jg)) (.bi .len (bx aS))) (FE a b mn D' found ((kD+1:a_):G) first n8 p9)=f (M' ((D'.length-b.length:a_):G)):=by refine J (aP (ja lr X) (ja lb X) (z:=((D'.length:G)-(b.length:G))) X) ?_;congr 3;grind
     refine J eu (J fe (J (bE e1 e2) ?_));rfl
    have lf:found.length<=lim:=by dsimp only[lim];lia
    have z1:∀ M:aC,bf M 5=il found->bf M 7=M' first->ax (ix (aO kc rV)) M=f (il (found.map λx=>x*first)):=λM h5 h7=>
     ar X (bE (by(dsimp only[ax];exact J h5 X)) (by(dsimp only[ax];exact J h7 X))) (pU lf f0 (by lia) λx hx=>by have:=hf x hx;lia)
    have g1:aD [] PB.tl.hd (FE a b mn D' found ((kD+1:a_):G) first (M' num) (M' ((D'.length-b.length:a_):G)))=f ((FE a b mn D' (cT (gd (found.map λx=>x*first) ((l_ (D'.length-b.length) 0++[-num]).map λx=>-x))) ((kD+1:a_):G) first (M' num) (M' ((D'.length-b.length:a_):G))),.next):=by refine aB ?_ X;refine ar X (bE (z1 _ X X) (ar X (bE (A:=il [-num]) (ha:=M' ((D'.length-b.length:a_):G)) X X) (Ff (by simp) (by exact iG _) (by grind)))) (HC (by exact J (cz _) hfl) (by simp;lia))
    generalize IU:cT (gd (found.map λx=>x*first) ((l_ (D'.length-b.length) 0++[-num]).map λx=>-x))=ot at g1
    have afq:∀ x∈ot,x.natAbs<=fb*first.natAbs+num.natAbs:=λx hx=>by
     rw[<-IU]at hx;refine HE (λy hy=>?_) (λy hy=>?_) x (Lw hx)
     .refine ah (eT.mp hy) λw hw fJ=>?_;clear hy;subst fJ;exact J (JI _ _) (zH _ (hf w hw))
     .refine ah (eT.mp hy) λw hw fJ=>?_;clear hy;subst fJ;rcases fH.mp hw with hw|hw
      .refine J ((List.mem_replicate.mp hw).2) ?_;exact ji _
      .refine J (az.mp hw) ?_;simp
    have afr:ot.length<=1000:=by refine dT IU (aR (uE _) (J (th _ _) ?_));simp;lia
    have g2:aD [] PB.tl.tl.hd (FE a b mn D' ot ((kD+1:a_):G) first (M' num) (M' ((D'.length-b.length:a_):G)))=f ((FE a b mn (cT (jI (D'.length-b.length) (D'.map λx=>x*first) (b.map λx=>x*num))) ot ((kD+1:a_):G) first (M' num) (M' ((D'.length-b.length:a_):G))),.next):=by refine aB ?_ X;refine J (AL _ _ _) (ar X (bE (ar X (bE (A:=il D') (ha:=M' first) X X) (pU lr f0 (by lia) λx hx=>by have:=hra x hx;lia)) (ar X (bE (ar X (bE (A:=il b) (ha:=M' num) X X) (pU lb n0 (by lia) λx hx=>by have:=hba x hx;omega)) (ha:=M' ((D'.length-b.length:a_):G)) X) (Ff (by simp[BG]) (by exact J (cz _) Je) (by grind)))) (HC (by exact J (cz _) YJ) (by simp;grind)))
    have g3:aD [] PB.tl.tl.tl.hd (FE a b mn (cT (jI (D'.length-b.length) (D'.map λx=>x*first) (b.map λx=>x*num))) ot ((kD+1:a_):G) first (M' num) (M' ((D'.length-b.length:a_):G)))=f ((FE a b mn (cT (jI (D'.length-b.length) (D'.map λx=>x*first) (b.map λx=>x*num))) ot (kD:G) first (M' num) (M' ((D'.length-b.length:a_):G))),.next):=by show f ((FE a b mn (cT (jI (D'.length-b.length) (D'.map λx=>x*first) (b.map λx=>x*num))) ot (((kD+1:a_):G)-1) first (M' num) (M' ((D'.length-b.length:a_):G))),kS.next)=_;exact J (show((kD+1:a_):G)-1=(kD:G) by simp) X
    have body:=(ag (a:=PB.hd) g0).trans ((ag (a:=PB.tl.hd) g1).trans ((ag (a:=PB.tl.tl.hd) g2).trans ((ag (a:=PB.tl.tl.tl.hd) (b:=.skip) g3).trans X)));have abF:aD [] PB (FE a b mn D' found ((kD+1:a_):G) first n8 p9)=f ((FE a b mn (cT (jI (D'.length-b.length) (D'.map λx=>x*first) (b.map λx=>x*num))) ot (kD:G) first (M' num) (M' ((D'.length-b.length:a_):G))),.next):=body;have hlr:(cT (jI (D'.length-b.length) (D'.map λx=>x*first) (b.map λx=>x*num))).length<=D'.length:=by refine aR (uE _) ?_;rw[AL,th];simp;lia
    refine Ik (ih _ _ kD xd vx ot (M' num) (M' ((D'.length-b.length:a_):G)) h1 h afq afr (by exact aR ‹_› ‹_›) (by lia)) λfo' n8' p9' k1 k2 k3 k4 k5=>MJ fo' n8' p9' ?_ k2 k3 (by exact aR ‹_› ‹_›) (by lia);exact J abF k1
   .rw[bT hle]at h;rw[bT (by omega)];dsimp only at h;revert h;refine cA (λYM h=>?_);have YM:fb<=1000000000:=iB YM;refine gJ h ?_;exact MJ found n8 p9 X (λx hx=>aR (hf x hx) YM) hfl (c9 _) (c9 _)
theorem Ly(h:Ye first b b.length m D' fb left=f r)(hle:b.length<=D'.length):first≠0/\first.natAbs<=1000000000:=by cases m with|zero=>exact nS h|succ m=>dsimp only[Ye]at h;rw[CB]at h;rw[bP hle]at h;dsimp only at h;revert h;refine QN nS λO br h=>?_;subst br;revert h;refine gg nS λO h=>?_;revert h;refine sj nS λr1 YN h=>?_;refine jj (qv YN) λO f0 f1 O=>?_;exact⟨f0,f1⟩
theorem PO{a b D' r:aA}(BG:b≠[])(hle:b.length<=a.length)(FA:a.length<=900)(h:Ye (dO b 0) b b.length 10 a 0 (r_ (Y_ a.length b.length) 1)=f (D',left))(YO:(dO b 0)^left≠0) (hk:((dO b 0)^left).natAbs<=1000000000) (hr:∀ x∈D',x.natAbs<=1000000000):∃ q,xW.fn [il a,il b]=f (.tup [il q,il (D'.map λx=>x*(dO b 0)^left),M' ((a.length:G)-(b.length:G)+1)]):=by
 refine TO λGq kq=>?_;have la:a.length<=lim:=by dsimp only[lim];lia
 have lb:b.length<=lim:=by exact aR ‹_› ‹_›
 refine cF (Ly h hle) λf0 f1=>?_;generalize Yj:dO b 0=first at *
 generalize hmn:(a.length:G)-(b.length:G)+1=mn at *;refine Ik (Jx (a:=a) (mn:=mn) BG (by clear kq;lia) 10 a 0 _ D' left [] .any .any 100000 h (λO q=>g_ q gx) (by exact ji _) (by clear kq;lia) (by exact rX _ _)) λfo n8 p9 k1 k2 k3 k4 k5=>?_;have abG:((r_ (Y_ a.length b.length) 1:a_):G)=mn:=by show((a.length-b.length+1:a_):G)=mn;grind
 have hl4:left<=4096:=by
  have:r_ (Y_ a.length b.length) 1=a.length-b.length+1:=X
  grind
 rw[abG]at k1
 have s1:aD [] fj.hd ([il a,il b]++bz 8)=f ([il a,il b]++bz 8,.next):=by
  show aD [] (.expr (oG (bx aS))) _=_;dsimp only[aD];refine J yi ?_
  show(match f5.fn [il b]with
   |f O=>f (([il a,il b]++bz 8:aC),kS.next)
   |R=>R)=_
  exact J (Ta lb BG) X
 have s2:aD [] fj.tl.hd ([il a,il b]++bz 8)=f ([il a,il b,M' mn]++bz 7,.next):=by
  refine aB (hc:=M' mn) ?_ X;have g:ax (.bin .add (.bin .sub (.bi .len (bx bw)) (.bi .len (bx aS))) bQ) ([il a,il b]++bz 8)=f (M' mn):=by exact J (aP (aP (ja la X) (ja lb X) (z:=(a.length:G)-(b.length:G)) X) (y:=1) X (z:=(a.length:G)-(b.length:G)+1) X) (J hmn X)
  refine J jY (J (bE (a:=.k (.int 0)) (A:=M' 0) X g) ?_);show f (M' (if mn>0 then mn else 0))=_;exact J (ai (by omega)) X
 have s3:aD [] fj.tl.tl.hd ([il a,il b,M' mn]++bz 7)=f ([il a,il b,M' mn,.any,il a,il [],M' mn,M' first,.any,.any],.next):=by
  have g1:ax (.bi .list (bx bw)) ([il a,il b,M' mn]++bz 7)=f (il a):=by exact ai (by exact J (i9 _) la)
  have g2:ax (nr (bx aS)) ([il a,il b,M' mn]++bz 7)=f (M' first):=by exact dT Yj (ar X (eY (A:=il b) X) (CG lb BG))
  refine J eu (J fe (J (abE g1 (b:=.lst .nil) (ha:=il []) X (c:=.var 2) (sl:=M' mn) X g2) ?_));rfl
 have s4:aD [] fj.tl.tl.tl.hd [il a,il b,M' mn,.any,il a,il [],M' mn,M' first,.any,.any]=f ([il a,il b,M' mn,.any,il D',il fo,M' (left:G),M' first,n8,p9],.next):=k1
 have s5:aD [] fj.tl.tl.tl.tl.hd [il a,il b,M' mn,.any,il D',il fo,M' (left:G),M' first,n8,p9]=f ([il a,il b,M' mn,M' (first^left),il D',il fo,M' (left:G),M' first,n8,p9],.next):=
  aB (aP (x:=first) (y:=(left:G)) X X (dB (by clear kq;lia) hl4)) X
 have s6:aD [] fj.tl.tl.tl.tl.tl [il a,il b,M' mn,M' (first^left),il D',il fo,M' (left:G),M' first,n8,p9]=f ([il a,il b,M' mn,M' (first^left),il D',il fo,M' (left:G),M' first,n8,p9],.ret (.tup [il (fo.map λx=>x*first^left),il (D'.map λx=>x*first^left),M' mn])):=by
  refine gc ?_
  have g1:ax (ix (aO kc cD)) [il a,il b,M' mn,M' (first^left),il D',il fo,M' (left:G),M' first,n8,p9]=f (il (fo.map λx=>x*first^left)):=
   ar X (bE (A:=il fo) (ha:=M' (first^left)) X X) (pU (by dsimp only[lim];lia) YO (by clear kq;lia) λx hx=>by have:=k2 x hx;lia)
  have g2:ax (ix (aO jg cD)) [il a,il b,M' mn,M' (first^left),il D',il fo,M' (left:G),M' first,n8,p9]=f (il (D'.map λx=>x*first^left)):=
   ar X (bE (A:=il D') (ha:=M' (first^left)) X X) (pU (by exact aR ‹_› ‹_›) YO (by omega) λx hx=>by have:=hr x hx;omega)
  refine J fe (J (nx g1 g2 (c:=.var 2) (sl:=M' mn) X) ?_);rfl
 exact kq _ (aI (mu:=[]) (np:=2) (more:=8) (ha:=fj) (as:=[il a,il b]) X ((ag s1).trans ((ag s2).trans ((ag s3).trans ((ag s4).trans ((ag s5).trans s6))))))
theorem Yk(BG:b≠[])(hle:b.length<=a.length)(FA:a.length<=900)(h:UP a b=f r):l9.fn [il a,il b]=f (il r)/\r.length<=a.length:=by
 have la:a.length<=lim:=by dsimp only[lim];lia
 have lb:b.length<=lim:=by exact aR ‹_› ‹_›
 revert h;refine QO nS λD' left hi h=>?_;have hlen:D'.length<=a.length:=by exact Ik (Jx (a:=a) (mn:=0) BG (by omega) 10 a 0 _ D' left [] .any .any 100000 hi (λO q=>g_ q gx) (by exact ji _) (by omega) (by exact rX _ _)) λfo n8 p9 k1 k2 k3 k4 k5=>k4
 revert h;refine gg nS λhi1 h=>?_;rw[mi]at hi1
 have main:∀ k:G,(dO b 0)^left=k->k≠0->k.natAbs<=1000000000->(∀ x∈D',x.natAbs<=1000000000)->r=D'.map (λx=>x*k)->(∀ x∈r,x.natAbs<=1000000000)->l9.fn [il a,il b]=f (il r)/\r.length<=a.length:=by
  rintro k rfl YO hk hr hrk hrb;obtain⟨q,hq⟩:=PO (r:=r) BG hle FA hi YO hk hr;rw[<-hrk]at hq;have YJ:r.length<=a.length:=J hrk (J (cz _) hlen);refine⟨?_,YJ⟩;generalize hmn:(a.length:G)-(b.length:G)+1=mn at hq
  have s1:aD [] f7.hd ([il a,il b]++bz 5)=f ([il a,il b,.any,il q,il r,M' mn,.any],.next):=by
   have g:ax (ur (aO bw aS)) ([il a,il b]++bz 5)=f (.tup [il q,il r,M' mn]):=
    ar X (bE (A:=il a) (ha:=il b) X X) hq
   show aD [] (.bj [3,4,5] (ur (aO bw aS))) _=_;dsimp only[aD];refine J g ?_;rfl
  have s2:aD [] f7.tl.hd [il a,il b,.any,il q,il r,M' mn,.any]=f ([il a,il b,M' 0,il q,il r,M' mn,.any],.next):=by refine aB (hc:=M' 0) ?_ X;refine J (aP (aP (aP (ar X (eY (A:=il a) X) (uF la)) (ar X (eY (A:=il b) X) (uF lb)) (z:=(a.length:G)-1-((b.length:G)-1)) X) (y:=1) X (z:=(a.length:G)-1-((b.length:G)-1)+1) X) (y:=mn) X (z:=(a.length:G)-1-((b.length:G)-1)+1-mn) X) ?_;congr 3;simp -iota at *;omega
  have s3:aD [] f7.tl.tl [il a,il b,M' 0,il q,il r,M' mn,.any]=f ([il a,il b,M' 0,il q,il r,M' mn,.any],.ret (il r)):=by
   refine gc (bH (hc:=il r) (Xs:=r.map M') X X ?_ (by simp;exact aR ‹_› ‹_›));refine eR (w:=M') r λx hx=>fC ?_;have e1:ax (nr (bx aS)) (bM [il a,il b,M' 0,il q,il r,M' mn,.any] 6 (M' x))=f (M' (dO b 0)):=ar X (eY (A:=il b) X) (CG lb BG)
   have e2:ax (.bin .pow (nr (bx aS)) cM) (bM [il a,il b,M' 0,il q,il r,M' mn,.any] 6 (M' x))=f (M' 1):=
    aP e1 (y:=((0:a_):G)) X (by exact J (dB (by omega) (by exact rX _ _)) (J (Int.pow_zero _) X))
   exact J (aP (x:=x) X e2 (cE (by have:=hrb x hx;omega) (by decide))) (J (Qy _) X)
  exact aI (mu:=[]) (np:=2) (more:=5) (ha:=f7) (as:=[il a,il b]) X ((ag s1).trans ((ag s2).trans s3))
 revert h;refine ZZ (λbr h=>?_) λh=>?_;clear hi;subst br;rotate_left;rotate_left
 .revert h;refine cA (λhr h=>?_);obtain rfl:=aw h;rw[yu]at hr;exact main 1 (by simp) (by decide) (by decide) hr (by simp) hr
 .revert h;refine gg nS λhp h=>?_;rw[mi]at hp;revert h;refine sj nS λr1 YN h=>?_;revert h;refine cA (λhr2 h=>?_);obtain rfl:=aw h;rw[yu]at hr2;exact jj (qv YN) λe1 e2 e3 e4=>main _ X e2 hp e4 e1 hr2
theorem uG(hl:p.length<=lim)(h0:n≠0)(hn:n.natAbs<=1000000000):uw.fn [il p,M' n]=f (il (p.map λx=>x.fdiv n)):=by
 have g:ax (.bq (.bin .fdiv cM aS) [2] .plain bw) [il p,M' n,.any]=f (il (p.map λx=>x.fdiv n)):=by refine bH (hc:=il p) (Xs:=p.map M') X X ?_ (by simp;exact hl);exact J fG (eR (K':=M') (w:=λx=>M' (x.fdiv n)) p λx hx=>fC (aP (x:=x) (y:=n) X X (pS h0 hn)))
 exact aI (mu:=[]) (np:=2) (more:=1) (ha:=qo) (as:=[il p,M' n]) (M:=[il p,M' n,.any]) X (gc g)
theorem Fi(n:G)(p:aA):j3 n p=p.map λx=>x.fdiv n:=by dsimp only[j3];cases h:PI n with|true=>refine J ((Fh n).mp h) ?_;simp|false=>rfl
theorem ti{n:a_}(h:ax e M=f (M' ((n:G)-1)))(hn:0<n):ax (.cmp .eq (.bin .mod e nG) bQ) M=f (.b (.bool (jo n))):=by
 refine J (cf (aP h (y:=2) X (z:=((n:G)-1).fmod 2) X) (y:=1) X) ?_;dsimp only[cmpInt];congr 3;dsimp only[jo]
 have:q? n 2=n%2:=X
 refine J this (J (Qx _ (by decide)) ?_);by_cases L:n%2=0
 .exact J L (J (bP (by lia)) X)
 .exact J (show n%2=1 by lia) (J (bT (by lia)) X)
abbrev FF:CS:=cL.tl.hd.body
abbrev RRT:CE:=cL.tl.hd.test
abbrev PQ:CS:=cL.tl.tl
theorem jb(hl:l.length<=lim)(h:ax (.var i) M=f (il l)):ax (ba (bx (.var i))) M=f (M' ((l.length:G)-1)):=ar X (eY h) (uF hl)
abbrev RS(a b:aA)(s:G)(x:PV)(g h:G)(u v:PV):aC:=[il a,il b,M' s,x,M' g,M' h,u,v]
theorem Yl{x:aA}{F:af G}{j':G->af G}{K:aA->af G}{r:G}{Y':Prop}:(x=[]->F=f r->Y')->(∀ a,x=[a]->j' a=f r->Y')->(2<=x.length->K x=f r->Y')->(match x with|[]=>F|[a]=>j' a|x=>K x)=f r->Y':=by
 intro k l m;rcases x with _|⟨a,_|⟨b,x⟩⟩
 .exact k X
 .exact l a X
 .exact m (rX 2 _)
theorem Ym{x:a_}{K:a_->af G}{r:G}{Y':Prop}:(∀ k,x=k+2->K k=f r->Y')->(match x with|0=>R|1=>R|k+2=>K k)=f r->Y':=by
 intro k;rcases x with _|_|n
 .exact λh=>nomatch h
 .exact λh=>nomatch h
 .exact k n X
set_option tactic.hygienic true in
theorem Yn:∀(m:a_) (a b:aA) (sign g h r:G) (x6 x7:PV) (h1:a_),CD m a b sign g h=f r->a.length<=900->b.length<=900->m<=h1->∃ vs1 vs2,fc (ax RRT) (aD [] FF) h1 (RS a b sign .any g h x6 x7)=f (vs1,.next)/\aD [] PQ vs1=f (vs2,.ret (M' r)):=λw'=>by induction w' with|zero=>intro a b sign g h r x6 x7 h1 e O O O;exact nS e|succ m ih=>intro a b sign g h r x6 x7 z9;cases z9 with|zero=>intro e O O hN;lia|succ h1=>
   intro e FA Je hN;have la:a.length<=lim:=by dsimp only[lim];lia
   have lb:b.length<=lim:=by dsimp only[lim];lia
   have hT:ax RRT (RS a b sign .any g h x6 x7)=f (.b (.bool (decide ((0:G)<(b.length:G)-1)))):=
    cf (o:=.gt) (jb lb X) (y:=0) X
   dsimp only[fc];refine J hT ?_;dsimp only[CD]at e;revert e;refine Yl (λhb e=>?_) (λb0 hb=>Ym λk hk e=>?_) (λsF e=>?_)
   .clear Je lb hT;subst hb;obtain rfl:=aw e;refine uZ _ ((RS a [] sign .any g h x6 x7)) X ?_;show aD [] (.seq PQ.hd PQ.tl) _=_;refine eh ?_;refine J (cu (g:=V) X) ?_;rfl
   .clear Je lb hT;subst hb;refine ib λGq zq=>?_;revert e;refine gg nS λU' e=>?_;simp only[jc,rW,mi,fB,uP]at U';obtain⟨c1,c2,c3,c4,c5⟩:=U';revert e;refine cA (λhr e=>?_);have hr:((b0^(k+1)).fdiv (h^k)).natAbs<=1000000000000000000:=iB hr;obtain rfl:=aw e;refine zq ?_;clear zq;refine uZ ((RS a [b0] sign .any g h x6 x7)) ((RS a [b0] sign (M' ((a.length:G)-1)) g h x6 x7)) X ?_;have s1:aD [] PQ.hd (RS a [b0] sign .any g h x6 x7)=f ((RS a [b0] sign .any g h x6 x7),.next):=by refine J (cu (g:=N') X) ?_;rfl
    have s2:aD [] PQ.tl.hd (RS a [b0] sign .any g h x6 x7)=f ((RS a [b0] sign (M' ((a.length:G)-1)) g h x6 x7),.next):=aB (jb la X) X
    have s3:aD [] PQ.tl.tl (RS a [b0] sign (M' ((a.length:G)-1)) g h x6 x7)=f ((RS a [b0] sign (M' ((a.length:G)-1)) g h x6 x7),.ret (M' (Int.mul sign ((b0^(k+1)).fdiv (h^k))))):=by
     refine gc (J (by lia:(a.length:G)-1=((k+1:a_):G)) ?_);have p1:ax (.cmp .gt cD bC) (RS a [b0] sign (M' ((k+1:a_):G)) g h x6 x7)=f (.b (.bool V)):=by refine J (cf (x:=((k+1:a_):G)) X (y:=0) X) ?_;dsimp only[cmpInt];exact J (bP (by simp)) X
     have p2:ax (.bin .pow (.idx aS bC) cD) (RS a [b0] sign (M' ((k+1:a_):G)) g h x6 x7)=f (M' (b0^(k+1))):=
      aP (x:=b0) X (y:=((k+1:a_):G)) X (dB (by lia) (by lia))
     have p3:ax (.bin .sub cD bQ) (RS a [b0] sign (M' ((k+1:a_):G)) g h x6 x7)=f (M' (k:G)):=by refine J (aP (x:=((k+1:a_):G)) X (y:=1) X (z:=((k+1:a_):G)-1) X) ?_;congr 3;simp
     have p4:ax (.bin .pow kc (.bin .sub cD bQ)) (RS a [b0] sign (M' ((k+1:a_):G)) g h x6 x7)=f (M' (h^k)):=
      aP (x:=h) X p3 (dB (by lia) (by lia))
     have p5:ax (.bin .fdiv (.bin .pow (.idx aS bC) cD) (.bin .pow kc (.bin .sub cD bQ))) (RS a [b0] sign (M' ((k+1:a_):G)) g h x6 x7)=f (M' ((b0^(k+1)).fdiv (h^k))):=
      aP p2 p4 (pS c4 c3)
     exact aP (x:=sign) X ((lJ p1).trans p5) (cE (by lia) (by omega))
    exact(ag (a:=PQ.hd) (b:=PQ.tl) s1).trans ((ag (a:=PQ.tl.hd) (b:=PQ.tl.tl) s2).trans s3)
   .have BG:b≠[]:=by intro q;rw[q]at sF;simp at sF
    revert e;refine gg nS λhle e=>?_;have hle:b.length<=a.length:=iB hle;refine J (bP (by omega)) ?_;revert e;refine sj nS λD' abH e=>?_;obtain⟨y1,y2⟩:=Yk BG hle FA abH;revert e;refine gg nS λU' e=>?_;simp only[jc,mi]at U';obtain⟨c1,c2,c3⟩:=U';revert e;refine gg nS λhd e=>?_;simp only[jc,rW,mi,fB,uP]at hd;obtain⟨d1,d2⟩:=hd;have aft:Y_ a.length b.length=a.length-b.length:=X;rw[aft]at e c3 d1 d2;have abI:Int.mul g (h^(a.length-b.length))=g*h^(a.length-b.length):=X;rw[abI]at e d1 d2;generalize L4:(match jo a.length&&jo b.length with|V=>L? sign|N'=>sign)=iA at e;generalize hgp:a.length-b.length=gap at *;have b1:aD [] FF.hd (RS a b sign .any g h x6 x7)=f ((RS a b sign .any g h (M' (gap:G)) x7),.next):=by refine aB (hc:=M' (gap:G)) ?_ X;refine J (aP (jb la X) (jb lb X) (z:=(a.length:G)-1-((b.length:G)-1)) X) ?_;congr 3;exact dlF hle hgp
    have b2:aD [] FF.tl.hd (RS a b sign .any g h (M' (gap:G)) x7)=f ((RS a b iA .any g h (M' (gap:G)) x7),.next):=by
     have t:ax (.and (.cmp .eq (.bin .mod (ba (bx bw)) nG) bQ) (.cmp .eq (.bin .mod (ba (bx aS)) nG) bQ)) (RS a b sign .any g h (M' (gap:G)) x7)=f (.b (.bool (jo a.length&&jo b.length))):=
      Cx (ti (jb la X) (by omega)) (ti (jb lb X) (by exact kF ‹_›))
     refine J (cu t) ?_;cases hee:jo a.length&&jo b.length with|true=>rw[hee]at L4;subst L4;rfl|false=>rw[hee]at L4;subst L4;rfl
    have b3:aD [] FF.tl.tl.hd (RS a b iA .any g h (M' (gap:G)) x7)=f ((RS a b iA .any g h (M' (gap:G)) (il D')),.next):=
     aB (ar X (bE (A:=il a) (ha:=il b) X X) y1) X
    have b4:aD [] FF.tl.tl.tl.hd (RS a b iA .any g h (M' (gap:G)) (il D'))=f ((RS b (j3 (g*h^gap) D') iA .any g h (M' (gap:G)) (il D')),.next):=by
     have q1:ax (.bin .pow kc lO) (RS a b iA .any g h (M' (gap:G)) (il D'))=f (M' (h^gap)):=aP (x:=h) (y:=(gap:G)) X X (dB (by omega) (by grind));have q3:ax (f9 (aO rV (.bin .mul jg (.bin .pow kc lO)))) (RS a b iA .any g h (M' (gap:G)) (il D'))=f (il (j3 (g*h^gap) D')):=by exact J (Fi _ _) (ar X (bE (A:=il D') X (aP (x:=g) X q1 (cE (by omega) (by omega)))) (uG (by exact aR ‹_› ‹_›) d2 d1))
     refine J eu (J fe (J (bE (a:=.var 1) (A:=il b) X q3) ?_));rfl
    have b5:aD [] FF.tl.tl.tl.tl.hd (RS b (j3 (g*h^gap) D') iA .any g h (M' (gap:G)) (il D'))=f ((RS b (j3 (g*h^gap) D') iA .any (dO b 0) h (M' (gap:G)) (il D')),.next):=
     aB (ar X (eY (A:=il b) X) (CG lb BG)) X
    have hl':(j3 (g*h^gap) D').length<=900:=J (Fi _ _) (J (cz _) (aR ‹_› ‹_›))
    have finish:∀ h':G,CD m b (j3 (g*h^gap) D') iA (dO b 0) h'=f r->aD [] FF.tl.tl.tl.tl.tl.hd (RS b (j3 (g*h^gap) D') iA .any (dO b 0) h (M' (gap:G)) (il D'))=f ((RS b (j3 (g*h^gap) D') iA .any (dO b 0) h' (M' (gap:G)) (il D')),.next) ->
      ∃ vs1 vs2,(match (match aD [] FF (RS a b sign .any g h x6 x7) with|f (vs2,.ret v)=>f (vs2,kS.ret v)|f (vs2,O)=>fc (ax RRT) (aD [] FF) h1 vs2|R=>R) with|r=>r)=f (vs1,.next)/\aD [] PQ vs1=f (vs2,.ret (M' r)):=λh' hi b6=>by
     refine eF (ih b (j3 (g*h^gap) D') iA (dO b 0) h' r (M' (gap:G)) (il D') h1 hi Je hl' (by lia)) λvs1 vs2 k1 k2=>uZ vs1 vs2 ?_ k2
     have body:aD [] FF (RS a b sign .any g h x6 x7)=f ((RS b (j3 (g*h^gap) D') iA .any (dO b 0) h' (M' (gap:G)) (il D')),.next):=
      (ag (a:=FF.hd) b1).trans ((ag (a:=FF.tl.hd) b2).trans ((ag (a:=FF.tl.tl.hd) b3).trans ((ag (a:=FF.tl.tl.tl.hd) b4).trans ((ag (a:=FF.tl.tl.tl.tl.hd) b5).trans ((ag (a:=FF.tl.tl.tl.tl.tl.hd) (b:=.skip) b6).trans X)))))
     exact J body k1
    split at e;rotate_left
    rename_i k
    rotate_left
    .exact finish h (by first|exact e|(exact dT L4 e)) (by
      refine J (cu (g:=N') X) ?_
      rfl)
    .revert e;refine gg nS λU' e=>?_;simp only[jc,rW,mi,fB,uP]at U';obtain⟨u1,u2,u3⟩:=U';refine finish ((dO b 0^(k+1)).fdiv (h^k)) (by first|exact e|(exact dT L4 e)) ?_;have p1:ax (.cmp .gt lO bC) (RS b (j3 (g*h^(k+1)) D') iA .any (dO b 0) h (M' ((k+1:a_):G)) (il D'))=f (.b (.bool V)):=by refine J (cf (x:=((k+1:a_):G)) X (y:=0) X) ?_;dsimp only[cmpInt];exact J (bP (by simp)) X
     have p2:ax (.bin .pow jg lO) (RS b (j3 (g*h^(k+1)) D') iA .any (dO b 0) h (M' ((k+1:a_):G)) (il D'))=f (M' (dO b 0^(k+1))):=aP (x:=dO b 0) (y:=((k+1:a_):G)) X X (dB (by omega) (by(simp -iota at *;omega)));have p3:ax (.bin .sub lO bQ) (RS b (j3 (g*h^(k+1)) D') iA .any (dO b 0) h (M' ((k+1:a_):G)) (il D'))=f (M' (k:G)):=by refine J (aP (x:=((k+1:a_):G)) X (y:=1) X (z:=((k+1:a_):G)-1) X) ?_;congr 3;simp
     refine J (cu p1) ?_;show aD [] (.seq (.assign 5 (.bin .fdiv (.bin .pow jg lO) (.bin .pow kc (.bin .sub lO bQ)))) .skip) _=_;refine J (ag (aB (aP p2 (aP (x:=h) X p3 (dB (by omega) (by grind))) (pS u3 u2)) X)) ?_;rfl
theorem abK(FA:a.length<=900)(Je:b.length<=900)(h:CD 10 a b sign 1 1=f r):kr.fn [il a,il b,M' sign]=f (M' r):=by refine eF (Yn 10 a b sign 1 1 r .any .any 100000 h FA Je (by exact rX _ _)) λvs1 vs2 k1 k2=>?_;have s1:aD [] cL.hd ([il a,il b,M' sign]++bz 5)=f ([il a,il b,M' sign,.any,M' 1,M' 1,.any,.any],.next):=X;have s2:aD [] cL.tl.hd [il a,il b,M' sign,.any,M' 1,M' 1,.any,.any]=f (vs1,.next):=k1;exact aI (mu:=[]) (np:=3) (more:=5) (ha:=cL) (as:=[il a,il b,M' sign]) X ((ag s1).trans ((ag s2).trans k2))
theorem Fj(a b:a_):((a:G)).fmod (b:G)=((a%b:a_):G):=by refine J (Qx _ (by simp)) ?_;rfl
theorem PR:∀(b a h1:a_),b<h1->∃ b',fc (ax lX.tl.hd.test) (aD [] lX.tl.hd.body) h1 [M' (a:G),M' (b:G)]=f ([M' (r? a b:G),b'],.next):=by intro b;induction b using e? with|_ b ih=>intro a h1 hN;cases h1 with|zero=>lia|succ h1=>
   have hT:ax lX.tl.hd.test [M' (a:G),M' (b:G)]=f (.b (.bool (!(decide ((b:G)=0))))):=cf (o:=.ne) (x:=(b:G)) X (y:=0) X;dsimp only[fc];refine J hT ?_;by_cases h0:b=0
   .clear ih hN hT;subst h0;exact J (Nat.gcd_zero_right _) ⟨_,X⟩
   .refine J (bT (by lia)) ?_;have iE:a%b<b:=uL _ (by lia);obtain⟨b',YC⟩:=ih (a%b) iE b h1 (by lia);have hm:ax (.bin .mod bw aS) [M' (a:G),M' (b:G)]=f (M' ((a%b:a_):G)):=by refine aP (x:=(a:G)) (y:=(b:G)) X X ?_;dsimp only[cX];exact J (ak (by lia)) (J (Fj _ _) X)
    have body:aD [] lX.tl.hd.body [M' (a:G),M' (b:G)]=f ([M' (b:G),M' ((a%b:a_):G)],.next):=by
     show aD [] (.seq (.bj [0,1] (.bc (aO aS (.bin .mod bw aS)))) .skip) _=_
     have:aD [] (.bj [0,1] (.bc (aO aS (.bin .mod bw aS)))) [M' (a:G),M' (b:G)]=f ([M' (b:G),M' ((a%b:a_):G)],.next):=by refine J eu (J fe (J (bE (a:=.var 1) (A:=M' (b:G)) X hm) ?_));rfl
     refine J (ag this) ?_;rfl
    refine⟨b',?_⟩;(refine J body ?_;refine J US ?_;try dsimp only);refine J YC ?_;congr 3;exact J (Nat.gcd_comm a b) (J (Nat.gcd_rec b a) (J (Nat.gcd_comm _ _) X))
theorem abL(hb:b.natAbs<=90000):Av.fn [M' a,M' b]=f (M' (r? a.natAbs b.natAbs:G)):=by
 obtain⟨b',N⟩:=PR b.natAbs a.natAbs 100000 (by lia);have ab:∀ x:G,(if x<0 then -x else x)=(x.natAbs:G):=λx=>by split<;>grind
 have s1:aD [] lX.hd [M' a,M' b]=f ([M' (a.natAbs:G),M' (b.natAbs:G)],.next):=by show f ([M' (if a<0 then -a else a),M' (if b<0 then -b else b)],kS.next)=_;exact J (ab _) (J (ab _) X)
 have s2:aD [] lX.tl.hd [M' (a.natAbs:G),M' (b.natAbs:G)]=f ([M' (r? a.natAbs b.natAbs:G),b'],.next):=N;have s3:aD [] lX.tl.tl [M' (r? a.natAbs b.natAbs:G),b']=f ([M' (r? a.natAbs b.natAbs:G),b'],.ret (M' (r? a.natAbs b.natAbs:G))):=X;exact aI (mu:=[]) (np:=2) (more:=0) (ha:=lX) (as:=[M' a,M' b]) X ((ag s1).trans ((ag s2).trans s3))
theorem Lz:∀(l:aA) (g:a_) (x:PV),(∀ x∈l,x.natAbs<=90000)->∃ x',dS (ct (aD [] iw.tl.hd.body) [2]) (l.map M') [ρ,M' (g:G),x]=f ([ρ,M' (AJ l g:G),x'],.next):=λw'=>by induction w' with|nil=>intro g x O;exact⟨x,X⟩|cons y l IH=>
  intro g x h;obtain⟨x',ih⟩:=IH (r? g y.natAbs) (M' y) λz hz=>h z (bg _ hz);refine⟨x',?_⟩
  have ht:ct (aD [] iw.tl.hd.body) [2] (M' y) [ρ,M' (g:G),x]=f ([ρ,M' (r? g y.natAbs:G),M' y],.next):=by
   have U':ax (xK (aO aS cM)) [ρ,M' (g:G),M' y]=f (M' (r? g y.natAbs:G)):=
    ar X (bE (A:=M' (g:G)) (ha:=M' y) X X) (abL (h y aQ))
   show aD [] (.seq (.assign 1 (xK (aO aS cM))) .skip) [ρ,M' (g:G),M' y]=_;refine J (ag (aB U' X)) ?_;rfl
  refine J bW ?_;rw[dS];refine J ht ?_;exact ih
theorem LA(h:∀ x∈l,x.natAbs<=90000):oh.fn [il l]=f (M' (AJ l 0:G)):=by
 obtain⟨x',hl⟩:=Lz (ρ:=il l) l 0 .any h
 have g:uq.fn [il l]=f (M' (AJ l 0:G)):=by
  have s2:aD [] iw.tl.hd [il l,M' ((0:a_):G),.any]=f ([il l,M' (AJ l 0:G),x'],.next):=
   (jQ (i:=0) (ik:=.plain) (C':=[2]) (b:=iw.tl.hd.body) (Z:=l.map M') X X X).trans hl
  exact aI (mu:=[]) (np:=1) (more:=2) (ha:=iw) (as:=[il l]) X ((ag X).trans ((ag s2).trans X))
 exact aI (mu:=[]) (np:=1) (more:=0) (ha:=og) (as:=[il l]) (M:=[il l]) X (gc (ar X (eY (A:=il l) X) g))
theorem LB:∀ l:aA,PJ l=V->∀ x∈l,x.natAbs<=90000:=λw'=>by induction w' with|nil=>intro O x h;exact g_ h gx|cons y l ih=>
  intro h x hx;revert h;refine q7 (λhy h=>?_);rcases aV.mp hx with eG|hx
  .clear hx;subst eG;exact iB hy
  .exact ih h x hx
theorem kQ(h:PK p=V):oh.fn [il p]=f (M' 1)/\p≠[]:=by revert h;refine q7 (λB h=>?_);have U':=LA (LB p B);have N:=wt h;rw[N]at U';refine⟨U',?_⟩;rintro rfl;cases N
theorem abM(p:aA):(p.map λx=>x.fdiv 1)=p:=by simp
theorem Fm(B:PK a=V)(hb:PK b=V)(FA:a.length<=900)(Je:b.length<=900)(h:CD 10 a b sign 1 1=f r)(hr:r.natAbs<=1000000000000000000) :
  ∃ M,aD [] cG.tl.tl.tl [il a,il b,M' sign,.any,.any,.any]=f (M,.ret (M' r)):=by
 have la:a.length<=lim:=by dsimp only[lim];lia
 have lb:b.length<=lim:=by dsimp only[lim];lia
 refine cF (kQ B) λc1 n1=>?_;obtain⟨c2,n2⟩:=kQ hb;have p1:0<a.length:=by cases a with|nil=>exact g_ X n1|cons _ _=>exact iG _
 have p2:0<b.length:=by cases b with|nil=>exact g_ X n2|cons _ _=>exact iG _
 have s1:aD [] cG.tl.tl.tl.hd [il a,il b,M' sign,.any,.any,.any]=f ([il a,il b,M' sign,.any,M' 1,M' 1],.next):=by refine J eu (J fe (J (bE (ar X (eY (A:=il a) X) c1) (ar X (eY (A:=il b) X) c2)) ?_));rfl
 have s2:aD [] cG.tl.tl.tl.tl.hd [il a,il b,M' sign,.any,M' 1,M' 1]=f ([il a,il b,M' sign,M' 1,M' 1,M' 1],.next):=by
  have g1:ax (.bin .pow jg (ba (bx aS))) [il a,il b,M' sign,.any,M' 1,M' 1]=f (M' 1):=by refine aP (x:=1) (y:=((b.length-1:a_):G)) X ?_ (by exact J (dB (by decide) (by lia)) (J Int.one_pow X));refine J (jb lb X) ?_;congr 3;lia
  have g2:ax (.bin .pow kc (ba (bx bw))) [il a,il b,M' sign,.any,M' 1,M' 1]=f (M' 1):=by refine aP (x:=1) (y:=((a.length-1:a_):G)) X ?_ (by exact J (dB (by decide) (by lia)) (J Int.one_pow X));refine J (jb la X) ?_;congr 3;lia
  exact aB (aP g1 g2 (cE (by decide) (by decide))) X
 refine⟨_,(ag (a:=cG.tl.tl.tl.hd) s1).trans ((ag (a:=cG.tl.tl.tl.tl.hd) s2).trans (gc ?_))⟩
 have d1:ax (f9 (aO bw jg)) [il a,il b,M' sign,M' 1,M' 1,M' 1]=f (il a):=by
  have:=uG (p:=a) (n:=1) la (by decide) (by decide)
  rw[abM]at this;exact ar X (bE (A:=il a) (ha:=M' 1) X X) this
 have d2:ax (f9 (aO aS kc)) [il a,il b,M' sign,M' 1,M' 1,M' 1]=f (il b):=by
  have:=uG (p:=b) (n:=1) lb (by decide) (by decide)
  rw[abM]at this;exact ar X (bE (A:=il b) (ha:=M' 1) X X) this
 have g:ax (nt (iD (f9 (aO bw jg)) (f9 (aO aS kc)) cM)) [il a,il b,M' sign,M' 1,M' 1,M' 1]=f (M' r):=
  ar X (nx d1 d2 (sl:=M' sign) X) (abK FA Je h)
 exact J (aP (x:=1) X g (cE (by decide) (by lia))) (J (Int.one_mul _) X)
theorem wh(h:SX x=f r):x=f r/\r.natAbs<=1000000000000000000:=by dsimp only[SX]at h;revert h;refine QP nS λO br h=>?_;subst br;revert h;refine cA (λhb h=>?_);obtain rfl:=aw h;exact⟨X,iB hb⟩
theorem abN(FA:a.length<=900)(Je:b.length<=900)(h:Lv a b=f r):pM.fn [il a,il b]=f (M' r):=by
 have la:a.length<=lim:=by dsimp only[lim];lia
 have lb:b.length<=lim:=by dsimp only[lim];lia
 revert h;refine gg nS λCA h=>?_;rw[jc]at CA;obtain⟨c1,n1⟩:=kQ CA.1;refine cF (kQ CA.2) λc2 n2=>?_;have p1:0<a.length:=by cases a with|nil=>exact g_ X n1|cons _ _=>exact iG _
 have p2:0<b.length:=by cases b with|nil=>exact g_ X n2|cons _ _=>exact iG _
 have s1:aD [] cG.hd ([il a,il b]++bz 4)=f ([il a,il b,.any,.any,.any,.any],.next):=by
  have e1:ax (.cmp .eq bw (.lst .nil)) ([il a,il b]++bz 4)=f (.b (.bool N')):=by cases a with|nil=>exact g_ X n1|cons O O'=>rfl
  have e2:ax (.cmp .eq aS (.lst .nil)) ([il a,il b]++bz 4)=f (.b (.bool N')):=by cases b with|nil=>exact g_ X n2|cons O O'=>rfl
  have e3:ax (.or (.cmp .eq bw (.lst .nil)) (.cmp .eq aS (.lst .nil))) ([il a,il b]++bz 4)=f (.b (.bool N')):=by exact J sL (J e1 e2)
  refine J (cu e3) ?_;rfl
 have s2:aD [] cG.tl.hd [il a,il b,.any,.any,.any,.any]=f ([il a,il b,M' 1,.any,.any,.any],.next):=X
 have t:ax (.cmp .lt (ba (bx bw)) (ba (bx aS))) [il a,il b,M' 1,.any,.any,.any]=f (.b (.bool (decide ((a.length:G)-1<(b.length:G)-1)))):=
  cf (o:=.lt) (jb la X) (jb lb X)
 revert h;refine TZ (λiE h=>?_) λiE h=>?_
 .have iE:a.length<b.length:=iB iE;rw[bP (by omega)]at t;obtain⟨N,L⟩:=wh h;generalize L4:(match jo a.length&&jo b.length with|V=>(-1:G)|N'=>1)=sg at N;obtain⟨M,k⟩:=Fm (sign:=sg) CA.2 CA.1 Je FA (by first|exact N|(exact dT L4 N)) L
  have s3:aD [] cG.tl.tl.hd [il a,il b,M' 1,.any,.any,.any]=f ([il b,il a,M' sg,.any,.any,.any],.next):=by
   refine J (cu t) ?_;refine J (C3 _ _) (J (ag X) ?_)
   have u2:ax (.and (.cmp .eq (.bin .mod (ba (bx bw)) nG) bQ) (.cmp .eq (.bin .mod (ba (bx aS)) nG) bQ)) [il b,il a,M' 1,.any,.any,.any]=f (.b (.bool (jo b.length&&jo a.length))):=
    Cx (ti (jb lb X) p2) (ti (jb la X) p1)
   have u3:ax (.ite (.and (.cmp .eq (.bin .mod (ba (bx bw)) nG) bQ) (.cmp .eq (.bin .mod (ba (bx aS)) nG) bQ)) (.neg bQ) bQ) [il b,il a,M' 1,.any,.any,.any]=f (M' sg):=by rw[Bool.and_comm]at u2;cases hee:jo a.length&&jo b.length with|true=>rw[hee]at u2 L4;refine J (lJ u2) (dT L4 ?_);rfl|false=>rw[hee]at u2 L4;refine J (s8 u2) (dT L4 ?_);rfl
   refine J (ag (aB u3 X)) ?_;rfl
  exact aI (mu:=[]) (np:=2) (more:=4) (ha:=cG) (as:=[il a,il b]) X ((ag s1).trans ((ag s2).trans ((ag s3).trans k)))
 .have iE:¬ a.length<b.length:=λq=>by
   have:t_ a.length b.length=V:=CU.mpr q
   rw[this]at iE;exact tF iE
  rw[bT (by lia)]at t;obtain⟨N,L⟩:=wh h;obtain⟨M,k⟩:=Fm (sign:=1) CA.1 CA.2 FA Je N L;have s3:aD [] cG.tl.tl.hd [il a,il b,M' 1,.any,.any,.any]=f ([il a,il b,M' 1,.any,.any,.any],.next):=by refine J (cu t) ?_;rfl
  exact aI (mu:=[]) (np:=2) (more:=4) (ha:=cG) (as:=[il a,il b]) X ((ag s1).trans ((ag s2).trans ((ag s3).trans k)))
noncomputable def oK (n:G):aA->G|[]=>0|c::r=>oK n r*n+c
theorem PU(hn:n.natAbs<=2):∀(l pre:aA) (x:PV) (G':G),(∀ c∈l,c.natAbs<=10)->G'.natAbs*3^l.length+10*3^l.length<=1000000->∃ x',dS (ct (aD [] vB.tl.hd.body) [3]) (l.map M') [ρ,M' n,M' G',x]=f ([ρ,M' n,M' (l.foldl (λa c=>a*n+c) G'),x'],.next):=λw'=>by induction w' with|nil=>intro pre x G' O O;exact⟨x,X⟩|cons c l IH=>
  intro pre x G' h hb;have U':=h c aQ;have ai8:1<=3^l.length:=Nat.one_le_pow _ _ (by decide);rw[fE,Nat.pow_succ]at hb;have hab:(G'*n+c).natAbs<=G'.natAbs*2+10:=by exact nab (J (JI _ _) (HN _ hn)) U'
  have ai9:G'.natAbs<=1000000:=by
   have:G'.natAbs*1<=G'.natAbs*(3^l.length*3):=HN _ (by lia)
   lia
  obtain⟨x',ih⟩:=IH (pre++[c]) (M' c) (G'*n+c) (λd hd=>h d (bg _ hd)) (by
   have:=zH (3^l.length) hab
   rw[Nat.add_mul]at this;have e:G'.natAbs*(3^l.length*3)=G'.natAbs*2*3^l.length+G'.natAbs*3^l.length:=by exact J (CZ (3^l.length) 3) (dT (Mb _ _ _) (J (show G'.natAbs*3=G'.natAbs*2+G'.natAbs by rfl) (J (Nat.add_mul _ _ _) X)))
   lia)
  refine⟨x',?_⟩
  have ht:ct (aD [] vB.tl.hd.body) [3] (M' c) [ρ,M' n,M' G',x]=f ([ρ,M' n,M' (G'*n+c),M' c],.next):=by
   have g:ax (.bin .add (.bin .mul cM aS) cD) [ρ,M' n,M' G',M' c]=f (M' (G'*n+c)):=
    aP (aP (x:=G') (y:=n) X X (cE (by lia) (by lia))) (y:=c) X X
   show aD [] (.seq (.assign 2 (.bin .add (.bin .mul cM aS) cD)) .skip) [ρ,M' n,M' G',M' c]=_;refine J (ag (aB g X)) ?_;rfl
  refine J bW ?_;rw[dS];refine J ht ?_;exact ih
theorem Tb(n:G):∀ l:aA,l.reverse.foldl (λa c=>a*n+c) 0=oK n l:=λw'=>by induction w' with|nil=>exact X|cons c l ih=>refine J C8 (J List.foldl_append (J ih ?_));rfl
theorem UQ(hn:n.natAbs<=2)(hp:∀ c∈p,c.natAbs<=10)(hl:p.length<=5):OU.fn [il p,M' n]=f (M' (oK n p)):=by
 have PW:3^p.length<=3^5:=Tv (by decide) hl;obtain⟨x',N⟩:=PU (ρ:=il p) hn p.reverse [] .any 0 (λc U'=>hp c (List.mem_reverse.mp U')) (by refine J uR ?_;simp;lia);rw[Tb]at N
 have s2:aD [] vB.tl.hd [il p,M' n,M' 0,.any]=f ([il p,M' n,M' (oK n p),x'],.next):=
  (jQ (i:=0) (ik:=.rev) (C':=[3]) (b:=vB.tl.hd.body) (Z:=p.reverse.map M') X X (by exact J U9 X)).trans N
 exact aI (mu:=[]) (np:=2) (more:=2) (ha:=vB) (as:=[il p,M' n]) X ((ag X).trans ((ag s2).trans X))
noncomputable def oM (x y:G):ZP->G|[]=>0|p::r=>p.2*x^(p.1/16%16)*y^(p.1%16)+oM x y r
theorem Tc:∀(l:aA) (a:G),sumInts (l.map .int) a=f (a+l.sum):=λw'=>by induction w' with|nil=>intro a;exact J List.sum_nil (J (Int.add_zero _) X)|cons x l ih=>intro a;dsimp only[x_,sumInts,ih,sum_cons];simp only[bW,ih,sum_cons];dsimp only[x_,sumInts,ih,sum_cons];simp only[bW,ih,sum_cons];congr 1;lia
theorem qW{x:G}{b i n:a_}(hx:x.natAbs<=b)(hb:1<=b)(hi:i<=n):(x^i).natAbs<=b^n:=by exact J (Int.natAbs_pow _ _) (aR (Nat.pow_le_pow_left hx i) (Tv hb hi))
theorem Jy{b:a_}{x y:G}(hT:jn b T)(hb:b<=1000)(hx:x.natAbs<=60)(hy:y.natAbs<=60):d9.fn [.dict (au T),M' x,M' y]=f (M' (oM x y T)):=by
 have g1:ax (.bq (.bin .mul (.bin .mul (.idx (.idx bw cD) bC) (.bin .pow aS (.idx cD bQ))) (.bin .pow cM (.idx cD nG))) [3] .plain bw) [.dict (au T),M' x,M' y,.any]=f (.list ((T.map λp=>p.2*x^(p.1/16%16)*y^(p.1%16)).map M')):=by
  refine bH (hc:=.dict (au T)) (Xs:=T.map λp=>.b (kT p.1)) X (by(dsimp only[Ef];exact J (qp _) X)) ?_ (by simp;exact hT.lim);refine J fG (eR (w:=λp:a_ × G=>M' (p.2*x^(p.1/16%16)*y^(p.1%16))) _ λp hp=>fC (dH (hT.el p hp) λe1 e2 e3=>?_));dsimp only[sm]at e1;show ax _ [.dict (au T),M' x,M' y,.b (kT p.1)]=_;have px:(x^(p.1/16%16)).natAbs<=60^5:=qW hx (by decide) (by grind);have py:(y^(p.1%16)).natAbs<=60^5:=qW hy (by decide) (by grind);have i1:ax (.idx bw cD) [.dict (au T),M' x,M' y,.b (kT p.1)]=f (.b (zr p.2)):=oq hT p hp;have i2:ax (.idx (.idx bw cD) bC) [.dict (au T),M' x,M' y,.b (kT p.1)]=f (M' p.2):=J m8 (J i1 X);have i3:ax (.bin .pow aS (.idx cD bQ)) [.dict (au T),M' x,M' y,.b (kT p.1)]=f (M' (x^(p.1/16%16))):=aP (x:=x) (y:=((p.1/16%16:a_):G)) X X (dB (by lia) (by grind));have i4:ax (.bin .pow cM (.idx cD nG)) [.dict (au T),M' x,M' y,.b (kT p.1)]=f (M' (y^(p.1%16))):=aP (x:=y) (y:=((p.1%16:a_):G)) X X (dB (by lia) (by grind));have hm:(p.2*x^(p.1/16%16)).natAbs<=1000*60^5:=by exact J (JI _ _) (Nat.mul_le_mul (by exact aR ‹_› ‹_›) px)
  exact aP (aP i2 i3 (cE (by lia) (mM px (by decide)))) i4 (cE (mM hm (by decide)) (mM py (by decide)))
 have hs:(T.map λp=>p.2*x^(p.1/16%16)*y^(p.1%16)).sum=oM x y T:=by clear g1 hT;induction T with|nil=>rfl|cons p T ih=>exact J bW (J sum_cons (J ih X))
 refine aI (mu:=[]) (np:=3) (more:=1) (ha:=ma) (as:=[.dict (au T),M' x,M' y]) (M:=[.dict (au T),M' x,M' y,.any]) X (gc (J (show([PV.dict (au T),M' x,M' y]++bz 1)=[.dict (au T),M' x,M' y,.any] from X) (J jY (J (eY g1) ?_))));have hm:(T.map λp=>p.2*x^(p.1/16%16)*y^(p.1%16)).map M'=((T.map λp=>p.2*x^(p.1/16%16)*y^(p.1%16)).map AV.int).map .b:=by simp only[fG];rfl
 refine J hm ?_;dsimp only[tC,nT];simp only[i8,Tc,hs,U0]
theorem yw:∀(l:aA) (i:a_) (G':ZP) (a3 a4:PV),(∀ k∈keys G',∀ j,i<=j->k≠j*256)->G'.length+l.length<=1000->∃ a3' a4',dS (ct (aD [2] dq.tl.hd.body) [3,4]) (fA i (l.map M')) [F,M' at_,.dict (au G'),a3,a4]=f ([F,M' at_,.dict (au (G'++ew 0 i l)),a3',a4'],.next):=λw'=>by induction w' with|nil=>intro i G' a3 a4 O O;exact⟨a3,a4,by simp[ew,fA,dS]⟩|cons c l IH=>
  intro i G' a3 a4 hk hl;simp only[fE]at hl;have ej:ax (.cmp .ne jg bC) [F,M' at_,.dict (au G'),M' (i:G),M' c]=f (.b (.bool (!(decide (c=0))))):=cf (o:=.ne) (x:=c) (y:=0) X X;have abQ:fA i ((c::l).map M')=.b (.tup [.int (i:G),.int c])::fA (i+1) (l.map M'):=X;simp -iota only [abQ,dS];have ht0:ct (aD [2] dq.tl.hd.body) [3,4] (.b (.tup [.int (i:G),.int c])) [F,M' at_,.dict (au G'),a3,a4]=aD [2] (.seq (.iff (.cmp .ne jg bC) (.seq (.dh 2 (.bc (iD cD bC bC)) (.bc (aO (.bin .sub bC jg) bQ))) .skip) .skip) .skip) [F,M' at_,.dict (au G'),M' (i:G),M' c]:=X;by_cases h0:c=0
  .refine gy (IH (i+1) G' (M' (i:G)) (M' c) (λk h j hj=>hk k h j (by exact kF ‹_›)) (by exact kF ‹_›)) λa3' a4' ih=>uY a3' a4' ?_;have hz:ew 0 i (c::l)=ew 0 (i+1) l:=by simp only[ew,fB,bP h0]
   refine J hz (dT ih (J ht0 ?_))
   have:aD [2] (.iff (.cmp .ne jg bC) (.seq (.dh 2 (.bc (iD cD bC bC)) (.bc (aO (.bin .sub bC jg) bQ))) .skip) .skip) [F,M' at_,.dict (au G'),M' (i:G),M' c]=f ([F,M' at_,.dict (au G'),M' (i:G),M' c],.next):=by exact J (cu ej) (J (bP h0) X)
   refine J (ag this) ?_;rfl
  .have jr:i*256∉keys G':=λq=>hk _ q i (c9 _) X
   obtain⟨a3',a4',ih⟩:=IH (i+1) (G'++[(i*256,-c)]) (M' (i:G)) (M' c) (λk h j hj=>by
    simp only[keys,C6,fH,bW,mN,az]at h;rcases h with h|h
    .exact hk k h j (by exact kF ‹_›)
    .lia) (by simp;lia)
   refine uY a3' a4' ?_;have hz:ew 0 i (c::l)=(i*256,-c)::ew 0 (i+1) l:=by simp only[ew,fB,bT h0];rfl
   have wX:ny (i*256)=[(i:G),0,0]:=by dsimp only[ny];refine J (show i*256/256=i by simp) (J (show i*256/16%16=0 from J (Mb i 16 16).symm (J (Nat.mul_div_cancel _ (by decide)) (Nat.mul_mod_left _ _))) (J (show i*256%16=0 from J (Mb i 16 16).symm (Nat.mul_mod_left _ _)) ?_));rfl
   have WD:j9 (.dict (au G')) (.tup [.int (i:G),.int 0,.int 0]) (.tup [.int (0-c),.int 1])=f (.dict (au (G'++[(i*256,-c)]))):=by
    have hko:keyOf [.int (i:G),.int 0,.int 0]=f (ny (i*256)):=by rw[wX];rfl
    dsimp only[j9];rw[hko];dsimp only;rw[ai (by rw[cw];unfold lim;lia)]
    have:=pO (i*256) (-c) G'
    rw[EU jr]at this;rw[<-this,Int.zero_sub]
   have hs:aD [2] (.dh 2 (.bc (iD cD bC bC)) (.bc (aO (.bin .sub bC jg) bQ))) [F,M' at_,.dict (au G'),M' (i:G),M' c]=f ([F,M' at_,.dict (au (G'++[(i*256,-c)])),M' (i:G),M' c],.next):=by show lA [F,M' at_,.dict (au G'),M' (i:G),M' c] 2 (j9 (.dict (au G')) (.tup [.int (i:G),.int 0,.int 0]) (.tup [.int (0-c),.int 1]))=_;rw[WD];rfl
   have hi:aD [2] (.iff (.cmp .ne jg bC) (.seq (.dh 2 (.bc (iD cD bC bC)) (.bc (aO (.bin .sub bC jg) bQ))) .skip) .skip) [F,M' at_,.dict (au G'),M' (i:G),M' c]=f ([F,M' at_,.dict (au (G'++[(i*256,-c)])),M' (i:G),M' c],.next):=by rw[cu ej,bT h0,US,C3,ag hs];rfl
   have hx:G'++ew 0 i (c::l)=(G'++[(i*256,-c)])++ew 0 (i+1) l:=by rw[hz];simp
   rw[hx,<-ih,ht0,ag hi];rfl
theorem PX(hl:p.length<=900):eX.fn [il p,M' 0]=f (.dict (au (jO p))):=by
 obtain⟨a3,a4,h⟩:=yw (F:=il p) (at_:=0) p 0 [(16,1)] .any .any (λk hk j hj=>by
  dsimp only[keys]at hk;simp only[bW,mN,az]at hk
  lia) (by simp;lia)
 have s2:aD [2] dq.tl.hd [il p,M' 0,.dict (au [(16,1)]),.any,.any]=f ([il p,M' 0,.dict (au (jO p)),a3,a4],.next):=
  (jQ (i:=0) (ik:=.enum) (C':=[3,4]) (b:=dq.tl.hd.body) (Z:=fA 0 (p.map M')) X X X).trans h
 exact aI (mu:=[2]) (np:=2) (more:=3) (ha:=dq) (as:=[il p,M' 0]) X ((ag X).trans ((ag s2).trans X))
theorem PY(hl:p.length<=900):eX.fn [il p,M' 1]=f (.dict (au (kL p))):=by
 obtain⟨a3,a4,h⟩:=yw (F:=il p) (at_:=1) p 0 [(1,1)] .any .any (λk hk j hj=>by
  dsimp only[keys]at hk;simp only[bW,mN,az]at hk
  lia) (by simp;lia)
 have s2:aD [2] dq.tl.hd [il p,M' 1,.dict (au [(1,1)]),.any,.any]=f ([il p,M' 1,.dict (au (kL p)),a3,a4],.next):=
  (jQ (i:=0) (ik:=.enum) (C':=[3,4]) (b:=dq.tl.hd.body) (Z:=fA 0 (p.map M')) X X X).trans h
 exact aI (mu:=[2]) (np:=2) (more:=3) (ha:=dq) (as:=[il p,M' 1]) X ((ag X).trans ((ag s2).trans X))
theorem AM:∀(l:aA) (i:a_),(∀ c∈l,c.natAbs<=b)->i+l.length<=6->(keys (ew 0 i l)).Nodup/\∀ p∈ew 0 i l,(∃ j,i<=j/\j<6/\p.1=j*256)/\p.2≠0/\p.2.natAbs<=b:=λw'=>by induction w' with|nil=>intro i O O;exact⟨r6,λp h=>g_ h gx⟩|cons c l ih=>
  intro i hb hl;simp only[fE]at hl;obtain⟨N,L⟩:=ih (i+1) (λd hd=>hb d (bg _ hd)) (by lia);have up:∀ p∈ew 0 (i+1) l,(∃ j,i<=j/\j<6/\p.1=j*256)/\p.2≠0/\p.2.natAbs<=b:=λp hp=>by obtain⟨⟨j,a1,a2,a3⟩,a4⟩:=L p hp;exact⟨⟨j,by exact kF ‹_›,a2,a3⟩,a4⟩
  dsimp only[ew];refine J (fB _) ?_;by_cases h0:c=0
  .exact J (bP h0) ⟨N,up⟩
  .refine J (bT h0) ⟨?_,λp hp=>?_⟩
   .show(z? i 256::keys (ew 0 (i+1) l)).Nodup;refine J (propext gw) ⟨λhm=>?_,N⟩;refine ah (eT.mp hm) λp hp hq=>?_;obtain⟨⟨j,a1,a2,a3⟩,_⟩:=L p hp
    have:z? i 256=i*256:=X
    rw[this,a3]at hq;lia
   .rcases aV.mp hp with eG|hp
    .clear hp;subst eG;have abR:L? c = -c:=X;refine⟨⟨i,c9 _,by lia,X⟩,?_,?_⟩
     .show L? c≠0;refine J abR ?_;lia
     .exact J abR (J (Int.natAbs_neg _) (hb c aQ))
    .exact up p hp
theorem Td:∀ j:Fin 6,(j.1*256/256<6/\j.1*256/16%16<6/\j.1*256%16<6)/\j.1*256≠16/\j.1*256≠1:=by decide +kernel
theorem LC(hb:1<=b)(h:∀ c∈l,c.natAbs<=b)(hl:l.length<=6):jn b (jO l):=by
 obtain⟨N,L⟩:=AM l 0 h (by lia);refine⟨?_,λp hp=>?_⟩
 .show(16::keys (ew 0 0 l)).Nodup;refine J (propext gw) ⟨λhm=>?_,N⟩;refine ah (eT.mp hm) λp hp hq=>?_;obtain⟨⟨j,_,a2,a3⟩,_⟩:=L p hp;exact(Td ⟨j,a2⟩).2.1 (a3.symm.trans hq)
 .rcases aV.mp hp with iC|hp
  .clear hp;subst iC;exact⟨⟨by decide,by decide,by decide⟩,by decide,by simpa using hb⟩
  .obtain⟨⟨j,_,a2,a3⟩,a4,a5⟩:=L p hp;exact qM (J a3 (Td ⟨j,a2⟩).1) a4 a5
theorem LD(hb:1<=b)(h:∀ c∈l,c.natAbs<=b)(hl:l.length<=6):jn b (kL l):=by
 obtain⟨N,L⟩:=AM l 0 h (by lia);refine⟨?_,λp hp=>?_⟩
 .show(1::keys (ew 0 0 l)).Nodup;refine J (propext gw) ⟨λhm=>?_,N⟩;refine ah (eT.mp hm) λp hp hq=>?_;obtain⟨⟨j,_,a2,a3⟩,_⟩:=L p hp;exact(Td ⟨j,a2⟩).2.2 (a3.symm.trans hq)
 .rcases aV.mp hp with j6|hp
  .clear hp;subst j6;exact⟨⟨by decide,by decide,by decide⟩,by decide,by simpa using hb⟩
  .obtain⟨⟨j,_,a2,a3⟩,a4,a5⟩:=L p hp;exact qM (J a3 (Td ⟨j,a2⟩).1) a4 a5
noncomputable def Te:aC->aA->e_|[],[]=>V|.b (.int i)::Z,j::l=>decide (i=j)&&Te Z l|O,O'=>N'
def Tf(x:ft)(l:aA):e_:=match x with|f (.list Z)=>Te Z l|_=>N'
theorem Jz:∀{Z:aC} {l:aA},Te Z l=V->Z=l.map M'|[],[],O=>X|x::Z,j::l,h=>(by cases x with|b v=>(cases v with|int i=>dsimp only[Te]at h;rw[jc,jR]at h;(refine J h.1 (J (Jz h.2) ?_));rfl|_=>exact fT h)|_=>exact fT h)|[],j::l,h=>by exact fT h|x::Z,[],h=>by cases x with|b v=>(cases v<;>exact fT h)|_=>exact fT h
theorem JA(h:Tf x l=V):x=f (il l):=by dsimp only[Tf]at h;revert h;refine VL (λO br h=>?_);subst br;exact J (Jz h) X
noncomputable def r3:aA:=[-1,0,1]
theorem Yo:(r3.all λa=>r3.all λc=>Tf (jH.fn [il [a,1],il [0,c,1]]) [a,c,1])=V:=by decide +kernel
theorem Yp:(r3.all λd=>r3.all λb=>r3.all λc=>Tf (jH.fn [il [d,b,1],il [0,c,1]]) [d,b*c,c*c+b,2*c,1])=V:=by decide +kernel
abbrev LW(b2 b3 b4 b5:PV)(lo hi mn c:G)(p q:aA)(du x y:PV):aC:=[.any,.any,b2,b3,b4,b5,M' lo,M' hi,M' mn,M' c,il p,il q,du,x,y,.any,.any,.any]
structure Good(p q:aA)(hi mn:a_)(e:ZE)(TF:G->G->G):Prop where
 el:Au (jO p) (kL q)=f [e]
 ld:e.l=16*hi
 h6:hi<6
 mn2:mn=1\/mn=2
 bd:e.b<=1000
 tt:∀ k∈e.p,k.1<256
 tv:∀ x y,oM x y e.p=TF x y
 pl:p.length<=5/\2<=p.length
 ql:q.length<=5/\2<=q.length
 pb:∀ c∈p,c.natAbs<=2
 qb:∀ c∈q,c.natAbs<=2
 zt:∀ n:G,n.natAbs<=2->TF (oK n p) (oK n q)=0
 zb:∀ n:G,n.natAbs<=2->(oK n p).natAbs<=60/\(oK n q).natAbs<=60
 rs:∀ x y:G,x.natAbs<=3->y.natAbs<=3->Lv (cT (gd p ((if x≠0 then [x] else []).map λz=>-z))) (cT (gd q ((if y≠0 then [y] else []).map λz=>-z)))=f ((1-((((q.length:G)-1)*(((p.length:G)-1)+1))%2)*2)*TF x y^mn)
section
variable{b2 b3 b4 b5 du x0 y0:PV}{lo nH mI c:G}{p q:aA}{hi mn:a_}{e:ZE}{TF:G->G->G}
theorem Good.ee(Y':Good p q hi mn e TF):l8.fn [.list [.dict (au (jO p)),.dict (au (kL q))],.b (.int 1),.b (.int 200)]=f (.list [dP e])/\rS e:=by refine cF (Yd (LC (b:=2) (by decide) Y'.pb (by have:=Y'.pl.1;lia)) (LD (b:=2) (by decide) Y'.qb (by have:=Y'.ql.1;omega)) Y'.el) λN L=>?_;exact⟨N,L e (az.mpr X)⟩
theorem l_6(Y':Good p q hi mn e TF):aD [] xX (LW b2 b3 b4 b5 lo nH mI c p q du x0 y0)=f (LW (.list [dP e]) b3 b4 b5 lo nH mI c p q du x0 y0,.next):=by
 have N:=Y'.ee.1;have g1:ax (.call "_law_given" fZ eX (aO iY bC)) (LW b2 b3 b4 b5 lo nH mI c p q du x0 y0)=f (.dict (au (jO p))):=ar X (bE (A:=il p) (ha:=M' 0) X X) (PX (by have:=Y'.pl.1;lia));have g3:ax (.lst (aO (.call "_law_given" fZ eX (aO iY bC)) (.call "_law_given" fZ eX (aO mz bQ)))) (LW b2 b3 b4 b5 lo nH mI c p q du x0 y0)=f (.list [.dict (au (jO p)),.dict (au (kL q))]):=by exact J An (J (bE g1 (ar X (bE (A:=il q) (ha:=M' 1) X X) (PY (by have:=Y'.ql.1;omega)))) X)
 exact aB (ar X (nx g3 (ha:=M' 1) (sl:=M' 200) X X) N) X
theorem t16:∀ j:Fin 6,16*j.1/256=0/\16*j.1/16%16=j.1/\16*j.1%16=0:=by decide +kernel
theorem afu:∀ j:Fin 6,((16*j.1:a_):G)/256=0/\((16*j.1:a_):G)/16%16=j.1/\((16*j.1:a_):G)%16=0:=by decide +kernel
theorem l_7(Y':Good p q hi mn e TF):aD [] xY (LW (.list [dP e]) b3 b4 b5 lo (hi:G) mI c p q du x0 y0)=f (LW (.list [dP e]) b3 b4 b5 lo (hi:G) mI c p q du x0 y0,.next):=by
 have hE:=Y'.ee.2;have g1:ax (.cmp .ne (.bi .len (bx cM)) bQ) (LW (.list [dP e]) b3 b4 b5 lo (hi:G) mI c p q du x0 y0)=f (.b (.bool N')):=X;have hk:kT e.l=.tup [.int 0,.int (hi:G),.int 0]:=by have h:=t16 ⟨hi,Y'.h6⟩;refine J Y'.ld ?_;dsimp only[kT];simp only[h.1,h.2.1,h.2.2];rfl
 have g3:ax (.bc (aO (.bc (iD bC rV bC)) (.bc (aO bQ bQ)))) (LW (.list [dP e]) b3 b4 b5 lo (hi:G) mI c p q du x0 y0)=f (.b (.tup [.tup [.int 0,.int (hi:G),.int 0],.tup [.int 1,.int 1]])):=X;have g4:ax (.cmp .ne (bN (aO (.idx cM bC) (.k (.str 0)))) (.bc (aO (.bc (iD bC rV bC)) (.bc (aO bQ bQ))))) (LW (.list [dP e]) b3 b4 b5 lo (hi:G) mI c p q du x0 y0)=f (.b (.bool N')):=by refine J jw (J (ar X (bE (A:=dP e) (ha:=.b (.str 0)) X X) (pR hE)) ?_);simp -iota only [g3,hk];dsimp only[nR,fy,fq,Fx];simp;rw[Y'.ld];exact afu ⟨hi,Y'.h6⟩
 have g5:ax (.or (.cmp .ne (.bi .len (bx cM)) bQ) (.cmp .ne (bN (aO (.idx cM bC) (.k (.str 0)))) (.bc (aO (.bc (iD bC rV bC)) (.bc (aO bQ bQ)))))) (LW (.list [dP e]) b3 b4 b5 lo (hi:G) mI c p q du x0 y0)=f (.b (.bool N')):=by exact J sL (J g1 g4)
 refine J (cu g5) ?_;rfl
theorem l_8:aD [] xZ (LW (.list [dP e]) b3 b4 b5 lo nH mI c p q du x0 y0)=f (LW (.list [dP e]) (dP e) b4 b5 lo nH mI c p q du x0 y0,.next):=aB (hc:=dP e) X X
theorem AN{g:PV->af (aC)}{α:Type}{K':α->PV}:∀(l:d_ α),(∀ x∈l,g (K' x)=f [])->lz g (l.map K')=f []:=λw'=>by induction w' with|nil=>intro O;exact X|cons x l ih=>intro h;simp only[bW,lz,h x aQ,ih λy hy=>h y (bg _ hy),HR]
theorem l_9(Y':Good p q hi mn e TF):aD [] x8 (LW b2 (dP e) b4 b5 lo nH mI c p q du x0 y0)=f (LW b2 (dP e) b4 b5 lo nH mI c p q du x0 y0,.next):=by
 have hE:=Y'.ee.2
 have g1:ax (.bR bQ [16] .plain cD (.or (.cmp .ne (.idx (.idx cD pz) bQ) bQ) (.cmp .ne (.idx pz bC) bC))) (LW b2 (dP e) b4 b5 lo nH mI c p q du x0 y0)=f (.list []):=by
  refine bH (hc:=dP e) (Xs:=e.p.map λk=>.b (kT k.1)) X (by(dsimp only[Ef];exact J (qp _) X)) ?_ (by decide);refine AN e.p λk hk=>?_;have h0:=Y'.tt k hk;have i1:ax (.idx cD pz) (bM (LW b2 (dP e) b4 b5 lo nH mI c p q du x0 y0) 16 (.b (kT k.1)))=f (.b (zr k.2)):=oq hE.ok k hk;have i2:ax (.idx (.idx cD pz) bQ) (bM (LW b2 (dP e) b4 b5 lo nH mI c p q du x0 y0) 16 (.b (kT k.1)))=f (M' 1):=J m8 (J i1 X);have i3:ax (.cmp .ne (.idx (.idx cD pz) bQ) bQ) (bM (LW b2 (dP e) b4 b5 lo nH mI c p q du x0 y0) 16 (.b (kT k.1)))=f (.b (.bool N')):=cf (o:=.ne) i2 (y:=1) X;have i4:ax (.cmp .ne (.idx pz bC) bC) (bM (LW b2 (dP e) b4 b5 lo nH mI c p q du x0 y0) 16 (.b (kT k.1)))=f (.b (.bool N')):=by refine J (cf (x:=((k.1/256:a_):G)) X (y:=0) X) ?_;dsimp only[cmpInt];refine J (bP (by lia)) ?_;rfl
  have i5:ax (.or (.cmp .ne (.idx (.idx cD pz) bQ) bQ) (.cmp .ne (.idx pz bC) bC)) (bM (LW b2 (dP e) b4 b5 lo nH mI c p q du x0 y0) 16 (.b (kT k.1)))=f (.b (.bool N')):=by exact J sL (J i3 i4)
  dsimp only[rz,cV];exact J i5 X
 have g2:ax (.cmp .gt (.bi .len (bx (.bR bQ [16] .plain cD (.or (.cmp .ne (.idx (.idx cD pz) bQ) bQ) (.cmp .ne (.idx pz bC) bC))))) bC) (LW b2 (dP e) b4 b5 lo nH mI c p q du x0 y0)=f (.b (.bool N')):=
  cf (o:=.gt) (ja (l:=[]) (by decide) g1) (y:=0) X
 refine J (cu g2) ?_;rfl
theorem afv(Y':Good p q hi mn e TF):aD [] sW (LW b2 (dP e) b4 b5 lo nH mI c p q du x0 y0)=f (LW b2 (dP e) b4 b5 lo nH mI c p q du x0 y0,.next):=by
 have hE:=Y'.ee.2
 have g1:ax (.bR nj [17] .plain (.bc (.cons (.neg nG) (Sp (.neg bQ) bC bQ nG))) (.cmp .ne (.call "_law_value" d8 d9 (iD cD (ku (aO iY nj)) (ku (aO mz nj)))) bC)) (LW b2 (dP e) b4 b5 lo nH mI c p q du x0 y0)=f (.list []):=by
  refine bH (hc:=.b (.tup [.int (-2),.int (-1),.int 0,.int 1,.int 2])) (Xs:=[-2,-1,0,1,2].map M') X X ?_ (by decide);refine AN [-2,-1,0,1,2] λn hn=>?_;have hn2:n.natAbs<=2:=by simp only[aV,gx,or_false]at hn;rcases hn with rfl|rfl|rfl|rfl|rfl<;>decide
  have i1:ax (ku (aO iY nj)) (bM (LW b2 (dP e) b4 b5 lo nH mI c p q du x0 y0) 17 (M' n))=f (M' (oK n p)):=ar X (bE (A:=il p) (ha:=M' n) X X) (UQ hn2 (λc U'=>by have:=Y'.pb c U';lia) Y'.pl.1);have i2:ax (ku (aO mz nj)) (bM (LW b2 (dP e) b4 b5 lo nH mI c p q du x0 y0) 17 (M' n))=f (M' (oK n q)):=ar X (bE (A:=il q) (ha:=M' n) X X) (UQ hn2 (λc U'=>by have:=Y'.qb c U';omega) Y'.ql.1)
  have i3:ax (.call "_law_value" d8 d9 (iD cD (ku (aO iY nj)) (ku (aO mz nj)))) (bM (LW b2 (dP e) b4 b5 lo nH mI c p q du x0 y0) 17 (M' n))=f (M' 0):=by
   have:=Jy hE.ok Y'.bd (Y'.zb n hn2).1 (Y'.zb n hn2).2
   rw[Y'.tv,Y'.zt n hn2]at this;exact ar X (nx (a:=.var 3) (A:=dP e) X i1 i2) this
  have i4:ax (.cmp .ne (.call "_law_value" d8 d9 (iD cD (ku (aO iY nj)) (ku (aO mz nj)))) bC) (bM (LW b2 (dP e) b4 b5 lo nH mI c p q du x0 y0) 17 (M' n))=f (.b (.bool N')):=cf (o:=.ne) i3 (y:=0) X;dsimp only[rz,cV];exact J i4 X
 have g2:ax (.cmp .ne (.bR nj [17] .plain (.bc (.cons (.neg nG) (Sp (.neg bQ) bC bQ nG))) (.cmp .ne (.call "_law_value" d8 d9 (iD cD (ku (aO iY nj)) (ku (aO mz nj)))) bC)) (.lst .nil)) (LW b2 (dP e) b4 b5 lo nH mI c p q du x0 y0)=f (.b (.bool N')):=by exact J jw (J g1 X)
 refine J (cu g2) ?_;rfl
noncomputable abbrev sgn (p q:aA):G:=1-((((q.length:G)-1)*(((p.length:G)-1)+1))%2)*2
theorem LF(p q:aA):(sgn p q).natAbs<=1:=by dsimp only[sgn];generalize (((q.length:G)-1)*(((p.length:G)-1)+1))=z;lia
theorem Tg(p q:aA):(sgn p q).natAbs=1:=by dsimp only[sgn];generalize (((q.length:G)-1)*(((p.length:G)-1)+1))=z;lia
theorem HG(h:Lv a b=f r):r.natAbs<=1000000000000000000:=by
 dsimp only[Lv]at h;revert h;refine gg nS λO h=>?_;revert h;refine TZ (λO h=>?_) λO h=>?_
 .exact(wh h).2
 .exact(wh h).2
theorem afw(Y':Good p q hi mn e TF):aD [] sX (LW b2 b3 b4 b5 lo nH mI c p q du x0 y0)=f (LW b2 b3 (M' (sgn p q)) b5 lo nH mI c p q du x0 y0,.next):=by
 have hp:=Y'.pl.1;have hq:=Y'.ql.1;have d1:ax (ba (bx mz)) (LW b2 b3 b4 b5 lo nH mI c p q du x0 y0)=f (M' ((q.length:G)-1)):=jb (by dsimp only[lim];lia) X;have d2:ax (.bin .add (ba (bx iY)) bQ) (LW b2 b3 b4 b5 lo nH mI c p q du x0 y0)=f (M' ((p.length:G)-1+1)):=aP (jb (by dsimp only[lim];lia) X) (y:=1) X X;have d3:=aP (o:=.mul) d1 d2 (cE (by omega) (by omega))
 have d4:=aP (o:=.mod) d3 (b:=.k (.int 2)) (y:=2) X (z:=(((q.length:G)-1)*(((p.length:G)-1)+1))%2) (by
  dsimp only[cX]
  exact J (ak (by decide)) (J (Qx _ (by decide)) X))
 exact aB (aP (o:=.sub) (a:=.k (.int 1)) (x:=1) X (aP (o:=.mul) d4 (b:=.k (.int 2)) (y:=2) X (cE (by grind) (by decide))) X) X
theorem k_2(Y':Good p q hi mn e TF)(hx:x.natAbs<=3)(hy:y.natAbs<=3):aD [] x9 (LW b2 (dP e) (M' (sgn p q)) b5 lo nH (mn:G) c p q du (M' x) (M' y))=f (LW b2 (dP e) (M' (sgn p q)) b5 lo nH (mn:G) c p q (M' (sgn p q*TF x y^mn)) (M' x) (M' y),.next):=by
 have hE:=Y'.ee.2;have v:=Jy hE.ok Y'.bd (x:=x) (y:=y) (by lia) (by lia);rw[Y'.tv]at v;have g1:ax (.call "_law_value" d8 d9 (iD cD ua xI)) (LW b2 (dP e) (M' (sgn p q)) b5 lo nH (mn:G) c p q du (M' x) (M' y))=f (M' (TF x y)):=ar X (nx (A:=dP e) (ha:=M' x) (sl:=M' y) X X X) v;have hm:=Y'.mn2;have hs:=LF p q;have J6:(sgn p q).natAbs=1:=Tg p q
 have PW:(TF x y^mn).natAbs<=1000000000000000000:=by
  have:=HG (Y'.rs x y hx hy)
  rw[JI]at this;have e:(1-((((q.length:G)-1)*(((p.length:G)-1)+1))%2)*2).natAbs=1:=J6;rw[e,Nat.one_mul]at this;exact this
 have hb:(TF x y).natAbs<=1000000000000000000:=by
  rcases hm with eG|rfl
  .clear Y' g1;subst eG;rwa [QC]at PW
  .rw[Int.natAbs_pow,Nat.pow_two]at PW;by_cases h0:(TF x y).natAbs=0
   .lia
   .exact aR (Nat.le_mul_of_pos_left _ (by lia)) PW
 exact aB (aP (o:=.mul) (a:=.var 4) (x:=sgn p q) X (aP (o:=.pow) g1 (b:=.var 8) (y:=(mn:G)) X (dB (by lia) (by lia))) (cE (by omega) (mM PW (by decide)))) X
theorem PZ(hl:l.length<=900)(N:ax (.var i) M=f (il l))(L:ax (.var j) M=f (M' x)):ax (kP (aO (.var i) (.ite (.cmp .ne (.var j) bC) (.lst (bx (.var j))) (.lst .nil)))) M=f (il (cT (gd l ((if x≠0 then [x] else []).map λz=>-z)))):=by
 have t:ax (.cmp .ne (.var j) bC) M=f (.b (.bool (!(decide (x=0))))):=cf (o:=.ne) L (y:=0) X
 have g:ax (.ite (.cmp .ne (.var j) bC) (.lst (bx (.var j))) (.lst .nil)) M=f (il (if x≠0 then [x] else [])):=by
  by_cases h0:x=0
  .rw[bP h0]at t;refine J (s8 t) (J (ak (by simpa using h0)) ?_);rfl
  .rw[bT h0]at t;refine J (lJ t) (J (ai h0) (J An (J (eY L) ?_)));rfl
 exact ar X (bE N g) (HC (by lia) (by split<;>simp))
theorem k_3(Y':Good p q hi mn e TF)(hx:x.natAbs<=3)(hy:y.natAbs<=3):aD [] ya (LW b2 b3 b4 b5 lo nH mI c p q (M' (sgn p q*TF x y^mn)) (M' x) (M' y))=f (LW b2 b3 b4 b5 lo nH mI c p q (M' (sgn p q*TF x y^mn)) (M' x) (M' y),.next):=by
 have hp:=Y'.pl.1;have hq:=Y'.ql.1;have UR:∀(l:aA) (z:G),l.length<=5->(cT (gd l ((if z≠0 then [z] else []).map λw=>-w))).length<=900:=λl z h=>by refine aR (uE _) (J (th _ _) ?_);split<;>simp<;>lia
 have r:=abN (UR p x hp) (UR q y hq) (Y'.rs x y hx hy)
 have g1:ax (oi (aO (kP (aO iY (.ite (.cmp .ne ua bC) (.lst (bx ua)) (.lst .nil)))) (kP (aO mz (.ite (.cmp .ne xI bC) (.lst (bx xI)) (.lst .nil)))))) (LW b2 b3 b4 b5 lo nH mI c p q (M' (sgn p q*TF x y^mn)) (M' x) (M' y))=f (M' (sgn p q*TF x y^mn)):=
  ar X (bE (PZ (l:=p) (x:=x) (by lia) X X) (PZ (l:=q) (x:=y) (by lia) X X)) r
 have g2:ax (.cmp .ne (oi (aO (kP (aO iY (.ite (.cmp .ne ua bC) (.lst (bx ua)) (.lst .nil)))) (kP (aO mz (.ite (.cmp .ne xI bC) (.lst (bx xI)) (.lst .nil)))))) GH) (LW b2 b3 b4 b5 lo nH mI c p q (M' (sgn p q*TF x y^mn)) (M' x) (M' y))=f (.b (.bool N')):=by refine J (cf (o:=.ne) g1 (y:=sgn p q*TF x y^mn) X) ?_;dsimp only[cmpInt];simp
 refine J (cu g2) ?_;rfl
end
end Mine.Internal
end
section
namespace Mine.Internal
noncomputable def YQ (k:a_):ZP->af G|[]=>R|p::r=>match f_ p.1 k with|V=>f p.2|N'=>YQ k r
def AP:ZP->ZP->e_|[],[]=>V|O::O',[]=>N'|A,p::S=>match zm p.2 with|V=>AP A S|N'=>match YQ p.1 A with|R=>N'|f c=>match zm (YL c p.2) with|V=>AP (oI p.1 A) S|N'=>N'
noncomputable def Yq:ZP->e_|[]=>V|p::r=>match t_ p.1 256 with|V=>Yq r|N'=>N'
def jJ(p q:aA)(hi:a_)(S:ZP):e_:=match Au (jO p) (kL q) with|f [e]=>(match f_ e.l (z? 16 hi) with|V=>(match k_ e.b 1000 with|V=>(match Yq e.p with|V=>AP e.p S|N'=>N')|N'=>N')|N'=>N')|_=>N'
def nB(p q:aA)(r:G):e_:=match Lv p q with|f v=>zm (YL v r)|R=>N'
noncomputable def LG (a d b:G):ZP:=[(32,1),(16,b-2*a),(0,a*a-a*b+d),(1,-1)]
noncomputable def SA3 (a e d c:G):ZP:=[(48,1),(32,c-3*a),(16,3*a*a-2*c*a+d),(0,-(a*a*a)+c*a*a-d*a+e),(1,-1)]
noncomputable def SB (ha a E d c:G):ZP:=[(48,1),(32,-(ha-2*(a*a-ha-c*a+d)-a*(c-a)+(c-a)*(c-a))),
 (16,-(2*(a*a-ha-c*a+d)*ha-(a*a-ha-c*a+d)*(a*a-ha-c*a+d)-a*((a*a-ha-c*a+d)*(c-a)+(a*ha-c*ha+E))+2*(a*ha-c*ha+E)*(c-a))),
 (0,-((a*a-ha-c*a+d)*(a*a-ha-c*a+d)*ha-a*(a*a-ha-c*a+d)*(a*ha-c*ha+E)+(a*ha-c*ha+E)*(a*ha-c*ha+E))),
 (1,-(a*(a*a-ha-c*a+d)-2*(a*ha-c*ha+E))),(2,-1),(17,-(a-2*(c-a)))]
noncomputable def HH (a d b:G):G:=a*a-b*a+d
noncomputable def Yr (a e d c:G):G:=-(a*a*a)+c*a*a-d*a+e
noncomputable def rB (b a e d c:G):G:=(a*a-b-c*a+d)*(a*a-b-c*a+d)*b-(a*a-b-c*a+d)*(a*b-c*b+e)*a+(a*b-c*b+e)*(a*b-c*b+e)
noncomputable def q3:aA:=[-1,0,1]
noncomputable def q9:aA:=[-4,-3,-2,-1,0,1,2,3,4]
theorem EA2:(q3.all λa=>q3.all λd=>q3.all λb=>jJ [a,1] [d,b,1] 2 (LG a d b))=V:=by decide +kernel
theorem abU:(q3.all λe=>q3.all λd=>q3.all λc=>jJ [(-1),1] [e,d,c,1] 3 (SA3 (-1) e d c))=V:=by decide +kernel
theorem abV:(q3.all λe=>q3.all λd=>q3.all λc=>jJ [0,1] [e,d,c,1] 3 (SA3 0 e d c))=V:=by decide +kernel
theorem abW:(q3.all λe=>q3.all λd=>q3.all λc=>jJ [1,1] [e,d,c,1] 3 (SA3 1 e d c))=V:=by decide +kernel
theorem abX:(q3.all λe=>q3.all λd=>q3.all λc=>jJ [(-1),(-1),1] [e,d,c,1] 3 (SB (-1) (-1) e d c))=V:=by decide +kernel
theorem abY:(q3.all λe=>q3.all λd=>q3.all λc=>jJ [(-1),0,1] [e,d,c,1] 3 (SB (-1) 0 e d c))=V:=by decide +kernel
theorem abZ:(q3.all λe=>q3.all λd=>q3.all λc=>jJ [(-1),1,1] [e,d,c,1] 3 (SB (-1) 1 e d c))=V:=by decide +kernel
theorem ab0:(q3.all λe=>q3.all λd=>q3.all λc=>jJ [0,(-1),1] [e,d,c,1] 3 (SB 0 (-1) e d c))=V:=by decide +kernel
theorem ab1:(q3.all λe=>q3.all λd=>q3.all λc=>jJ [0,0,1] [e,d,c,1] 3 (SB 0 0 e d c))=V:=by decide +kernel
theorem ab2:(q3.all λe=>q3.all λd=>q3.all λc=>jJ [0,1,1] [e,d,c,1] 3 (SB 0 1 e d c))=V:=by decide +kernel
theorem ab3:(q3.all λe=>q3.all λd=>q3.all λc=>jJ [1,(-1),1] [e,d,c,1] 3 (SB 1 (-1) e d c))=V:=by decide +kernel
theorem ab4:(q3.all λe=>q3.all λd=>q3.all λc=>jJ [1,0,1] [e,d,c,1] 3 (SB 1 0 e d c))=V:=by decide +kernel
theorem ab5:(q3.all λe=>q3.all λd=>q3.all λc=>jJ [1,1,1] [e,d,c,1] 3 (SB 1 1 e d c))=V:=by decide +kernel
theorem ab6:(q3.all λd=>q3.all λb=>jJ [(-1),(-1),1] [d,b*(-1),(-1)*(-1)+b,2*(-1),1] 2 (LG (-1) d b))=V:=by decide +kernel
theorem ab7:(q3.all λd=>q3.all λb=>jJ [(-1),0,1] [d,b*0,0*0+b,2*0,1] 2 (LG (-1) d b))=V:=by decide +kernel
theorem ab8:(q3.all λd=>q3.all λb=>jJ [(-1),1,1] [d,b*1,1*1+b,2*1,1] 2 (LG (-1) d b))=V:=by decide +kernel
theorem ab9:(q3.all λd=>q3.all λb=>jJ [0,(-1),1] [d,b*(-1),(-1)*(-1)+b,2*(-1),1] 2 (LG 0 d b))=V:=by decide +kernel
theorem aca:(q3.all λd=>q3.all λb=>jJ [0,0,1] [d,b*0,0*0+b,2*0,1] 2 (LG 0 d b))=V:=by decide +kernel
theorem acb:(q3.all λd=>q3.all λb=>jJ [0,1,1] [d,b*1,1*1+b,2*1,1] 2 (LG 0 d b))=V:=by decide +kernel
theorem acd:(q3.all λd=>q3.all λb=>jJ [1,(-1),1] [d,b*(-1),(-1)*(-1)+b,2*(-1),1] 2 (LG 1 d b))=V:=by decide +kernel
theorem ace:(q3.all λd=>q3.all λb=>jJ [1,0,1] [d,b*0,0*0+b,2*0,1] 2 (LG 1 d b))=V:=by decide +kernel
theorem acf:(q3.all λd=>q3.all λb=>jJ [1,1,1] [d,b*1,1*1+b,2*1,1] 2 (LG 1 d b))=V:=by decide +kernel
theorem RA2:(q3.all λb=>q9.all λa=>q9.all λd=>nB [a,1] [d,b,1] (HH a d b))=V:=by decide +kernel
theorem acg:(q3.all λd=>q9.all λa=>q9.all λe=>nB [a,1] [e,d,(-1),1] (Yr a e d (-1)))=V:=by decide +kernel
theorem ach:(q3.all λd=>q9.all λa=>q9.all λe=>nB [a,1] [e,d,0,1] (Yr a e d 0))=V:=by decide +kernel
theorem aci:(q3.all λd=>q9.all λa=>q9.all λe=>nB [a,1] [e,d,1,1] (Yr a e d 1))=V:=by decide +kernel
theorem acj:(q3.all λd=>q9.all λb=>q9.all λe=>nB [b,(-1),1] [e,d,(-1),1] (rB b (-1) e d (-1)))=V:=by decide +kernel
theorem ack:(q3.all λd=>q9.all λb=>q9.all λe=>nB [b,(-1),1] [e,d,0,1] (rB b (-1) e d 0))=V:=by decide +kernel
theorem acm:(q3.all λd=>q9.all λb=>q9.all λe=>nB [b,(-1),1] [e,d,1,1] (rB b (-1) e d 1))=V:=by decide +kernel
theorem acn:(q3.all λd=>q9.all λb=>q9.all λe=>nB [b,0,1] [e,d,(-1),1] (rB b 0 e d (-1)))=V:=by decide +kernel
theorem aco:(q3.all λd=>q9.all λb=>q9.all λe=>nB [b,0,1] [e,d,0,1] (rB b 0 e d 0))=V:=by decide +kernel
theorem acp:(q3.all λd=>q9.all λb=>q9.all λe=>nB [b,0,1] [e,d,1,1] (rB b 0 e d 1))=V:=by decide +kernel
theorem acq:(q3.all λd=>q9.all λb=>q9.all λe=>nB [b,1,1] [e,d,(-1),1] (rB b 1 e d (-1)))=V:=by decide +kernel
theorem acr:(q3.all λd=>q9.all λb=>q9.all λe=>nB [b,1,1] [e,d,0,1] (rB b 1 e d 0))=V:=by decide +kernel
theorem acs:(q3.all λd=>q9.all λb=>q9.all λe=>nB [b,1,1] [e,d,1,1] (rB b 1 e d 1))=V:=by decide +kernel
theorem afx:(q3.all λb=>q9.all λa=>q9.all λd=>nB [a,(-1),1] [d,b*(-1),(-1)*(-1)+b,2*(-1),1] (HH a d b*HH a d b))=V:=by decide +kernel
theorem afy:(q3.all λb=>q9.all λa=>q9.all λd=>nB [a,0,1] [d,b*0,0*0+b,2*0,1] (HH a d b*HH a d b))=V:=by decide +kernel
theorem afz:(q3.all λb=>q9.all λa=>q9.all λd=>nB [a,1,1] [d,b*1,1*1+b,2*1,1] (HH a d b*HH a d b))=V:=by decide +kernel
end Mine.Internal
end
section
open PySem
namespace Mine.Internal
theorem Yt(k:a_):∀ A:ZP,YQ k A=rQ k A:=λw'=>by induction w' with|nil=>exact X|cons p A ih=>
  dsimp only[YQ,rQ];refine J ih ?_;by_cases h:p.1=k
  .exact J (ai h) (J h (J (JK _) X))
  .exact J (ak h) (J (La h) X)
theorem P0:∀{A:ZP},rQ k A=f c->oM x y A=c*x^(k/16%16)*y^(k%16)+oM x y (oI k A):=by intro w';induction w' with|nil=>intro h;exact nS h|cons p A ih=>
  intro h;dsimp only[rQ]at h;by_cases e:p.1=k
  .rw[ai e]at h;obtain rfl:=aw h;clear ih;subst e;dsimp only[oM,oI];exact J (JK _) X
  .rw[ak e]at h;dsimp only[oM,oI,La e,ih h];refine J (La e) (J (ih h) ?_);dsimp only[oM,oI,La e,ih h];lia
theorem P5:∀(S A:ZP),AP A S=V->oM x y A=oM x y S:=λw'=>by induction w' with|nil=>(intro z1;cases z1 with|nil=>intro O;exact X|cons O O=>intro h;exact fT h)|cons p S ih=>
  intro A h;have h':(match zm p.2 with|V=>AP A S|N'=>match YQ p.1 A with|R=>N'|f c=>match zm (YL c p.2) with|V=>AP (oI p.1 A) S|N'=>N')=V:=by cases A<;>exact h
  revert h';cases h0:zm p.2 with|true=>intro h';rw[fB,jR]at h0;refine J (ih A h') ?_;dsimp only[oM];simp only[h0,Int.zero_mul,U0]|false=>cases U':YQ p.1 A with|none=>exact λh'=>fT h'|some c=>dsimp only;cases he:zm (YL c p.2) with|true=>intro h';rw[fB,HD,jR]at he;rw[Yt]at U';refine J (P0 U') (J (ih _ h') (J (by lia:c=p.2) ?_));rfl|false=>exact λh'=>fT h'
theorem Th:∀{A:ZP},Yq A=V->∀ k∈A,k.1<256:=by intro w';induction w' with|nil=>intro O k h;exact g_ h gx|cons p A ih=>
  intro h k hk;revert h;refine q7 (λhp h=>?_);rcases aV.mp hk with eG|hk
  .clear hk;subst eG;exact iB hp
  .exact ih h k hk
theorem wi(h:jJ p q hi S=V):∃ e,Au (jO p) (kL q)=f [e]/\e.l=16*hi/\e.b<=1000/\(∀ k∈e.p,k.1<256)/\∀ x y,oM x y e.p=oM x y S:=by
 dsimp only[jJ]at h;revert h;rcases he:Au (jO p) (kL q) with _|_|⟨e,_|⟨_,_⟩⟩<;>intro h<;>first|exact fT h|skip
 revert h;refine q7 (λN=>q7 (λL=>q7 (λh3 h=>?_)));exact Zs e X (wt N) (iB L) (Th h3) (λx y=>P5 S e.p h)
theorem wj(h:nB p q r=V):Lv p q=f r:=by revert h;refine QI (λv hv h=>?_);rw[fB,HD,jR]at h;refine J hv ?_;congr 1;lia
theorem ay{l:aA}{K':G->e_}(h:l.all K'=V){x:G}(hx:x∈l):K' x=V:=mK.mp h x hx
theorem zB:x∈q3↔x = -1\/x=0\/x=1:=by(dsimp only[q3];simp)
theorem eA3{a e d c:G}(B:a∈q3)(he:e∈q3)(hd:d∈q3)(U':c∈q3):jJ [a,1] [e,d,c,1] 3 (SA3 a e d c)=V:=by
 rcases zB.mp B with rfl|rfl|rfl
 .exact ay (ay (ay abU he) hd) U'
 .exact ay (ay (ay abV he) hd) U'
 .exact ay (ay (ay abW he) hd) U'
theorem eB{ha a e d c:G}(hB:ha∈q3)(B:a∈q3)(he:e∈q3)(hd:d∈q3)(U':c∈q3):jJ [ha,a,1] [e,d,c,1] 3 (SB ha a e d c)=V:=by
 rcases zB.mp hB with rfl|rfl|rfl<;>rcases zB.mp B with rfl|rfl|rfl
 .exact ay (ay (ay abX he) hd) U'
 .exact ay (ay (ay abY he) hd) U'
 .exact ay (ay (ay abZ he) hd) U'
 .exact ay (ay (ay ab0 he) hd) U'
 .exact ay (ay (ay ab1 he) hd) U'
 .exact ay (ay (ay ab2 he) hd) U'
 .exact ay (ay (ay ab3 he) hd) U'
 .exact ay (ay (ay ab4 he) hd) U'
 .exact ay (ay (ay ab5 he) hd) U'
theorem eC{a c d b:G}(B:a∈q3)(U':c∈q3)(hd:d∈q3)(hb:b∈q3):jJ [a,c,1] [d,b*c,c*c+b,2*c,1] 2 (LG a d b)=V:=by
 rcases zB.mp B with rfl|rfl|rfl<;>rcases zB.mp U' with rfl|rfl|rfl
 .exact ay (ay ab6 hd) hb
 .exact ay (ay ab7 hd) hb
 .exact ay (ay ab8 hd) hb
 .exact ay (ay ab9 hd) hb
 .exact ay (ay aca hd) hb
 .exact ay (ay acb hd) hb
 .exact ay (ay acd hd) hb
 .exact ay (ay ace hd) hb
 .exact ay (ay acf hd) hb
theorem afA{a e d c:G}(B:a∈q9)(he:e∈q9)(hd:d∈q3)(U':c∈q3):nB [a,1] [e,d,c,1] (Yr a e d c)=V:=by
 rcases zB.mp U' with rfl|rfl|rfl
 .exact ay (ay (ay acg hd) B) he
 .exact ay (ay (ay ach hd) B) he
 .exact ay (ay (ay aci hd) B) he
theorem rB'{b a e d c:G}(hb:b∈q9)(B:a∈q3)(he:e∈q9)(hd:d∈q3)(U':c∈q3):nB [b,a,1] [e,d,c,1] (rB b a e d c)=V:=by
 rcases zB.mp B with rfl|rfl|rfl<;>rcases zB.mp U' with rfl|rfl|rfl
 .exact ay (ay (ay acj hd) hb) he
 .exact ay (ay (ay ack hd) hb) he
 .exact ay (ay (ay acm hd) hb) he
 .exact ay (ay (ay acn hd) hb) he
 .exact ay (ay (ay aco hd) hb) he
 .exact ay (ay (ay acp hd) hb) he
 .exact ay (ay (ay acq hd) hb) he
 .exact ay (ay (ay acr hd) hb) he
 .exact ay (ay (ay acs hd) hb) he
theorem rC'{a d b c:G}(B:a∈q9)(hd:d∈q9)(hb:b∈q3)(U':c∈q3):nB [a,c,1] [d,b*c,c*c+b,2*c,1] (HH a d b*HH a d b)=V:=by
 rcases zB.mp U' with rfl|rfl|rfl
 .exact ay (ay (ay afx hb) B) hd
 .exact ay (ay (ay afy hb) B) hd
 .exact ay (ay (ay afz hb) B) hd
theorem LH(l:aA):cT (l++[1])=l++[1]:=J (yq _ _) (J (ak (by decide)) X)
theorem mj(a x:G)(l:aA):cT (gd (a::(l++[1])) ((if x≠0 then [x] else []).map λz=>-z))=(a-x)::(l++[1]):=by
 have:gd (a::(l++[1])) ((if x≠0 then [x] else []).map λz=>-z)=(a-x)::(l++[1]):=by
  by_cases h:x=0
  .subst h;exact J (ak (by decide)) (J mN (J (yr _) (J (Int.sub_zero _) X)))
  .refine J (ai h) ?_;show(a+-x)::gd (l++[1]) []=_;exact J (yr _) X
 exact J this (LH ((a-x)::l))
theorem afB(h:n.natAbs<=2):n∈[(-2:G),-1,0,1,2]:=nbF (n:=2) (by decide) h
def P6(p q:aA)(T:G->G->G):e_:=p.all (λc=>decide (c.natAbs<=2))&&(q.all (λc=>decide (c.natAbs<=2))&&[(-2:G),-1,0,1,2].all λn=>decide (T (oK n p) (oK n q)=0)&&(decide ((oK n p).natAbs<=60)&&decide ((oK n q).natAbs<=60)))
theorem wm{T:G->G->G}(h:P6 p q T=V):(∀ c∈p,c.natAbs<=2)/\(∀ c∈q,c.natAbs<=2)/\(∀ n:G,n.natAbs<=2->T (oK n p) (oK n q)=0)/\∀ n:G,n.natAbs<=2->(oK n p).natAbs<=60/\(oK n q).natAbs<=60:=by have a:=(jc _ _).mp h;have b:=(jc _ _).mp a.2;have k:=λ(n:G) (hn:n.natAbs<=2)=>(jc _ _).mp (mK.mp b.2 n (afB hn));exact⟨λc U'=>dY (mK.mp a.1 c U'),λc U'=>dY (mK.mp b.1 c U'),λn hn=>dY (k n hn).1,λn hn=>((jc _ _).mp (k n hn).2).imp dY dY⟩
theorem gA2:(q3.all λa=>q3.all λd=>q3.all λb=>P6 [a,1] [d,b,1] λx y=>HH (a-x) (d-y) b)=V:=by decide +kernel
theorem gA3:(q3.all λa=>q3.all λe=>q3.all λd=>q3.all λc=>P6 [a,1] [e,d,c,1] λx y=>Yr (a-x) (e-y) d c)=V:=by decide +kernel
theorem gB:(q3.all λb=>q3.all λa=>q3.all λe=>q3.all λd=>q3.all λc=>P6 [b,a,1] [e,d,c,1] λx y=>-(rB (b-x) a (e-y) d c))=V:=by decide +kernel
theorem gC:(q3.all λa=>q3.all λd=>q3.all λb=>q3.all λc=>P6 [a,c,1] [d,b*c,c*c+b,2*c,1] λx y=>HH (a-x) (d-y) b)=V:=by decide +kernel
theorem m9(B:a∈q3)(hx:x.natAbs<=3):a-x∈q9:=nbF (n:=3) (P:=λx=>∀ a∈q3,a-x∈q9) (by decide) hx a B
theorem Ti{a d b:G}(B:a∈q3)(hd:d∈q3)(hb:b∈q3):∃ e,Good [a,1] [d,b,1] 2 1 e (λx y=>HH (a-x) (d-y) b):=by
 refine zQ (wi (ay (ay (ay EA2 B) hd) hb)) λw N L h3 h4 h5=>jj (wm (ay (ay (ay gA2 B) hd) hb)) λk1 k2 k3 k4=>⟨w,N,L,by decide,.inl X,h3,h4,λx y=>?_,by simp,by simp,k1,k2,k3,k4,λx y hx hy=>?_⟩
 .refine J (h5 _ _) ?_;dsimp only[oM,LG,HH];simp;grind
 .refine J (mj a x []) (J (mj d y [b]) (J (wj (ay (ay (ay RA2 hb) (m9 B hx)) (m9 hd hy))) ?_));simp[QC]
theorem Tj{a e d c:G}(B:a∈q3)(he:e∈q3)(hd:d∈q3)(U':c∈q3):∃ w,Good [a,1] [e,d,c,1] 3 1 w (λx y=>Yr (a-x) (e-y) d c):=by
 refine zQ (wi (eA3 B he hd U')) λw N L h3 h4 h5=>jj (wm (ay (ay (ay (ay gA3 B) he) hd) U')) λk1 k2 k3 k4=>⟨w,N,L,by decide,.inl X,h3,h4,λx y=>?_,by simp,by simp,k1,k2,k3,k4,λx y hx hy=>?_⟩
 .refine J (h5 _ _) ?_;dsimp only[oM,SA3,Yr];simp;grind
 .refine J (mj a x []) (J (mj e y [d,c]) (J (wj (afA (m9 B hx) (m9 he hy) hd U')) ?_));simp[QC]
theorem Yu{ha a e d c:G}(hB:ha∈q3)(B:a∈q3)(he:e∈q3)(hd:d∈q3)(U':c∈q3):∃ w,Good [ha,a,1] [e,d,c,1] 3 1 w (λx y=>-(rB (ha-x) a (e-y) d c)):=by
 refine zQ (wi (eB hB B he hd U')) λw N L h3 h4 h5=>jj (wm (ay (ay (ay (ay (ay gB hB) B) he) hd) U')) λk1 k2 k3 k4=>⟨w,N,L,by decide,.inl X,h3,h4,λx y=>?_,by simp,by simp,k1,k2,k3,k4,λx y hx hy=>?_⟩
 .refine J (h5 _ _) ?_;dsimp only[oM,SB,rB];simp;grind
 .refine J (mj ha x [a]) (J (mj e y [d,c]) (J (wj (rB' (m9 hB hx) B (m9 he hy) hd U')) ?_));simp[QC]
theorem Yv{a d b c:G}(B:a∈q3)(hd:d∈q3)(hb:b∈q3)(U':c∈q3):∃ w,Good [a,c,1] [d,b*c,c*c+b,2*c,1] 2 2 w (λx y=>HH (a-x) (d-y) b):=by
 refine zQ (wi (eC B U' hd hb)) λw N L h3 h4 h5=>jj (wm (ay (ay (ay (ay gC B) hd) hb) U')) λk1 k2 k3 k4=>⟨w,N,L,by decide,.inr X,h3,h4,λx y=>?_,by simp,by simp,k1,k2,k3,k4,λx y hx hy=>?_⟩
 .refine J (h5 _ _) ?_;dsimp only[oM,LG,HH];simp;grind
 .refine J (mj a x [c]) (J (mj d y [b*c,c*c+b,2*c]) (J (wj (rC' (m9 B hx) (m9 hd hy) hb U')) ?_));simp;grind
structure eS(Y:St)(pl q:a_)(l:aA)(k:a_):Prop where
 wf:WF Y
 gp:Y.getM pl=f (.list [.ref q,.int (k:G)])
 gq:Y.get q=f (.list (l.map .int))
 ne:pl≠q
 ll:l.length<=13
section
variable{Y T':St}{pl q k:a_}{l:aA}
theorem eS.lt(P:eS Y pl q l k):pl<Y.n/\q<Y.n:=⟨P.wf.lt (fm P.gp),lB P.wf P.gq⟩
theorem eS.ext(P:eS Y pl q l k)(x:Ext Y T'):eS T' pl q l k:=⟨x.wf,by refine J (cQ (x.ent _ P.lt.1)) ?_;exact P.gp,x.get P.wf P.gq,P.ne,P.ll⟩
theorem acu(r:a_)(h:r<12):∃ v:G,([AV.int 1,.int 0,.int 1,.int 1,.int 1,.int 1,.int 0,.int 1,.int 5,.int 4,.int 3,.int 2]:al)[r]?=f (.int v)/\0<=v:=by refine⟨([1,0,1,1,1,1,0,1,5,4,3,2]:aA)[r]'h,?_,(by decide:∀ x∈([1,0,1,1,1,1,0,1,5,4,3,2]:aA),0<=x) _ (U5 h)⟩;show(([1,0,1,1,1,1,0,1,5,4,3,2]:aA).map AV.int)[r]?=_;exact J mL (J (lL h) X)
theorem qw(P:eS Y pl q l k)(hm:0<m):∃ T' v,c8 Y [.ref pl,.int m]=f (T',.int v)/\0<=v/\v<m/\eS T' pl q l (k+1)/\T'.n=Y.n/\∀ i,i≠pl->T'.ent i=Y.ent i:=by
 refine kA (sM P.wf P.lt.1 ⟨N',.list [.ref q,.int ((k+1:a_):G)]⟩) λT' N L h3 h4=>?_;have hgp:T'.getM pl=f (.list [.ref q,.int ((k+1:a_):G)]):=iW (by exact J (h4 _) (J (ai X) X));have hgq:T'.get q=f (.list (l.map .int)):=J (dz (Y:=Y) (by rw[h4,ak (kz P.ne)])) P.gq;have Qs:(l.map AV.int).length<=lim:=by have:=P.ll;refine J (cz _) ?_;dsimp only[lim];lia
 have e2:(2:a_)<=lim:=by decide
 have J8:l.length<=lim:=by have:=P.ll;dsimp only[lim];omega
 have s1:ex dA.hd Y [.ref pl,.int m,.ub]=f (Y,[.ref pl,.int m,.int (k:G)],.next):=by
  have:ev (.idx bw bQ) Y [.ref pl,.int m,.ub]=f (Y,.int (k:G)):=by dsimp only[ev,ao,ic];simp -iota only [cZ P.gp,fE,uQ,e2,gv];rfl
  show ex (.assign 2 (.idx bw bQ)) Y [.ref pl,.int m,.ub]=_;dsimp only[ex];refine J this ?_;rfl
 have s2:ex dA.tl.hd Y [.ref pl,.int m,.int (k:G)]=f (T',[.ref pl,.int m,.int (k:G)],.next):=by
  have hs:uX Y pl (.int 1) (.int ((k:G)+1))=f T':=by show(match Y.getM pl with|f (.list Z)=>if 1<Z.length/\Z.length<=lim then Y.set pl (.list (Z.set 1 (.int ((k:G)+1)))) else .none|f (.dict O)=>R|R=>R)=_;refine J P.gp ?_;simp only[fE,uQ];exact J (ai ⟨by decide,e2⟩) N
  show ex (.dh 0 bQ (.bin .add cM bQ)) Y [.ref pl,.int m,.int (k:G)]=_;dsimp only[ex,ev,ao,oA,cX,iS];exact J hs X
 have i0:ev (.idx bw bC) T' [.ref pl,.int m,.int (k:G)]=f (T',.ref q):=by dsimp only[ev,ao,ic];simp -iota only [cZ hgp,fE,uQ,e2,gv];rfl
 have i1:ev (.cmp .lt cM (.bi .len (bx (.idx bw bC)))) T' [.ref pl,.int m,.int (k:G)]=f (T',.bool (decide ((k:G)<(l.length:G)))):=by
  have:ev (.bi .len (bx (.idx bw bC))) T' [.ref pl,.int m,.int (k:G)]=f (T',.int (l.length:G)):=by refine J IG (J p7 (J i0 ?_));dsimp only[ev,je];simp only[hgq,J8,gv,cz]
  refine J NA ?_;dsimp only[ev,ao]at this ⊢;refine J this ?_;rfl
 have P':eS T' pl q l (k+1):=⟨L,hgp,hgq,P.ne,P.ll⟩;have fin:∀ v:G,0<=v.fmod m/\v.fmod m<m:=λv=>by exact J (Qx _ (by lia)) ⟨Int.emod_nonneg _ (by lia),Int.emod_lt_of_pos _ hm⟩
 have run:∀ v:G,ex dA.tl.tl T' [.ref pl,.int m,.int (k:G)]=f (T',[.ref pl,.int m,.int (k:G)],.ret (.int (v.fmod m)))->c8 Y [.ref pl,.int m]=f (T',.int (v.fmod m)):=λv h=>by
  have:ex dA Y [.ref pl,.int m,.ub]=f (T',[.ref pl,.int m,.int (k:G)],.ret (.int (v.fmod m))):=by show ex (.seq dA.hd (.seq dA.tl.hd dA.tl.tl)) Y [.ref pl,.int m,.ub]=_;refine J sz (J s1 ?_);simp only;dsimp only[ex];refine J s2 ?_;exact h
  show(match ex dA Y [.ref pl,.int m,.ub]with
   |f (s1,O,.ret v)=>f (s1,v)
   |f (s1,O,.next)=>f (s1,.none)
   |_=>R)=_
  exact J this X
 have P7:∀(e:CE) (v:G),ev e T' [.ref pl,.int m,.int (k:G)]=f (T',.int v)->ev (.bin .mod e aS) T' [.ref pl,.int m,.int (k:G)]=f (T',.int (v.fmod m)):=λe v h=>by dsimp only[ev];refine J h ?_;dsimp only[ev,ao,oA,cX];exact J (ak (by omega)) X
 have acw:∀{t:CE} {a b iv:CS} {g:e_},ev t T' [.ref pl,.int m,.int (k:G)]=f (T',.bool g)->ex (.seq (.iff t a b) iv) T' [.ref pl,.int m,.int (k:G)]=(match (bif g then ex a T' [.ref pl,.int m,.int (k:G)] else ex b T' [.ref pl,.int m,.int (k:G)]) with|f (s1,lh,.next)=>ex iv s1 lh|r=>r):=fun {t a b iv g} h=>by cases g<;>(dsimp only[ex];simp -iota only [h,C3,HU])<;>rfl
 by_cases hk:k<l.length
 .have hx:l[k]?=f l[k]:=lL hk
  have i2:ev (.bi .abs (bx (.idx (.idx bw bC) cM))) T' [.ref pl,.int m,.int (k:G)]=f (T',.int (if l[k]<0 then -l[k] else l[k])):=by
   have:ev (.idx (.idx bw bC) cM) T' [.ref pl,.int m,.int (k:G)]=f (T',.int l[k]):=by refine J xe (J i0 ?_);dsimp only[ev,ao,ic];(simp -iota only [hgq,Qs,gv];dsimp only[hgq,Qs,if_true];simp -iota only [hgq,Qs,gv]);show(match (match (l.map AV.int)[k]? with|r=>r) with|f z=>f (T',z)|R=>R)=_;refine J mL ?_;refine J hx ?_;rfl
   refine J IG (J p7 (J this ?_));rfl
  refine Im T' _ (run (if l[k]<0 then -l[k] else l[k]) ?_) ((fin _).1) ((fin _).2) P' h3 (λi hi=>by exact J (h4 _) (J (ak hi) X));show ex (.seq (.iff (.cmp .lt cM (.bi .len (bx (.idx bw bC)))) (.seq (.ret (.bin .mod (.bi .abs (bx (.idx (.idx bw bC) cM))) aS)) .skip) .skip) dA.tl.tl.tl) T' _=_;exact J (acw i1) (J (bP (by omega)) (J (C3 _ _) (J sz (J DK (J (P7 _ _ i2) X)))))
 .have hr:k%12<12:=uL _ (by decide);refine ah (acu (k%12) hr) λv hv O=>?_
  have i2:ev (.idx (.bc (.cons bQ (.cons bC (.cons bQ (.cons bQ (.cons bQ (.cons bQ (.cons bC (.cons bQ (Sp zI5 zI4 B2 nG)))))))))) (.bin .mod cM So)) T' [.ref pl,.int m,.int (k:G)]=f (T',.int v):=by
   have i3:ev (.bin .mod cM So) T' [.ref pl,.int m,.int (k:G)]=f (T',.int ((k%12:a_):G)):=by dsimp only[ev,ao,oA,cX];exact J (ak (by decide)) (J (show(k:G).fmod 12=((k%12:a_):G) from Fj k 12) X)
   have i4:ev (.bc (.cons bQ (.cons bC (.cons bQ (.cons bQ (.cons bQ (.cons bQ (.cons bC (.cons bQ (Sp zI5 zI4 B2 nG)))))))))) T' [.ref pl,.int m,.int (k:G)]=f (T',.tup [.int 1,.int 0,.int 1,.int 1,.int 1,.int 1,.int 0,.int 1,.int 5,.int 4,.int 3,.int 2]):=X;refine J xe (J i4 ?_);(dsimp only;refine J i3 ?_;try dsimp only);show(match (if 12<=lim then([AV.int 1,.int 0,.int 1,.int 1,.int 1,.int 1,.int 0,.int 1,.int 5,.int 4,.int 3,.int 2]:al)[k%12]? else .none) with|f z=>f (T',z)|R=>R)=_;exact J (ai (by exact rX _ _)) (J hv X)
  refine Im T' _ (run v ?_) ((fin _).1) ((fin _).2) P' h3 (λi hi=>by exact J (h4 _) (J (ak hi) X));show ex (.seq (.iff (.cmp .lt cM (.bi .len (bx (.idx bw bC)))) (.seq (.ret (.bin .mod (.bi .abs (bx (.idx (.idx bw bC) cM))) aS)) .skip) .skip) dA.tl.tl.tl) T' _=_;refine J (acw i1) (J (bT (by omega)) (J (HU _ _) (J Kf ?_)));simp only;show ex (.seq (.ret (.bin .mod (.idx (.bc (.cons bQ (.cons bC (.cons bQ (.cons bQ (.cons bQ (.cons bQ (.cons bC (.cons bQ (Sp zI5 zI4 B2 nG)))))))))) (.bin .mod cM So)) aS)) .skip) T' _=_;dsimp only[ex,ex];exact J (P7 _ _ i2) X
end
section
variable{Y T':St}{pl q k:a_}{l:aA}
abbrev DE:CE:=.bin .sub (.call "_law_draw" c8 ff (aO bw B2)) bQ
theorem LI:∀(Z:al) (Y:St) (k:a_),eS Y pl q l k->∃(T':St) (ds:aA),rj (one (ev DE) [2] [.ref pl,d,.ub]) Z Y=f (T',ds.map AV.int)/\eS T' pl q l (k+Z.length)/\ds.length=Z.length/\(∀ x∈ds,x∈q3)/\T'.n=Y.n/\∀ i,i≠pl->T'.ent i=Y.ent i:=λw'=>by induction w' with|nil=>intro Y k P;exact⟨Y,[],X,P,X,λO h=>g_ h gx,X,λO O=>X⟩|cons x Z ih=>
  intro Y k P;refine oz (qw P (m:=3) (by decide)) λae v N L h3 h4 h5 h6=>oz (ih ae (k+1) h4) λT' ds g1 g2 g3 g4 g5 g6=>?_
  have ho:one (ev DE) [2] [.ref pl,d,.ub] Y x=f (ae,[.int (v-1)]):=by
   have:ev DE Y [.ref pl,d,x]=f (ae,.int (v-1)):=by have U':ev (.call "_law_draw" c8 ff (aO bw B2)) Y [.ref pl,d,x]=f (ae,.int v):=N;refine J mV (J U' ?_);rfl
   show(match ev DE Y [.ref pl,d,x]with
    |f (s4,y)=>f (s4,[y])
    |R=>R)=_
   exact J this X
  refine Im T' ((v-1)::ds) ?_ (by exact J fE (J (show k+(Z.length+1)=k+1+Z.length by lia) g2)) (by simp[g3]) (λy hy=>?_) (g5.trans h5) (λi hi=>(g6 i hi).trans (h6 i hi))
  ·(dsimp only[rj];(refine J ho ?_;try dsimp only;refine J g1 ?_;try dsimp only));rfl
  .rcases aV.mp hy with eG|hy
   .clear hy;subst eG;refine J (propext zB) ?_;lia
   .exact g4 y hy
theorem JB(P:eS Y pl q l k){d:a_}(hd:d<=100):∃(T':St) (n:a_) (ds:aA),jG Y [.ref pl,.int (d:G)]=f (T',.ref n)/\eS T' pl q l (k+d)/\ds.length=d/\(∀ x∈ds,x∈q3)/\T'.get n=f (.list ((ds++[1]).map .int))/\Y.n<=n/\Y.n<=T'.n/\∀ i,i<Y.n->i≠pl->T'.ent i=Y.ent i:=by
 have hr:(gZ (d:G)).length=d:=by unfold gZ;exact J (cz _) (J List.length_range X)
 refine oz (LI (d:=.int (d:G)) (gZ (d:G)) Y k P) λae ds g1 g2 g3 g4 g5 g6=>?_;rw[hr]at g2 g3;refine kA (iX g2.wf (.list (ds.map .int))) λaq a1 a2 a3 a4=>?_;refine kA (iX a2 (.list [.int 1])) λbo b1 b2 b3 b4=>?_;refine kA (iX b2 (.list ((ds++[1]).map .int))) λiz c1 c2 c3 c4=>?_;have E2:Ext ae aq:=⟨a2,by lia,λi hi=>by exact J (a4 _) (J (ak (by lia)) X)⟩;have E3:Ext aq bo:=⟨b2,by lia,λi hi=>by exact J (b4 _) (J (ak (by lia)) X)⟩;have E4:Ext bo iz:=⟨c2,by lia,λi hi=>by exact J (c4 _) (J (ak (by lia)) X)⟩
 have t1:ev (.bq DE [2] .range aS) Y [.ref pl,.int (d:G),.ub]=f (aq,.ref ae.n):=by
  show lV (f (Y,.int (d:G))) .range (one (ev DE) [2] [.ref pl,.int (d:G),.ub])=_;have hi:jd Y .range (.int (d:G))=f (gZ (d:G),.none):=by show(if 0<=(d:G)/\(d:G)<=1000000 then f (gZ (d:G),Option.none) else .none)=_;exact J (ai ⟨by simp,by lia⟩) X
  dsimp only[lV];refine J hi ?_;dsimp only[j7,lS];refine J g1 ?_;dsimp only[iM];refine J (ai (by rw[cz,g3];unfold lim;lia)) ?_;dsimp only[Ny,jl];exact J a1 X
 have t2:ev (.lst (bx bQ)) aq [.ref pl,.int (d:G),.ub]=f (bo,.ref aq.n):=by show jl aq (.list [.int 1])=_;dsimp only[jl];exact J b1 X
 have t3:ev (.bin .add (.bq DE [2] .range aS) (.lst (bx bQ))) Y [.ref pl,.int (d:G),.ub]=f (iz,.ref bo.n):=by refine J mV (J t1 ?_);dsimp only;refine J t2 ?_;dsimp only;have e2:bo.get aq.n=f (.list [.int 1]):=gV (e:=⟨N',.list [.int 1]⟩) (by exact J (b4 _) (J (ai X) X));dsimp only[oA];refine J (E3.get a2 (gV (e:=⟨N',.list (ds.map .int)⟩) (by exact J (a4 _) (J (ai X) X)))) (J e2 ?_);dsimp only;refine J (ai ⟨by rw[cz,g3];unfold lim;omega,by decide⟩) ?_;refine J (show D_ AV.int ds++[AV.int 1]=(ds++[1]).map .int by simp) ?_;exact J c1 X
 refine⟨iz,bo.n,ds,?_,((g2.ext E2).ext E3).ext E4,g3,g4,gV (e:=⟨N',.list ((ds++[1]).map .int)⟩) (by exact J (c4 _) (J (ai X) X)),by lia,by lia,λi hi ej=>?_⟩
 .have:ex n9 Y [.ref pl,.int (d:G),.ub]=f (iz,[.ref pl,.int (d:G),.ub],.ret (.ref bo.n)):=by show ex (.seq (.ret (.bin .add (.bq DE [2] .range aS) (.lst (bx bQ)))) .skip) Y _=_;exact J sz (J DK (J t3 X))
  show(match ex n9 Y [.ref pl,.int (d:G),.ub]with
   |f (s1,O,.ret v)=>f (s1,v)
   |f (s1,O,.next)=>f (s1,.none)
   |_=>R)=_
  exact J this X
 .exact J (E4.ent i (by lia)) (J (E3.ent i (by lia)) (J (E2.ent i (by lia)) (J (g6 i ej) X)))
noncomputable def JC:St:=⟨0,.nil⟩
theorem wf0:WF JC:=⟨λi O=>X,λi h=>g_ h (Md _)⟩
noncomputable abbrev pad2 (a b:AV):al:=[a,b,.ub,.ub,.ub,.ub,.ub,.ub,.ub,.ub,.ub,.ub,.ub,.ub,.ub,.ub,.ub,.ub]
theorem l_1(hx:Z.length<=lim):∃ Y pl q,ex OV JC (pad2 (.fx Z) .ub)=f (Y,pad2 (.fx Z) (.ref pl),.next)/\eS Y pl q (Z.take 13) 0:=by
 refine Zq λGq kq=>kA (iX wf0 (.list ((Z.take 13).map .int))) λae a1 a2 a3 a4=>?_;have E1:Ext JC ae:=⟨a2,by exact rX _ _,λi hi=>g_ hi (Md _)⟩;have hg:ae.get 0=f (.list ((Z.take 13).map .int)):=gV (e:=⟨N',.list ((Z.take 13).map .int)⟩) (by exact J (a4 _) X);have afC:(Z.take 13).length<=13:=by refine J U7 ?_;lia
 have t1:ev (.gK bw KU) JC (pad2 (.fx Z) .ub)=f (ae,.ref 0):=by show(if Z.length<=lim then match JC.push (.list ((Z.take 13).map .int)) with|f s'=>f (s',AV.ref 0)|R=>R else .none)=_;exact J (ai hx) (J a1 X)
 have V1:VR (view (λO=>N') ae) (il (Z.take 13)) (.ref 0):=VR.list (dy X hg) (by
  have:=b9.bs (W:=view (λO=>N') ae) ((Z.take 13).map .int)
  rw[fG]at this
  exact this)
 have YO:tD (λO=>N') JC:=λn h=>by exact fT h
 have pe:rA (f (il (Z.take 13))) .plain (Eg (ax (.bi .int (bx Ey))) [15] ([.any,.any,.any,.any,.any,.any,.any,.any,.any,.any,.any,.any,.any,.any,.any,.any,.any,.any]:aC))=f (il (Z.take 13)):=by refine bH (hc:=il (Z.take 13)) (Xs:=(Z.take 13).map M') X X ?_ (by refine J (i9 _) ?_;dsimp only[lim];lia);exact eR (K':=M') (w:=M') (Z.take 13) λx hx=>fC X
 obtain⟨aq,z,N,L,h3,h4⟩:=sP (iv:=.none) (hc:=.none) (r:=.none) (K':=one (ev (.bi .int (bx Ey))) [15] (pad2 (.fx Z) .ub)) E1 YO V1
  (λda w1 w2 w3 aq aj x Ys x2 rx ex=>GC (jy (.bi .int (bx Ey)) ⟨Z',Z'⟩) x2.wf (λn h=>by exact fT h) (by
   refine⟨c9 18,λi O=>?_⟩
   have:bf ([.any,.any,.any,.any,.any,.any,.any,.any,.any,.any,.any,.any,.any,.any,.any,.any,.any,.any]:aC) i=.any:=xG 18 i
   exact J this VR.any) rx ex) pe
 obtain⟨q,ys,iC,hq1,YH,hq3⟩:=h4 X;clear h3 h4;subst iC
 have hys:ys=(Z.take 13).map .int:=hq3.allB (by
  have:(Z.take 13).map M'=((Z.take 13).map AV.int).map .b:=J fG X
  exact J this (J (i8 _) X))
 clear hq3;subst hys;refine kA (iX L.wf (.list [.ref q,.int 0])) λbo c1 c2 c3 c4=>?_;have E3:Ext aq bo:=⟨c2,by lia,λi hi=>by exact J (c4 _) (J (ak (by lia)) X)⟩;have ajs:=L.wf.lt (fm YH);refine kq bo aq.n q ?_ ⟨c2,iW (by exact J (c4 _) (J (ai X) X)),E3.get L.wf (cZ YH),by exact rZ ‹_›,afC⟩;have t2:ev (.bq (.bi .int (bx Ey)) [15] .plain (.gK bw KU)) JC (pad2 (.fx Z) .ub)=f (aq,.ref q):=by exact J F8 (J t1 N)
 have t3:ev (.lst (aO (.bq (.bi .int (bx Ey)) [15] .plain (.gK bw KU)) bC)) JC (pad2 (.fx Z) .ub)=f (bo,.ref aq.n):=by
  have t4:ev (aO (.bq (.bi .int (bx Ey)) [15] .plain (.gK bw KU)) bC) JC (pad2 (.fx Z) .ub)=f (aq,.tup [.ref q,.int 0]):=by exact J p7 (J t2 X)
  refine J NB (J t4 ?_);dsimp only[jl];exact J c1 X
 show ex (.assign 1 (.lst (aO (.bq (.bi .int (bx Ey)) [15] .plain (.gK bw KU)) bC))) JC _=_;dsimp only[ex];refine J t3 ?_;rfl
end
section
variable{Y T':St}{pl q k:a_}{l:aA}{C:al}{M eV:aC}
abbrev Dr(m:G):CE:=.call "_law_draw" c8 ff (aO aS (.k (.int m)))
theorem tj(h:ao C 1=.ref pl)(m:G):ev (Dr m) Y C=c8 Y [.ref pl,.int m]:=by dsimp only[ev];exact J h X
theorem CH(B:ev a Y C=f (ae,u))(hb:ev b ae C=f (aq,v)):ex (.bj [i,j] (.bc (aO a b))) Y C=f (aq,aE (aE C i u) j v,.next):=by
 have U':ev (bx b) ae C=f (aq,.tup [v]):=by(dsimp only[ev];refine J hb ?_);rfl
 have hd:ev (aO a b) Y C=f (aq,.tup [u,v]):=by refine J p7 (J B ?_);simp only[U']
 have ht:ev (.bc (aO a b)) Y C=f (aq,.tup [u,v]):=J Ke (J hd X);dsimp only[ex];refine J ht ?_;rfl
noncomputable abbrev Xp (pl q:a_):a_->e_:=λn=>n==pl||n==q
structure LJ(Y:St)(C:al)(pl q:a_)(l:aA)(k:a_)(M:aC):Prop where
 P:eS Y pl q l k
 F:FR [] Y (Xp pl q) (Xp pl q) C M
 s1:ao C 1=.ref pl
theorem FR.mk0{aj:jT}(hl:M.length<=C.length)(hk:tD aj Y)(h:∀ i,VR (view aj Y) (bf M i) (ao C i)):FR [] Y aj aj C M where
 len:=hl
 xh:=λO h=>h
 hk:=hk
 pl:=λi O=>h i
 ow:=λi h=>by exact fT h
 ap:=λi j n h=>by exact fT h
theorem LJ.step(S:LJ Y C pl q l k M)(K:fi KC c)(B:asg 1 c=N')(e:aD [] c M=f (eV,.next)):∃ T' bh,ex c Y C=f (T',bh,.next)/\LJ T' bh pl q l k eV:=by
 refine fh (pk [] c K Y _ _ C M eV .next 0 S.P.wf S.F (λn h=>.inl h) (ji _) e) λT' bh g H' N x r=>?_;have hg:g=.next:=by(clear N;cases g)<;>first|rfl|exact r.elim
 clear r;subst hg;have hx:(Xp pl q) pl=V:=by(dsimp only[Xp];simp)
 have hy:(Xp pl q) q=V:=by(dsimp only[Xp];simp)
 refine⟨T',bh,N,⟨x.wf,by refine J (cQ (x.kp _ S.P.lt.1 (.inr hx))) ?_;exact S.P.gp,by refine J (dz (x.kp _ S.P.lt.2 (.inr hy))) ?_;exact S.P.gq,S.P.ne,S.P.ll⟩,?_,(pn c B _ _ _ _ _ N).trans S.s1⟩;refine FR.mk0 x.fr.len (λn h=>x.fr.hk n (x.fr.xh n h)) λi=>(x.fr.pl i X).mono λn o e=>?_;obtain⟨q1,q2⟩:=aF e;refine dy ?_ q2;cases hh:Xp pl q n with|false=>rfl|true=>rw[x.fr.xh n hh]at q1;exact tF q1
theorem LJ.k1(S:LJ Y C pl q l k M)(hl:M.length=18):∃ T' bh x y,ex G4 Y C=f (T',bh,.next)/\LJ T' bh pl q l (k+2) (bM (bM M 13 (M' x)) 14 (M' y))/\x.natAbs<=3/\y.natAbs<=3:=by
 refine oz (qw S.P (m:=7) (by decide)) λae v a1 a2 a3 a4 a5 a6=>oz (qw a4 (m:=7) (by decide)) λaq w b1 b2 b3 b4 b5 b6=>?_;have hx:(Xp pl q) pl=V:=by(dsimp only[Xp];simp)
 have e1:ev (.bin .sub (Dr 7) B2) Y C=f (ae,.int (v-3)):=J mV (J (tj S.s1 _) (J a1 X));have e2:ev (.bin .sub (Dr 7) B2) ae C=f (aq,.int (w-3)):=J mV (J (tj S.s1 _) (J b1 X));have F1:=S.F.outside S.P.wf hx b4.wf (by lia) (λi O ej=>(b6 i ej).trans (a6 i ej));have F2:=(F1.ij (i:=13) X (VR.b (.int (v-3)))).ij (i:=14) X (VR.b (.int (w-3)));exact TU aq _ (v-3) (w-3) (CH e1 e2) ⟨b4,F2,by exact J (bk _ _ _ _) (J (ak (by decide)) (J (bk _ _ _ _) (J (ak (by decide)) S.s1)))⟩ (nnF (n:=7) (P:=λv=>(v-3).natAbs<=3) (by decide) a2 a3) (nnF (n:=7) (P:=λv=>(v-3).natAbs<=3) (by decide) b2 b3)
end
section
variable{Y T':St}{pl qq k:a_}{l:aA}{C:al}{b2 b3 b4 b5 du x0 y0:PV}{lo nH mI c:G}{p q:aA}{hi mn:a_}{e:ZE}{TF:G->G->G}
theorem afD:fi KC ux:=by(dsimp only[ux,fi,bO];simp only[EL,lQ])
theorem afE:fi KC xX:=by(dsimp only[xX,fi,bO];simp only[Cs,Ct,lQ])
theorem afF:fi KC xY:=by(dsimp only[xY,fi,bO];simp only[iy,lQ])
theorem afG:fi KC xZ:=by(dsimp only[xZ,fi,bO];simp only[lQ])
theorem afH:fi KC x8:=by(dsimp only[x8,fi,bO];simp only[lQ])
theorem acx:fi KC sW:=by(dsimp only[sW,fi,bO];simp only[sZ,XD,lQ])
theorem acy:fi KC sX:=by(dsimp only[sX,fi,bO];simp only[om,lQ])
theorem afI:fi KC x9:=by(dsimp only[x9,fi,bO];simp only[sZ,lQ])
theorem afJ:fi KC ya:=by(dsimp only[ya,fi,bO];simp only[Cv,Jo,lQ])
theorem ia(h:ex a Y C=f (ae,vo,.next)):ex (.seq a b) Y C=ex b ae vo:=by dsimp only[ex];exact J h X
theorem JD(Y':Good p q hi mn e TF)(S:LJ Y C pl qq l k (LW b2 (dP e) (M' (sgn p q)) b5 lo nH (mn:G) c p q du x0 y0))(i:G):∃ T' bh du' x' y',oE (ex OY) [5] (.int i) Y C=f (T',bh,.next)/\LJ T' bh pl qq l (k+2) (LW b2 (dP e) (M' (sgn p q)) (M' i) lo nH (mn:G) c p q du' x' y'):=by refine ME λGq kq=>?_;refine ib λGq zq=>wH ((⟨S.P,S.F.ij (i:=5) X (VR.b (.int i)),by exact J (bk _ _ _ _) (J (ak (by decide)) S.s1)⟩:LJ Y (aE C 5 (.int i)) pl qq l k (LW b2 (dP e) (M' (sgn p q)) (M' i) lo nH (mn:G) c p q du x0 y0)).k1 X) λae vo x y N S2 hx hy=>?_;replace S2:LJ ae vo pl qq l (k+2) (LW b2 (dP e) (M' (sgn p q)) (M' i) lo nH (mn:G) c p q du (M' x) (M' y)):=S2;refine eF (S2.step afI X (k_2 Y' hx hy)) λaq xF L S3=>eF (S3.step afJ X (k_3 Y' hx hy)) λbo acz h3 S4=>?_;refine zq ?_;clear zq;refine kq bo acz _ _ _ ?_ S4;show ex (.seq G4 (.seq x9 (.seq ya .skip))) Y (aE C 5 (.int i))=_;refine J (ia N) (J (ia L) (J (ia h3) ?_));rfl
theorem afK(Y':Good p q hi mn e TF)(S:LJ Y C pl qq l k (LW b2 (dP e) (M' (sgn p q)) b5 lo nH (mn:G) c p q du x0 y0)):∃ T' bh,ex Cp Y C=f (T',bh,.next):=by refine Dg λGq kq=>?_;refine wI (JD Y' S 0) λae vo O O O N S1=>?_;refine wI (JD Y' S1 1) λaq xF O O O L S2=>?_;refine kq aq xF ?_;have hi:jd Y .range (.int 2)=f ([.int 0,.int 1],.none):=X;show Kc (f (Y,.int 2)) .range (oE (ex OY) [5]) C=_;dsimp only[Kc];refine J hi ?_;dsimp only[j7,lS,lU];refine J N ?_;dsimp only;refine J L ?_;rfl
theorem Tl(Y':Good p q hi mn e TF)(S:LJ Y C pl qq l k (LW b2 b3 b4 b5 lo (hi:G) (mn:G) c p q du x0 y0)):∃ T' bh,ex (.seq xX (.seq xY (.seq xZ (.seq x8 (.seq sW (.seq sX (.seq Cp (.seq Jj .skip)))))))) Y C=f (T',bh,.ret (.bool V)):=by refine Dg λGq kq=>ib λGq zq=>?_;refine eF (S.step afE X (l_6 Y')) λO O h6 S6=>?_;refine eF (S6.step afF X (l_7 Y')) λO O h7 S7=>?_;refine eF (S7.step afG X l_8) λO O h8 S8=>?_;refine eF (S8.step afH X (l_9 Y')) λO O h9 S9=>?_;refine eF (S9.step acx X (afv Y')) λO O h10 S10=>?_;refine eF (S10.step acy X (afw Y')) λO O h11 S11=>?_;refine gy (afK Y' S11) λT' bh h12=>?_;refine zq ?_;clear zq;refine kq T' bh ?_;simp only[ia h6,ia h7,ia h8,ia h9,ia h10,ia h11,ia h12];rfl
end
end Mine.Internal
end
section
open PySem PySem.Calls PySem.W PyProof.Rows
namespace Mine.Internal
def Fo(p:Arguments)(ps:d_ o_):e_:=p.posonlyargs.isEmpty&&decide (p.args.map (·.arg)=ps)&&p.vararg.isNone&&p.kwonlyargs.isEmpty&&p.kwarg.isNone&&p.defaults.isEmpty
def P8(x:o_ × CS × d_ o_ × SC)(d:DefRec):e_:=decide (d.name=x.1)&&(Fo d.params x.2.2.1&&(Ed d.scope.names x.2.2.1 x.2.2.2&&(sI x.2.1 d.scope.names x.2.2.2 (.inr d.body)&&(decide (d.scope.kind=.function)&&(!d.scope.isCoroutine&&!d.scope.isGenerator)))))
theorem acA{α:Type _}{l:d_ α}{n:a_}(h:l.length=n+1):∃ a r,l=a::r/\r.length=n:=by cases l with|nil=>(cases h)|cons a r=>exact⟨a,r,X,Me h⟩
theorem Tn{α:Type _}{l:d_ α}(h:l.length=1):∃ a,l=[a]:=List.length_eq_one_iff.mp h
theorem To{α:Type _}{l:d_ α}(h:l.length=2):∃ a b,l=[a,b]:=eF (acA h) λa r e k=>cC (Tn k) λb q=>⟨a,b,e.trans (cb _ q)⟩
theorem Yw{α:Type _}{l:d_ α}(h:l.length=3):∃ a b c,l=[a,b,c]:=eF (acA h) λa r e k=>gy (To k) λb c q=>⟨a,b,c,e.trans (cb _ q)⟩
def CI(P:d_ o_):Prop:=∀ as:d_ Arg,as.map (·.arg)=P->∀(name:o_) (L5:d_ (af av)) (body:d_ I_) (scope:L_) (pm cd doc:aY) (M:dI),M.length=P.length->bindArgs (Z_ name ⟨[],as,R,[],L5,R,[]⟩ body scope pm cd doc) ⟨M,[]⟩=pure (P.zip M)
theorem YR{as:d_ Arg}{x:o_}{r:d_ o_}(q:as.map (·.arg)=x::r):∃ n p t,as=⟨x,n,p⟩::t/\t.map (·.arg)=r:=by cases as with|nil=>(cases q)|cons a t=>obtain⟨s,n,p⟩:=a;exact⟨n,p,t,cb (λy=>(⟨y,n,p⟩:Arg)::t) (List.cons.inj q).1,(List.cons.inj q).2⟩
theorem LK(h:∀(name:o_) (L5:d_ (af av)) (body:d_ I_) (scope:L_) (pm cd doc:aY) (n1:af av) (p1:Pos) (a:aY),bindArgs (Z_ name ⟨[],[⟨x,n1,p1⟩],R,[],L5,R,[]⟩ body scope pm cd doc) ⟨[a],[]⟩=pure [(x,a)]):CI [x]:=by intro as q name L5 body scope pm cd doc M hv;refine uW (YR q) λn1 p1 t e1 q1=>cC (Tn hv) λa e2=>J e1 (J (U8.mp q1) (J e2 ?_));exact h ..
theorem oO(h:∀(name:o_) (L5:d_ (af av)) (body:d_ I_) (scope:L_) (pm cd doc:aY) (n1 n2:af av) (p1 p2:Pos) (a b:aY),bindArgs (Z_ name ⟨[],[⟨x,n1,p1⟩,⟨y,n2,p2⟩],R,[],L5,R,[]⟩ body scope pm cd doc) ⟨[a,b],[]⟩=pure [(x,a),(y,b)]):CI [x,y]:=by intro as q name L5 body scope pm cd doc M hv;refine uW (YR q) λn1 p1 t e1 q1=>uW (YR q1) λn2 p2 u e2 q2=>gy (To hv) λa b e3=>J e1 (J e2 (J (U8.mp q2) (J e3 ?_)));exact h ..
theorem LL(h:∀(name:o_) (L5:d_ (af av)) (body:d_ I_) (scope:L_) (pm cd doc:aY) (n1 n2 n3:af av) (p1 p2 p3:Pos) (a b c:aY),bindArgs (Z_ name ⟨[],[⟨x,n1,p1⟩,⟨y,n2,p2⟩,⟨z,n3,p3⟩],R,[],L5,R,[]⟩ body scope pm cd doc) ⟨[a,b,c],[]⟩=pure [(x,a),(y,b),(z,c)]):CI [x,y,z]:=by intro as q name L5 body scope pm cd doc M hv;refine uW (YR q) λn1 p1 t e1 q1=>uW (YR q1) λn2 p2 u e2 q2=>uW (YR q2) λn3 p3 v e4 q3=>Ii (Yw hv) λa b c e3=>J e1 (J e2 (J e4 (J (U8.mp q3) (J e3 ?_))));exact h ..
noncomputable def en (n:o_) (ha:CS) (k:a_) (l:d_ o_):o_ × CS × d_ o_ × SC:=(n,ha,l.take k,l.zipIdx)
def table:d_ (o_ × CS × d_ o_ × SC):=[en "order_key" pA 2 ["order","powers"],en "mvlead" cI 2 ["a","order","powers","best","highest","place"],en "powers_divide" cJ 2 ["a","b","at","one"],en "first_divisor" bI 2 ["powers","leads","at","one"],en "is_divided" kM 2 ["powers","leads"],en "minimal_basis" cx 2 ["basis","order","found","leads","kept","at","powers","others"],en "gcd" lX 2 ["a","b"],en "rat" pC 2 ["top","bottom","g"],en "rmul" B4 2 ["a","b"],en "mvscale" ip 2 ["a","rational"],en "rinv" xM 1 ["a"],en "mvmonic" qe 2 ["a","order","first"],en "radd" xN 2 ["a","b"],en "add_term" nX 3 ["found","powers","rational","total"],en "mvadd" gX 2 ["a","b","found","powers"],en "rneg" GN 1 ["a"],en "mvneg" qf 1 ["a"],en "mvsub" wb 2 ["a","b"],en "bits_of" Aw 1 ["n","found","many","step"],en "is_vast" qh 1 ["a","greatest"],en "powers_quotient" iZ 2 ["a","b"],en "rdiv" xO 2 ["a","b"],en "powers_product" jC 2 ["a","b"],en "mvshift" iq 3 ["a","powers","rational"],en "mvdivide" nY 3 ["f","some","order","leads","quotients","most","rest","left","work","at","powers","rational","shift","factor"],en "rest_of" nq 3 ["f","some","order"],en "reduced_form" cv 2 ["basis","order","kept","keyed","found","place","at"],en "powers_join" mA 2 ["a","b"],en "pair_key" n4 3 ["pair","leads","order","joined"],en "least_pair" bS 3 ["waiting","leads","order","pair","best","place","told"],en "powers_meet" mC 2 ["a","b"],en "are_apart" l6 2 ["a","b"],en "is_needless" ck 3 ["pair","waiting","leads","joined","one","other","at","powers"],en "s_poly" sS 3 ["f","g","order","joined","first","one","other"],en "groebner" c7 3 ["some","order","most","basis","leads","waiting","done","pair","rest"],en "reduced_basis" gY 3 ["some","order","most"],en "is_free_of" kO 2 ["f","many"],en "eliminate" l7 3 ["some","many","most"],en "_law_draw" dA 2 ["pool","many","spot"],en "_law_line" n9 2 ["pool","degree"],en "ztrim" i7 1 ["row","size"],en "zadd" uj 2 ["a","b","size"],en "zmul" GX 2 ["a","b","found","one","left","other","right"],en "zcompose" rK 2 ["a","b","found","number"],en "_law_given" dq 2 ["f","at","found","power","number"],en "zdegree" qm 1 ["p"],en "gcd_all" iw 1 ["numbers","found","number"],en "zcontent" og 1 ["p"],en "check_bottom" dr 1 ["p"],en "zlead" wd 1 ["p"],en "zneg" Ck 1 ["p"],en "zsub" Cm 2 ["a","b"],en "zscale" sU 2 ["p","k"],en "zraise" sV 2 ["p","many"],en "pseudo" fj 2 ["a","b","many","more","rest","found","left","first","number","power"],en "full_rest" f7 2 ["a","b","lacking","quotient","rest","power"],en "divided" qo 2 ["p","number"],en "row_resultant" cL 3 ["a","b","sign","many","g","h","gap","rest"],en "resultant" cG 2 ["a","b","sign","shared","one","other"],en "_law_value" ma 3 ["told","x","y"],en "zat" vB 2 ["p","n","found","number"],en "law" ED 1 ["script","pool","base","told","sign","turn","low","high","many","c","p","q","due","x","y"]]
noncomputable abbrev Nd:=(o_ × Fn) ⊕ (o_ × AV)
def Fp:CE->d_ Nd->d_ Nd|.glob x v,l=>.inr (x,v)::l|.call K' F O a,l=>.inl (K',F)::Fp a l|.bin _ a c,l|.cmp _ a c,l|.isin _ a c,l|.and a c,l|.or a c,l|.idx a c,l|.gK a c,l|.fu a c,l|.kZ a c,l|.cons a c,l|.bq a _ _ c,l=>Fp a (Fp c l)|.neg a,l|.not a,l|.isNone _ a,l|.bi _ a,l|.bc a,l|.lst a,l=>Fp a l|.ite t a c,l|.bR t _ _ a c,l|.dJ t _ _ a _ _ c,l|.jU t a _ _ c,l=>Fp t (Fp a (Fp c l))|.k _,l|.var _,l|.gA,l|.bad,l|.nil,l=>l
def Yx:CS->d_ Nd->d_ Nd|.assign _ e,l|.bj _ e,l|.aug _ _ e,l|.ret e,l|.expr e,l|.append _ e,l|.extend _ e,l|.qy _ e,l|.qz _ e,l=>Fp e l|.dh _ i e,l|.iL _ _ i e,l=>Fp i (Fp e l)|.iff t a c,l=>Fp t (Yx a (Yx c l))|.kH t a,l|.gF _ _ t a,l=>Fp t (Yx a l)|.seq a c,l=>Yx a (Yx c l)|.sort _,l|.cont,l|.raise,l|.skip,l=>l
def vT(P:Nd->Prop):d_ Nd->Prop|[]=>j?|p::r=>P p/\vT P r
section
variable(w:de)(b:aJ)(mg mb:pY)
structure GF:Prop where
 g:Gx b mg mb
 fn:∀ x∈table,∃ d:DefRec,P8 x d=V/\∃ a o pm code doc,mg d.name=f (.ref a)/\b.heap.get? a=f o/\o.data=.func (Z_ d.name d.params d.body d.scope pm code doc)/\b.heap.CodeRec code d.name
 bi:∀ k,DP mg mb (BC k) (k9 k)
 it:∀ k,sB mg mb k
 r0:vf b mg "R0" (.tup [.int 0,.int 1])
 r1:vf b mg "R1" (.tup [.int 1,.int 1])
 LM:vf b mg "MOST_BITS" (.int 200000)
 P9:vf b mg "MOST_FAR" (.int 20000)
 LN:vf b mg "MOST_WORK" (.int 3000000)
end
section
variable{w:de}{b:aJ}{mg mb:pY}
theorem gh.mono(h:gh H w b mg n K' F)(hm:k_ n m=V):gh H w b mg m K' F:=by obtain⟨a,o,fd,N,L,h3,h4⟩:=h;exact Dj a o fd N L h3 (λA E s D Y T' as M z Q hA=>h4 A E s D Y T' as M z Q (hA.mono (iB hm)))
def Gd(w:de)(b:aJ)(mg:pY)(n:a_):Nd->Prop|.inl p=>gh H w b mg n p.1 p.2|.inr p=>vf b mg p.1 p.2
theorem sG(aj:GF b mg mb){n:a_}:∀(c:CE) (l:d_ Nd),vT (Gd w b mg n) (Fp c l)->Ok H w b mg mb n c/\vT (Gd w b mg n) l:=by have L:∀{a c:CE} {l:d_ Nd},(∀ l,vT (Gd w b mg n) (Fp a l)->Ok H w b mg mb n a/\vT (Gd w b mg n) l)->(∀ l,vT (Gd w b mg n) (Fp c l)->Ok H w b mg mb n c/\vT (Gd w b mg n) l)->vT (Gd w b mg n) (Fp a (Fp c l))->(Ok H w b mg mb n a/\Ok H w b mg mb n c)/\vT (Gd w b mg n) l:=λB U' h=>⟨⟨(B _ h).1,(U' _ (B _ h).2).1⟩,(U' _ (B _ h).2).2⟩;intro c;induction c with|glob x v=>exact λl h=>h|call K' F P a B=>exact λl h=>⟨⟨h.1,(B l h.2).1⟩,(B l h.2).2⟩|bi k a B=>exact λl h=>⟨⟨aj.bi k,(B l h).1⟩,(B l h).2⟩|ite t a c ht B U'|bR t _ k a c ht B U'|dJ t _ k a _ k2 c ht B U'|jU t a _ k c ht B U'=>(exact λl h=>have q:=L ht B h;have r:=U' l q.2;by first|exact⟨⟨q.1.1,q.1.2,r.1⟩,r.2⟩|exact⟨⟨q.1.1,aj.it k,q.1.2,r.1⟩,r.2⟩|exact⟨⟨q.1.1,aj.it k,q.1.2,aj.it k2,r.1⟩,r.2⟩|exact⟨⟨q.1.1,q.1.2,aj.it k,r.1⟩,r.2⟩)|bq a O k c B U'=>exact λl h=>have q:=L B U' h;⟨⟨q.1.1,aj.it k,q.1.2⟩,q.2⟩|bin _ a c B U'|cmp _ a c B U'|isin _ a c B U'|and a c B U'|or a c B U'|idx a c B U'|gK a c B U'|fu a c B U'|kZ a c B U'|cons a c B U'=>exact λl h=>L B U' h|neg a B|not a B|isNone _ a B|bc a B|lst a B=>exact B|_=>exact λl h=>⟨Z',h⟩
theorem afL(aj:GF b mg mb){n:a_}:∀(c:CS) (l:d_ Nd),vT (Gd w b mg n) (Yx c l)->Qo H w b mg mb n c/\vT (Gd w b mg n) l:=by intro c;induction c with|assign _ e|bj _ e|aug _ _ e|ret e|expr e=>exact sG aj e|append _ e|extend _ e|qy _ e|qz _ e=>exact λl h=>have q:=sG aj e l h;⟨⟨Z',q.1⟩,q.2⟩|dh _ i e|iL _ _ i e=>exact λl h=>have q:=sG aj i _ h;have r:=sG aj e _ q.2;⟨⟨Z',q.1,r.1⟩,r.2⟩|iff t a c B U'=>exact λl h=>have q:=sG aj t _ h;have r:=B _ q.2;have s:=U' _ r.2;⟨⟨q.1,r.1,s.1⟩,s.2⟩|kH t a B=>exact λl h=>have q:=sG aj t _ h;have r:=B _ q.2;⟨⟨q.1,r.1⟩,r.2⟩|gF O k t a B=>exact λl h=>have q:=sG aj t _ h;have r:=B _ q.2;⟨⟨aj.it k,q.1,r.1⟩,r.2⟩|seq a c B U'=>exact λl h=>have r:=B _ h;have s:=U' _ r.2;⟨⟨r.1,s.1⟩,s.2⟩|_=>exact λl h=>⟨Z',h⟩
theorem GF.gT(aj:GF b mg mb){i n more:a_}{K':o_}{P:d_ o_}(ht:table[i]?=f (K',ha,P,sl))(hP:CI P)(hg:vT (Gd w b mg n) (Yx ha [])):gh H w b mg (n+1) K' (bt P.length more ha):=by refine ib λGq zq=>?_;obtain⟨d,hk,a,o,pm,code,doc,m1,m2,m3,m4⟩:=aj.fn _ (dX ht);dsimp only[P8,Fo]at hk;simp only[jc,jR,U6,Tx,rW]at hk;obtain⟨k1,⟨⟨⟨⟨⟨q1,q2⟩,q3⟩,q4⟩,q5⟩,q6⟩,k3,k4,k5,k6,k7⟩:=hk;obtain⟨name,params,body,scope,pos⟩:=d;obtain⟨po,as,va,ko,kd,kw,df⟩:=params;simp only at k1 q1 q2 q3 q4 q5 q6 k3 k4 k5 k6 k7 m1 m2 m3 m4;subst k1 q1 q2 q3 q4 q5 q6;refine zq ?_;clear zq;exact W8 aj.g m1 m2 m3 m4 (hP _ X _ _ _ _ _ _ _) k3 k4 (afL aj ha [] hg).1 k5 k6 k7
end
end Mine.Internal
end
section
open PySem
namespace Mine.Internal
section
variable{Y T':St}{pl qq k:a_}{l:aA}{C:al}{b2 b3 b4 b5 du x0 y0:PV}{c:G}{p q:aA}
theorem nE(h:ax (.and (.cmp .eq tE nG) (.cmp .eq (.bc (aO lO rV)) (.bc (aO bQ nG)))) (LW b2 b3 b4 b5 lo hi mn c p q du x0 y0)=f (.b (.bool N'))):aD [] ux (LW b2 b3 b4 b5 lo hi mn c p q du x0 y0)=f (LW b2 b3 b4 b5 lo hi 1 c p q du x0 y0,.next):=by refine J (cu h) ?_;rfl
theorem LO(N:jH.fn [il p,il [0,c,1]]=f (il p'))(L:jH.fn [il q,il [0,c,1]]=f (il q')):aD [] ux (LW b2 b3 b4 b5 1 2 2 c p q du x0 y0)=f (LW b2 b3 b4 b5 1 2 2 c p' q' du x0 y0,.next):=by
 have g1:ax (iu (aO iY (.lst (iD bC yE bQ)))) (LW b2 b3 b4 b5 1 2 2 c p q du x0 y0)=f (il p'):=ar X (bE (A:=il p) (ha:=il [0,c,1]) X X) N;have g2:ax (iu (aO mz (.lst (iD bC yE bQ)))) (LW b2 b3 b4 b5 1 2 2 c p q du x0 y0)=f (il q'):=ar X (bE (A:=il q) (ha:=il [0,c,1]) X X) L;have g4:ax (.bc (aO (iu (aO iY (.lst (iD bC yE bQ)))) (iu (aO mz (.lst (iD bC yE bQ)))))) (LW b2 b3 b4 b5 1 2 2 c p q du x0 y0)=f (.tup [il p',il q']):=by exact J fe (J (bE g1 g2) X)
 refine J (cu X) (J (C3 _ _) (J qc (J eu (J g4 ?_))));rfl
theorem l_5{lo hi mn:a_}{ds es:aA}(h:(lo=1/\hi=2)\/(lo=2/\hi=3)\/(lo=1/\hi=3))(hm:mn=1\/mn=2)(U':c∈q3)(hd:ds.length=lo)(he:es.length=hi)(md:∀ x∈ds,x∈q3)(me:∀ x∈es,x∈q3) :
  ∃(mI:a_) (p' q':aA) (w:ZE) (TF:G->G->G),aD [] ux (LW b2 b3 b4 b5 lo hi mn c (ds++[1]) (es++[1]) du x0 y0)=f (LW b2 b3 b4 b5 lo hi mI c p' q' du x0 y0,.next)/\Good p' q' hi mI w TF:=by
 refine ME λGq kq=>?_;rcases h with ⟨rfl,rfl⟩|⟨rfl,rfl⟩|⟨rfl,rfl⟩
 .obtain⟨a,eG⟩:=Tn hd;clear hd;subst eG;refine gy (To he) λd b fJ=>?_;clear he;subst fJ;have B:=md a (by exact aQ);have u6:=me d (by exact aQ);have hb:=me b (by exact bg _ aQ);rcases hm with iC|rfl
  .subst iC;refine cC (Ti B u6 hb) λw Y'=>?_;exact kq 1 _ _ w _ (nE X) Y'
  .refine cC (Yv B u6 hb U') λw Y'=>?_;have N:=Yo;have L:=Yp;simp only[mK]at N L;exact kq 2 _ _ w _ (LO (JA (N a B c U')) (JA (L d u6 b hb c U'))) Y'
 .refine gy (To hd) λha a fJ=>?_;clear hd;subst fJ;refine Ii (Yw he) λe d c' GD=>?_;clear he;subst GD;refine cC (Yu (md ha (by exact aQ)) (md a (by exact bg _ aQ)) (me e (by exact aQ)) (me d (by exact bg _ aQ)) (me c' (by simp))) λw Y'=>?_;rcases hm with j6|rfl
  .subst j6;exact kq 1 _ _ w _ (nE X) Y'
  .exact kq 1 _ _ w _ (nE X) Y'
 .obtain⟨a,mr⟩:=Tn hd;clear hd;subst mr;refine Ii (Yw he) λe d c' GD=>?_;clear he;subst GD;obtain⟨w,Y'⟩:=Tj (md a (by exact aQ)) (me e (by exact aQ)) (me d (by exact bg _ aQ)) (me c' (by simp));rcases hm with oU|rfl
  .subst oU;exact kq 1 _ _ w _ (nE X) Y'
  .exact kq 1 _ _ w _ (nE X) Y'
theorem l_2(P:eS Y pl qq l k)(h:ao C 1=.ref pl):∃(T':St) (lo hi:a_),ex Co Y C=f (T',aE (aE C 6 (.int (lo:G))) 7 (.int (hi:G)),.next)/\eS T' pl qq l (k+1)/\((lo=1/\hi=2)\/(lo=2/\hi=3)\/(lo=1/\hi=3)):=by
 refine MD λGq kq=>?_;refine oz (qw P (m:=3) (by decide)) λT' v N L h3 h4 O O=>?_;have ht:ev (.bc (iD (.bc (aO bQ nG)) (.bc (aO nG B2)) (.bc (aO bQ B2)))) Y C=f (Y,.tup [.tup [.int 1,.int 2],.tup [.int 2,.int 3],.tup [.int 1,.int 3]]):=X;have hd:ev (Dr 3) Y C=f (T',.int v):=J (tj h _) (J N X)
 have run:∀ lo hi:G,ic T' (.tup [.tup [.int 1,.int 2],.tup [.int 2,.int 3],.tup [.int 1,.int 3]]) (.int v)=f (.tup [.int lo,.int hi])->ex Co Y C=f (T',aE (aE C 6 (.int lo)) 7 (.int hi),.next):=λlo hi hx=>by
  have:ev (.idx (.bc (iD (.bc (aO bQ nG)) (.bc (aO nG B2)) (.bc (aO bQ B2)))) (Dr 3)) Y C=f (T',.tup [.int lo,.int hi]):=by refine J xe (J ht ?_);dsimp only;refine J hd ?_;dsimp only;exact J hx X
  dsimp only[Co,ex];refine J this ?_;rfl
 have hv:v=0\/v=1\/v=2:=by lia
 rcases hv with rfl|rfl|rfl
 .exact kq T' 1 2 (run 1 2 X) h4 (.inl ⟨X,X⟩)
 .exact kq T' 2 3 (run 2 3 X) h4 (.inr (.inl ⟨X,X⟩))
 .exact kq T' 1 3 (run 1 3 X) h4 (.inr (.inr ⟨X,X⟩))
theorem l_3(P:eS Y pl qq l k)(h:ao C 1=.ref pl):∃(T':St) (mn:a_) (c:G),ex OW Y C=f (T',aE (aE C 8 (.int (mn:G))) 9 (.int c),.next)/\eS T' pl qq l (k+2)/\(mn=1\/mn=2)/\c∈q3:=by
 refine oz (qw P (m:=2) (by decide)) λae v N L h3 h4 O O=>?_;refine oz (qw h4 (m:=3) (by decide)) λaq w g1 g2 g3 g4 O O=>?_
 have e1:ev (.bin .add bQ (Dr 2)) Y C=f (ae,.int (1+v)):=by
  have:ev (Dr 2) Y C=f (ae,.int v):=J (tj h _) (J N X)
  refine J mV ?_;(refine J (show ev bQ Y C=f (Y,.int 1) from X) ?_;try dsimp only);refine J this ?_;rfl
 have e2:ev (.bin .sub (Dr 3) bQ) ae C=f (aq,.int (w-1)):=J mV (J (tj h _) (J g1 X));refine Dj aq ((1+v).toNat) (w-1) ?_ g4 (nnF (n:=2) (P:=λv=>(1+v).toNat=1\/(1+v).toNat=2) (by decide) L h3) (nnF (n:=3) (P:=λw=>w-1∈q3) (by decide) g2 g3);refine J (show(((1+v).toNat:a_):G)=1+v by grind) ?_;exact CH e1 e2
theorem l_4(P:eS Y pl qq l k)(h:ao C 1=.ref pl){lo hi:a_}(h6:ao C 6=.int (lo:G))(h7:ao C 7=.int (hi:G))(hl:lo<=100)(hh:hi<=100):∃(T':St) (n m:a_) (ds es:aA),ex OX Y C=f (T',aE (aE C 10 (.ref n)) 11 (.ref m),.next)/\eS T' pl qq l (k+lo+hi)/\ds.length=lo/\es.length=hi/\(∀ x∈ds,x∈q3)/\(∀ x∈es,x∈q3)/\T'.get n=f (.list ((ds++[1]).map .int))/\T'.get m=f (.list ((es++[1]).map .int))/\Xp pl qq n=N'/\Xp pl qq m=N':=by
 refine TM (JB P hl) λae n ds a1 a2 a3 a4 a5 a6 a7 a8=>TM (JB a2 hh) λaq m es b1 b2 b3 b4 b5 b6 b7 b8=>?_;have e1:ev (.call "_law_line" jG oe (aO aS lO)) Y C=f (ae,.ref n):=by(dsimp only[ev];(refine J h ?_;refine J h6 ?_;try dsimp only;exact J a1 X))
 have e2:ev (.call "_law_line" jG oe (aO aS rV)) ae C=f (aq,.ref m):=by(dsimp only[ev];(refine J h ?_;refine J h7 ?_;try dsimp only;exact J b1 X))
 have Ab:=P.lt;have hX:∀ j,Y.n<=j->Xp pl qq j=N':=λj hj=>by dsimp only[Xp];simp only[JF,HS];exact⟨by lia,by lia⟩
 refine⟨aq,n,m,ds,es,CH e1 e2,b2,a3,b3,a4,b4,?_,b5,hX n a6,hX m (by exact aR ‹_› ‹_›)⟩;exact J (dz (Y:=ae) (b8 n (lB a2.wf a5) (by lia))) a5
theorem Qa{Z:aA}(hx:Z.length<=lim):∃ T',UC JC [.fx Z]=f (T',.bool V):=by
 refine TO λGq kq=>ib λGq zq=>uW (l_1 hx) λae pl qq N P1=>zR (l_2 (C:=pad2 (.fx Z) (.ref pl)) P1 X) λaq lo hi L P2 hlh=>Ij (l_3 (C:=aE (aE (pad2 (.fx Z) (.ref pl)) 6 (.int (lo:G))) 7 (.int (hi:G))) P2 X) λbo mn c h3 P3 hmn U'=>?_;obtain⟨iz,n,m,ds,es,h4,P4,k1,k2,k3,k4,g1,g2,X1,X2⟩:=l_4 (lo:=lo) (hi:=hi) (C:=aE (aE (aE (aE (pad2 (.fx Z) (.ref pl)) 6 (.int (lo:G))) 7 (.int (hi:G))) 8 (.int (mn:G))) 9 (.int c)) P3 X X X (by lia) (by lia);refine zq ?_;clear zq
 have vp:VR (view (Xp pl qq) iz) (il (ds++[1])) (.ref n):=VR.list (dy X1 g1) (by
  have:=b9.bs (W:=view (Xp pl qq) iz) ((ds++[1]).map .int)
  rw[fG]at this
  exact this)
 have vq:VR (view (Xp pl qq) iz) (il (es++[1])) (.ref m):=VR.list (dy X2 g2) (by
  have:=b9.bs (W:=view (Xp pl qq) iz) ((es++[1]).map .int)
  rw[fG]at this
  exact this)
 have hv:b9 (view (Xp pl qq) iz) (LW .any .any .any .any lo hi mn c (ds++[1]) (es++[1]) .any .any .any) [.fx Z,.ref pl,.ub,.ub,.ub,.ub,.int (lo:G),.int (hi:G),.int (mn:G),.int c,.ref n,.ref m,.ub,.ub,.ub,.ub,.ub,.ub]:=
  b9.cons VR.any (b9.cons VR.any (b9.cons VR.any (b9.cons VR.any (b9.cons VR.any (b9.cons VR.any (b9.cons (VR.b _) (b9.cons (VR.b _) (b9.cons (VR.b _) (b9.cons (VR.b _) (b9.cons vp (b9.cons vq (b9.cons VR.any (b9.cons VR.any (b9.cons VR.any (b9.cons VR.any (b9.cons VR.any (b9.cons VR.any b9.nil)))))))))))))))))
 have S4:LJ iz [.fx Z,.ref pl,.ub,.ub,.ub,.ub,.int (lo:G),.int (hi:G),.int (mn:G),.int c,.ref n,.ref m,.ub,.ub,.ub,.ub,.ub,.ub] pl qq (Z.take 13) (0+1+2+lo+hi) (LW .any .any .any .any lo hi mn c (ds++[1]) (es++[1]) .any .any .any):=by
  refine⟨P4,FR.mk0 (by exact J hv.length (c9 _)) (λj hj=>?_) (λi=>hv.slot 0 i),X⟩;dsimp only[Xp]at hj;simp only[qx,wz]at hj;rcases hj with qA|rfl
  .clear N P1 L P2 h3 P3 h4 X1 X2 vp vq hv;subst qA;exact P4.lt.1
  .exact P4.lt.2
 refine wI (l_5 (b2:=.any) (b3:=.any) (b4:=.any) (b5:=.any) (du:=.any) (x0:=.any) (y0:=.any) hlh hmn U' k1 k2 k3 k4) λmI p' q' w TF e5 Y'=>eF (S4.step afD X e5) λJm agX h5 S5=>gy (Tl Y' S5) λT' bh h6=>kq T' ?_
 have:ex ED JC (pad2 (.fx Z) .ub)=f (T',bh,.ret (.bool V)):=by dsimp only[ED];(refine J (ia N) (J (ia L) (J (ia h3) (J (ia h4) ?_))));exact(ia h5).trans h6
 show(match ex ED JC (pad2 (.fx Z) .ub) with|f (s1,O,.ret v)=>f (s1,v)|f (s1,O,.next)=>f (s1,.none)|_=>R)=_;exact J this X
end
end Mine.Internal
end
section
open PySem PySem.Calls PySem.W PyProof.Rows
namespace Mine.Internal
section
variable{w:de}{b:aJ}{mg mb:pY}
theorem mG(aj:GF b mg mb):gh H w b mg 1 "order_key" pB:=aj.gT (i:=0) X (oO (by intros;rfl)) Z'
theorem eD(aj:GF b mg mb):gh H w b mg 2 "mvlead" xJ:=aj.gT (i:=1) X (oO (by intros;rfl)) ⟨(mG aj).mono X,Z'⟩
theorem ml(aj:GF b mg mb):gh H w b mg 1 "powers_divide" gW:=aj.gT (i:=2) X (oO (by intros;rfl)) Z'
theorem mm(aj:GF b mg mb):gh H w b mg 2 "first_divisor" kg:=aj.gT (i:=3) X (oO (by intros;rfl)) ⟨(ml aj).mono X,Z'⟩
theorem yx(aj:GF b mg mb):gh H w b mg 3 "is_divided" nW:=aj.gT (i:=4) X (oO (by intros;rfl)) ⟨(mm aj).mono X,aj.r1,Z'⟩
theorem tm(aj:GF b mg mb):gh H w b mg 4 "minimal_basis" kh:=aj.gT (i:=5) X (oO (by intros;rfl)) ⟨(eD aj).mono X,(yx aj).mono X,Z'⟩
theorem CJ(aj:GF b mg mb):gh H w b mg 1 "gcd" OO:=aj.gT (i:=6) X (oO (by intros;rfl)) Z'
theorem wo(aj:GF b mg mb):gh H w b mg 2 "rat" OP:=aj.gT (i:=7) X (oO (by intros;rfl)) ⟨(CJ aj).mono X,(CJ aj).mono X,Z'⟩
theorem Fq(aj:GF b mg mb):gh H w b mg 3 "rmul" GI:=aj.gT (i:=8) X (oO (by intros;rfl)) ⟨(wo aj).mono X,Z'⟩
theorem Fs(aj:GF b mg mb):gh H w b mg 4 "mvscale" ud:=aj.gT (i:=9) X (oO (by intros;rfl)) ⟨aj.r0,(Fq aj).mono X,Z'⟩
theorem yy(aj:GF b mg mb):gh H w b mg 3 "rinv" GK:=aj.gT (i:=10) X (LK (by intros;rfl)) ⟨(wo aj).mono X,Z'⟩
theorem pV(aj:GF b mg mb):gh H w b mg 5 "mvmonic" uf:=aj.gT (i:=11) X (oO (by intros;rfl)) ⟨(eD aj).mono X,(Fs aj).mono X,(yy aj).mono X,Z'⟩
theorem Qb(aj:GF b mg mb):gh H w b mg 3 "radd" GL:=aj.gT (i:=12) X (oO (by intros;rfl)) ⟨(wo aj).mono X,Z'⟩
theorem tq(aj:GF b mg mb):gh H w b mg 4 "add_term" jB:=aj.gT (i:=13) X (LL (by intros;rfl)) ⟨(Qb aj).mono X,aj.r0,Z'⟩
theorem LP(aj:GF b mg mb):gh H w b mg 5 "mvadd" B7:=aj.gT (i:=14) X (oO (by intros;rfl)) ⟨(tq aj).mono X,Z'⟩
theorem Qc(aj:GF b mg mb):gh H w b mg 1 "rneg" GO:=aj.gT (i:=15) X (LK (by intros;rfl)) Z'
theorem LQ(aj:GF b mg mb):gh H w b mg 2 "mvneg" Ca:=aj.gT (i:=16) X (LK (by intros;rfl)) ⟨(Qc aj).mono X,Z'⟩
theorem AQ(aj:GF b mg mb):gh H w b mg 6 "mvsub" Cc:=aj.gT (i:=17) X (oO (by intros;rfl)) ⟨(LP aj).mono X,(LQ aj).mono X,Z'⟩
theorem Ft(aj:GF b mg mb):gh H w b mg 1 "bits_of" ug:=aj.gT (i:=18) X (LK (by intros;rfl)) Z'
theorem Fu(aj:GF b mg mb):gh H w b mg 2 "is_vast" uh:=aj.gT (i:=19) X (LK (by intros;rfl)) ⟨(Ft aj).mono X,aj.LM,Z'⟩
theorem gH(aj:GF b mg mb):gh H w b mg 1 "powers_quotient" i6:=aj.gT (i:=20) X (oO (by intros;rfl)) Z'
theorem Qd(aj:GF b mg mb):gh H w b mg 3 "rdiv" GR:=aj.gT (i:=21) X (oO (by intros;rfl)) ⟨(wo aj).mono X,Z'⟩
theorem rT(aj:GF b mg mb):gh H w b mg 1 "powers_product" jD:=aj.gT (i:=22) X (oO (by intros;rfl)) Z'
theorem pW(aj:GF b mg mb):gh H w b mg 4 "mvshift" ui:=aj.gT (i:=23) X (LL (by intros;rfl)) ⟨aj.r0,(rT aj).mono X,(Fq aj).mono X,Z'⟩
theorem CK(aj:GF b mg mb):gh H w b mg 7 "mvdivide" nZ:=aj.gT (i:=24) X (LL (by intros;rfl)) ⟨(eD aj).mono X,aj.P9,(eD aj).mono X,aj.LN,(Fu aj).mono X,(mm aj).mono X,(gH aj).mono X,(Qd aj).mono X,(tq aj).mono X,(AQ aj).mono X,(pW aj).mono X,Z'⟩
theorem vD(aj:GF b mg mb):gh H w b mg 8 "rest_of" qj:=aj.gT (i:=25) X (LL (by intros;rfl)) ⟨(CK aj).mono X,Z'⟩
theorem uH(aj:GF b mg mb):gh H w b mg 9 "reduced_form" lD:=aj.gT (i:=26) X (oO (by intros;rfl)) ⟨(tm aj).mono X,(mG aj).mono X,(eD aj).mono X,(pV aj).mono X,(vD aj).mono X,Z'⟩
theorem kx(aj:GF b mg mb):gh H w b mg 1 "powers_join" mB:=aj.gT (i:=27) X (oO (by intros;rfl)) Z'
theorem CL(aj:GF b mg mb):gh H w b mg 2 "pair_key" rH:=aj.gT (i:=28) X (LL (by intros;rfl)) ⟨(kx aj).mono X,(mG aj).mono X,Z'⟩
theorem yz(aj:GF b mg mb):gh H w b mg 3 "least_pair" n5:=aj.gT (i:=29) X (LL (by intros;rfl)) ⟨(CL aj).mono X,Z'⟩
theorem vU(aj:GF b mg mb):gh H w b mg 1 "powers_meet" mD:=aj.gT (i:=30) X (oO (by intros;rfl)) Z'
theorem zC(aj:GF b mg mb):gh H w b mg 2 "are_apart" pH:=aj.gT (i:=31) X (oO (by intros;rfl)) ⟨(vU aj).mono X,Z'⟩
theorem vV(aj:GF b mg mb):gh H w b mg 3 "is_needless" mF:=aj.gT (i:=32) X (LL (by intros;rfl)) ⟨(zC aj).mono X,(kx aj).mono X,(ml aj).mono X,Z'⟩
theorem HI(aj:GF b mg mb):gh H w b mg 7 "s_poly" xQ:=aj.gT (i:=33) X (LL (by intros;rfl)) ⟨(eD aj).mono X,(eD aj).mono X,(kx aj).mono X,(pW aj).mono X,(gH aj).mono X,(yy aj).mono X,(AQ aj).mono X,(pW aj).mono X,(gH aj).mono X,(yy aj).mono X,Z'⟩
theorem CM(aj:GF b mg mb):gh H w b mg 9 "groebner" rI:=aj.gT (i:=34) X (LL (by intros;rfl)) ⟨(pV aj).mono X,(eD aj).mono X,(yz aj).mono X,(vV aj).mono X,(vD aj).mono X,(HI aj).mono X,(pV aj).mono X,(eD aj).mono X,Z'⟩
theorem tr(aj:GF b mg mb):gh H w b mg 10 "reduced_basis" kl:=aj.gT (i:=35) X (LL (by intros;rfl)) ⟨(uH aj).mono X,(CM aj).mono X,Z'⟩
theorem yA(aj:GF b mg mb):gh H w b mg 1 "is_free_of" n6:=aj.gT (i:=36) X (oO (by intros;rfl)) Z'
theorem zD(aj:GF b mg mb):gh H w b mg 11 "eliminate" pJ:=aj.gT (i:=37) X (LL (by intros;rfl)) ⟨(tr aj).mono X,(yA aj).mono X,Z'⟩
theorem gu(aj:GF b mg mb):gh H w b mg 1 "_law_draw" c8:=aj.gT (i:=38) X (oO (by intros;rfl)) Z'
theorem tu(aj:GF b mg mb):gh H w b mg 2 "_law_line" jG:=aj.gT (i:=39) X (oO (by intros;rfl)) ⟨(gu aj).mono X,Z'⟩
theorem AS(aj:GF b mg mb):gh H w b mg 1 "ztrim" Cg:=aj.gT (i:=40) X (LK (by intros;rfl)) Z'
theorem Fv(aj:GF b mg mb):gh H w b mg 2 "zadd" GV:=aj.gT (i:=41) X (oO (by intros;rfl)) ⟨(AS aj).mono X,Z'⟩
theorem Qe(aj:GF b mg mb):gh H w b mg 1 "zmul" GY:=aj.gT (i:=42) X (oO (by intros;rfl)) Z'
theorem tw(aj:GF b mg mb):gh H w b mg 3 "zcompose" rL:=aj.gT (i:=43) X (oO (by intros;rfl)) ⟨(Fv aj).mono X,(Qe aj).mono X,(AS aj).mono X,Z'⟩
theorem qX(aj:GF b mg mb):gh H w b mg 1 "_law_given" fZ:=aj.gT (i:=44) X (oO (by intros;rfl)) Z'
theorem cm(aj:GF b mg mb):gh H w b mg 1 "zdegree" uk:=aj.gT (i:=45) X (LK (by intros;rfl)) Z'
theorem Fw(aj:GF b mg mb):gh H w b mg 2 "gcd_all" uo:=aj.gT (i:=46) X (LK (by intros;rfl)) ⟨(CJ aj).mono X,Z'⟩
theorem tx(aj:GF b mg mb):gh H w b mg 3 "zcontent" rM:=aj.gT (i:=47) X (LK (by intros;rfl)) ⟨(Fw aj).mono X,Z'⟩
theorem uI(aj:GF b mg mb):gh H w b mg 1 "check_bottom" lG:=aj.gT (i:=48) X (LK (by intros;rfl)) Z'
theorem uJ(aj:GF b mg mb):gh H w b mg 1 "zlead" Ci:=aj.gT (i:=49) X (LK (by intros;rfl)) Z'
theorem Qf(aj:GF b mg mb):gh H w b mg 1 "zneg" G0:=aj.gT (i:=50) X (LK (by intros;rfl)) Z'
theorem tA(aj:GF b mg mb):gh H w b mg 3 "zsub" G2:=aj.gT (i:=51) X (oO (by intros;rfl)) ⟨(Fv aj).mono X,(Qf aj).mono X,Z'⟩
theorem lK(aj:GF b mg mb):gh H w b mg 1 "zscale" xR:=aj.gT (i:=52) X (oO (by intros;rfl)) Z'
theorem yB(aj:GF b mg mb):gh H w b mg 1 "zraise" xT:=aj.gT (i:=53) X (oO (by intros;rfl)) Z'
theorem HJ(aj:GF b mg mb):gh H w b mg 4 "pseudo" xV:=aj.gT (i:=54) X (oO (by intros;rfl)) ⟨(uI aj).mono X,(uJ aj).mono X,(tA aj).mono X,(lK aj).mono X,(yB aj).mono X,(tA aj).mono X,(lK aj).mono X,(yB aj).mono X,(lK aj).mono X,(lK aj).mono X,(lK aj).mono X,Z'⟩
theorem zE(aj:GF b mg mb):gh H w b mg 5 "full_rest" pK:=aj.gT (i:=55) X (oO (by intros;rfl)) ⟨(HJ aj).mono X,(cm aj).mono X,(cm aj).mono X,(uJ aj).mono X,Z'⟩
theorem pX(aj:GF b mg mb):gh H w b mg 1 "divided" uu:=aj.gT (i:=56) X (oO (by intros;rfl)) Z'
theorem tB(aj:GF b mg mb):gh H w b mg 6 "row_resultant" kn:=aj.gT (i:=57) X (LL (by intros;rfl)) ⟨(cm aj).mono X,(cm aj).mono X,(cm aj).mono X,(cm aj).mono X,(cm aj).mono X,(zE aj).mono X,(pX aj).mono X,(uJ aj).mono X,(cm aj).mono X,Z'⟩
theorem zF(aj:GF b mg mb):gh H w b mg 7 "resultant" pL:=aj.gT (i:=58) X (oO (by intros;rfl)) ⟨(cm aj).mono X,(cm aj).mono X,(cm aj).mono X,(cm aj).mono X,(tx aj).mono X,(tx aj).mono X,(cm aj).mono X,(cm aj).mono X,(tB aj).mono X,(pX aj).mono X,(pX aj).mono X,Z'⟩
theorem qY(aj:GF b mg mb):gh H w b mg 1 "_law_value" d8:=aj.gT (i:=59) X (LL (by intros;rfl)) Z'
theorem JE(aj:GF b mg mb):gh H w b mg 1 "zat" OT:=aj.gT (i:=60) X (oO (by intros;rfl)) Z'
theorem Tp(aj:GF b mg mb):gh H w b mg 12 "law" UC:=aj.gT (i:=61) X (LK (by intros;rfl)) ⟨(gu aj).mono X,(gu aj).mono X,(gu aj).mono X,(tu aj).mono X,(tu aj).mono X,(tw aj).mono X,(tw aj).mono X,(zD aj).mono X,(qX aj).mono X,(qX aj).mono X,(eD aj).mono X,(qY aj).mono X,(JE aj).mono X,(JE aj).mono X,(cm aj).mono X,(cm aj).mono X,(gu aj).mono X,(gu aj).mono X,(qY aj).mono X,(zF aj).mono X,(tA aj).mono X,(tA aj).mono X,Z'⟩
end
def HK:d_ (o_ × aY):=[(("abs":o_),k9 .abs),(("len":o_),k9 .len),(("list":o_),k9 .list),(("tuple":o_),k9 .tuple),(("dict":o_),k9 .dict),(("sum":o_),k9 .sum),(("max":o_),k9 .yH),(("min":o_),k9 .min2),(("any":o_),k9 .any),(("all":o_),k9 .all),(("int":o_),k9 .int),(("range":o_),.type "range"),(("enumerate":o_),.type "enumerate"),(("reversed":o_),.type "reversed")]
theorem acB:(HK.all λp=>decide (p.1≠"__name__")&&decide (bootBuiltins p.1=f p.2))=V:=by decide +kernel
noncomputable def freeOk (q:B_) (x:o_):e_:=!startupNames.contains x&&(!(looseW q []).contains x&&(!((recsOf q).map (·.name)).contains x&&(!((litsOf q).map (·.1)).contains x&&!((clssOf q (looseW q [])).map (·.name)).contains x)))
structure HL(q:B_):Prop where
 afM:(table.all λx=>(recsOf q).any (P8 x))=V
 fre:(HK.all λp=>freeOk q p.1)=V
 r01:wlitsOf q=[(("R0":o_),WData.tuple [.int 0,.int 1]),(("R1":o_),WData.tuple [.int 1,.int 1])]
 mb:valOf q "MOST_BITS"=f (.int 200000)
 mf:valOf q "MOST_FAR"=f (.int 20000)
 mw:valOf q "MOST_WORK"=f (.int 3000000)
theorem acC(r:ReadsLit h v (.tuple [.int i,.int j]) []):∀ D,bB h h D (.tup [.int i,.int j]) v:=by refine r8 (reads_tuple_inv (reads_of_readsW (.tuple [.int i,.int j]) r)) λa o l n aL N L h3 hr=>?_;clear r;subst aL;exact λD=>⟨a,l.toList,X,⟨o,N,L,n,h3⟩,zX (Z:=[i,j]) (readsAll_intsAre0 (xs:=[i,j]) hr).1⟩
theorem acD{XP:(pY)->cH->Prop}{mg mb:pY}(hc:HL q)(Y':Ground q [] iv XP w mO mg mb cy.heap):GF cy mg mb:=by
 have T:=Y'.T;have hb:∀ x v,(x,v)∈HK->DP mg mb x v:=λx v hm=>by have N:=acB;have L:=hc.fre;rw[mK]at N L;have N:=N _ hm;have L:=L _ hm;simp only[jc,jR]at N;dsimp only[freeOk]at L;simp only[jc,rW,List.contains_eq_mem,uP]at L;exact⟨T.free x L.1 L.2.1 L.2.2.1 L.2.2.2.1 L.2.2.2.2,(T.builtins x N.1).trans N.2⟩
 have U':∀ x i,valOf q x=f (.int i)->vf cy mg x (.int i):=λx i hv=>by
  refine ah (T.const x _ hv) λv N L=>?_;refine aK v N (λD=>?_)
  have:=L cy.heap
  clear N L;cases this;exact⟨_,X⟩
 refine⟨⟨T.g,T.b,T.nolimit⟩,λx hx=>?_,λk=>?_,λk=>?_,?_,?_,U' _ _ hc.mb,U' _ _ hc.mf,U' _ _ hc.mw⟩
 .have hr:=hc.afM;rw[mK]at hr;have hx:=hr _ hx;rw[L7]at hx;obtain⟨d,hd,hk⟩:=hx;exact aK d hk (T.fn d hd)
 .cases k
  .exact hb _ _ (dX (i:=0) X)
  .exact hb _ _ (dX (i:=1) X)
  .exact hb _ _ (dX (i:=2) X)
  .exact hb _ _ (dX (i:=3) X)
  .exact hb _ _ (dX (i:=4) X)
  .exact hb _ _ (dX (i:=5) X)
  .exact hb _ _ (dX (i:=6) X)
  .exact hb _ _ (dX (i:=6) X)
  .exact hb _ _ (dX (i:=7) X)
  .exact hb _ _ (dX (i:=8) X)
  .exact hb _ _ (dX (i:=9) X)
  .exact hb _ _ (dX (i:=10) X)
 .cases k
  .trivial
  .exact hb _ _ (dX (i:=11) X)
  .exact hb _ _ (dX (i:=12) X)
  .exact hb _ _ (dX (i:=13) X)
 .refine ah (Y'.W.lits (("R0":o_),WData.tuple [.int 0,.int 1]) (by exact J hc.r01 aQ)) λv N L=>?_;exact aK v N (acC L)
 .refine ah (Y'.W.lits (("R1":o_),WData.tuple [.int 1,.int 1]) (by exact J hc.r01 (bg _ aQ))) λv N L=>?_;exact aK v N (acC L)
theorem g7{h:cH}{m:pY}(h1:h.Ns T? m):i_<h.objs.size/\∃ o,h.get? T?=f o:=by obtain⟨o,es,ep,N,_⟩:=h1;refine⟨?_,o,N⟩;have L:T?<h.objs.size:=mJ N;exact rY (by decide) L
set_option tactic.hygienic true in
set_option maxRecDepth 100000 in
theorem Qg{q:B_}{YP:de->cH->Prop}{d:DefRec}{L5:d_ (o_ × av)}(hc:HL q)(hdn:d.name = "law"):WalkO q [] (XL q []) YP PySem.Challenge.rw_xm0106_01.row.toRowW d L5 (λK' M=>PySem.call K' M):=by
 intro w mO cy mg mb Y' σ fa o pm cd doc dV kV ho hd Yz hD hmg hg args vals as q8 afN hrd hwl Qi
 wrow_args q8 afN hrd hwl Qi
 rename_i Z _ _ _ _ _ _ _ la M _ hL _ _ _ hI _ U' _
 have aj:GF cy mg mb:=acD hc Y';obtain⟨T',afO⟩:=Qa (Z:=Z) (by dsimp only[lim];omega);refine Ij (Tp (w:=w) aj) λfa' o' fd' m1 m2 m3 m4=>?_;rw[hdn]at hmg;obtain rfl:fa'=fa:=by rw[hmg]at m1;clear m2 m4;cases m1;rfl
 refine ah (Y'.T.nodigits) λmc hst O=>?_;refine m4 callerA _ cy [] JC T' [.fx Z] [.ref la] (.bool V) _ ⟨X,by decide +kernel,by decide +kernel⟩ ⟨⟨cy.heap,cy.toks,X⟩,λO O h=>h,(g7 hst).1,(g7 hst).2,X,r6,λO h=>g_ h gx,λO h=>g_ h gx,λi e h=>by cases h⟩ (aG.cons (by exact fI la M X hL hI) aG.nil) afO ?_;intro v s' ca I' S' rv;dsimp only[bB]at rv;subst rv;refine gy (I'.same) λh' t' hs=>?_;refine qN (.inl ⟨.bool V,.bool V,[],X,λcls=>?_,.bool V,?_,λO=>⟨r6,λa B=>g_ B gx⟩⟩) (OldK.of_keep I'.keep) (by exact J hs X) (AllBare.of_eq (by exact J hs hg))
 .rfl
 .wrow_post
end Mine.Internal
end
section
open PySem PySem.W PyProof.Rows
namespace Mine.Internal
theorem Tq:HL bY:=⟨by decide +kernel,by decide +kernel,by rfl,by rfl,by rfl,by rfl⟩
set_option maxRecDepth 100000 in
set_option maxHeartbeats 4000000 in
theorem Ts:PySem.Challenge.rw_xm0106_01.Holds:=by
 w_on
 refine holds_law QH λafP=>PySem.W.holds_open (q:=bY) (loose:=[]) (XP:=XL bY []) (YP:=Hook.says Hook.none) QG (Hook.of Hook.none) (Hook.keeps Hook.none) (λs e=>xl_of s (tT4.mp e).1) XL.keeps (by rfl) (by rfl) (by rfl) (λs e=>recFacts_of (tT4.mp e).2) (by rfl) afP (by decide +kernel) ⟨X,X,X,X,X,by decide +kernel⟩ ?hw ?hc
 case hw=>w_witness2
 exact Qg Tq X
end Mine.Internal
theorem PySem.Challenge.cw_xm0106_01_holds : PySem.Challenge.rw_xm0106_01.Holds := by
 exact Mine.Internal.Ts
end
end
