import PyProof.Rows.All
import Wide.All
import OpenK.AllK
import Wide.FinOn
import Lean
import PySem.Challenge.RW_nt0141_01
set_option genSizeOf false
set_option genCtorIdx false
set_option genInjectivity false
set_option linter.all false
set_option bootstrap.genMatcherCode false
set_option Elab.async false
set_option maxRecDepth 100000
set_option tactic.hygienic false
open And renaming intro->aC
open Array renaming getElem?_eq_getElem->OD,length_toList->t4,mk->E2,toList->OE
open Bool renaming and_eq_false_iff->OF,and_eq_true->ek,and_eq_true_iff->lg,and_false->OG,eq_false_iff->OH,false->ap,false_eq_true->wG,false_ne_true->rD,not_eq_false'->OI,not_eq_true'->As,or_eq_true->wH,or_false->OJ,true->ag
open Decidable renaming decide->dk,not_not->afT
open Eq renaming mpr->hg
open False renaming elim->wI
open ForInStep renaming yield->t5
open Inhabited renaming default->lh
open Int renaming add_assoc->E3,add_comm->At,add_one_le_of_lt->OK,add_sub_cancel->wJ,add_zero->OL,ediv_nonneg->OM,emod_eq_of_lt->E4,emod_lt_of_pos->Au,emod_nonneg->rE,fdiv_eq_ediv_of_nonneg->E5,le_antisymm->dW,le_of_eq->Av,le_of_lt->kM,le_refl->t6,le_trans->fU,lt_iff_le_and_ne->ON,lt_irrefl->Aw,lt_of_le_of_lt->iU,lt_of_lt_of_le->Ax,lt_toNat->Ay,lt_trans->mI,max_eq_right->E6,max_le->OO,min_eq_left->OP,min_le_right->OQ,mul_nonneg->OR,natCast_add->p1,natCast_mul->OS,natCast_nonneg->eH,natCast_sub->E7,ne_of_gt->oH,ne_of_lt->t7,neg_le_neg->OT,neg_nonpos_of_nonneg->OU,neg_sub->Fa,not_le->iV,not_lt->gk,ofNat_inj->iW,ofNat_le->eM,ofNat_lt->cz,ofNat_sub->OV,pow_pos->OW,pred_toNat->OX,sub_eq_add_neg->Az,sub_le_sub->Fb,sub_neg->OY,sub_nonneg_of_le->ua,sub_nonpos_of_le->OZ,sub_one_lt_of_le->O0,sub_zero->mJ,toNat->ub,toNat_eq_zero->AA,toNat_le->p2,toNat_lt->uc,toNat_natCast->fV,toNat_of_nonneg->ie,zero_add->O1
open List renaming all_cons->wL,all_eq_true->f0,any_cons->AB,any_eq_false->O3,any_eq_true->O4,any_map->O5,any_toArray->O6,append_assoc->bN,append_ne_nil_of_left_ne_nil->AC,append_nil->dn,append_toArray->AD,casesOn->cj,concat_eq_append->AE,cons_ne_nil->oJ,contains_iff_mem->ud,dropLast_append_of_ne_nil->O7,dropLast_concat->AF,dropLast_eq_take->ue,dropWhile_cons_of_neg->Pa,dropWhile_cons_of_pos->Pb,drop_append_of_le_length->Fc,drop_drop->Pc,drop_eq_getElem_cons->p4,drop_eq_nil_iff->Pd,drop_eq_nil_of_le->oK,drop_left'->Pe,drop_nil->Fd,drop_zero->oL,eq_nil_of_length_eq_zero->Pf,eq_nil_or_concat->AG,ext_getElem?->Fe,filter->Ff,filterMap->Pg,filterMap_cons_none->Ph,filterMap_cons_some->Fg,filter_append->Pi,filter_cons_of_neg->uf,filter_cons_of_pos->wM,filter_eq_self->wN,find?_cons->Pj,find?_cons_of_neg->Fh,find?_cons_of_pos->Pk,flatMap->Pl,flatten_cons->wO,flatten_singleton->Pm,foldl_cons->AH,forIn_cons->Fi,forIn_nil->AI,getD_eq_getElem?_getD->ig,getElem?_append->Fj,getElem?_append_left->oM,getElem?_append_right->hT,getElem?_drop->nI,getElem?_eq_getElem->du,getElem?_eq_none->p5,getElem?_eq_some_iff->dv,getElem?_eraseIdx->Fk,getElem?_insertIdx->Pn,getElem?_map->cv,getElem?_of_mem->p6,getElem?_range->Po,getElem?_replicate->AJ,getElem?_reverse->Pp,getElem?_set_ne->p7,getElem?_set_self->rF,getElem?_take->ug,getElem?_take_of_lt->rG,getElem?_toArray->wP,getElem?_zipWith->Fl,getElem_mem->wQ,getLast?_concat->AK,getLast?_eq_getElem?->Fm,getLast?_eq_none_iff->Pq,head?_eq_some_iff->Pr,insertIdx_succ_cons->Fn,insertIdx_zero->Ps,isEmpty->Pt,isEmpty_iff->jZ,length->mL,length_append->a2,length_cons->fQ,length_drop->gB,length_dropLast->qa,length_eq_one_iff->Pu,length_eq_zero_iff->AL,length_eraseIdx_of_lt->AM,length_filter_le->Fo,length_insertIdx_of_le_length->Pv,length_map->ax,length_nil->Fp,length_pos_iff->Fq,length_range->wR,length_replicate->hh,length_reverse->jb,length_set->nJ,length_singleton->nK,length_take->e1,length_take_of_le->Pw,length_zip->Fs,lookup->oN,lookup_cons->jD,map->lR,map_append->cD,map_congr_left->Ft,map_cons->f1,map_drop->mM,map_eq_nil_iff->Px,map_map->oO,map_nil->Fu,map_reverse->Py,map_singleton->rH,map_take->j0,mem_append->hi,mem_append_left->dJ,mem_append_right->cP,mem_cons->dE,mem_filter->uh,mem_map->eS,mem_of_find?_eq_some->Pz,mem_of_getElem?->dT,mem_of_mem_drop->li,mem_of_mem_eraseIdx->Fv,mem_of_mem_take->lj,mem_or_eq_of_mem_set->Fw,mem_range'_1->wS,mem_range->ui,mem_replicate->PA,mem_singleton->uj,nil_append->gW,nodup_append->fm,nodup_cons->iY,nodup_range'->PB,of_mem_zip->wT,pairwise_append->gX,pairwise_cons->es,pairwise_iff_forall_sublist->PC,pairwise_iff_getElem->wU,pairwise_map->Fx,pairwise_singleton->PD,perm_append_comm->qb,perm_append_comm_assoc->rI,perm_append_singleton->wV,perm_middle->rJ,push_toArray->PE,range'->uk,range->ih,replicate->dK,replicate_append_replicate->PF,reverse_append->AN,reverse_cons->qc,setIfInBounds_toArray->PG,set_append_right->AO,singleton_append->AP,size_toArray->f2,sublist_append_left->PH,sublist_append_right->PI,sum_append->AQ,sum_cons->PJ,takeWhile_cons_of_neg->AR,takeWhile_cons_of_pos->AS,take_add_one->PK,take_append_drop->j1,take_length->nL,take_nil->PL,take_of_length_le->PM,take_succ_eq_append_getElem->PN,toArray->nM,zip->jE,zipIdx_cons->Fy,zipWith->PO,zip_append->PP,zip_cons_cons->wW,zip_nil_right->PQ
open List.Nodup renaming length_le_of_subset->O2
open List.Pairwise renaming nil->mK
open List.Perm renaming append_left->afU,append_right->afV,cons->oI,eq_of_pairwise->afW,refl->iX,swap->wK,trans->afX
open List.cons renaming inj->p3
open Nat renaming add_assoc->iB,add_comm->ll,add_le_add->ul,add_le_add_left->jc,add_le_add_right->rK,add_left_comm->PR,add_lt_add_left->um,add_lt_add_right->PS,add_right_comm->oP,add_sub_cancel'->mN,add_sub_cancel_left->un,add_zero->PT,and_two_pow_sub_one_eq_mod->PU,beq->uo,ble->Fz,blt->AT,casesOn->ey,cast->jF,div_add_mod'->wX,div_eq_of_lt->PV,div_lt_of_lt_mul->mO,div_lt_self->AU,eq_of_beq_eq_true->AV,le_add_left->mP,le_add_right->eN,le_antisymm->bo,le_max_left->lS,le_max_right->qd,le_of_ble_eq_true->wY,le_of_eq->fv,le_of_lt->gY,le_of_lt_succ->lT,le_of_not_lt->eT,le_of_succ_le->rL,le_of_succ_le_succ->qe,le_refl->cL,le_succ->kN,le_succ_of_le->rM,le_total->AW,le_trans->ba,le_zero->PW,lt_add_of_pos_right->wZ,lt_irrefl->eI,lt_of_le_of_lt->eo,lt_of_le_of_ne->FA,lt_of_lt_of_eq->up,lt_of_lt_of_le->ef,lt_of_not_le->iC,lt_of_succ_lt->uq,lt_of_succ_lt_succ->w0,lt_one_iff->PX,lt_or_eq_of_le->FC,lt_or_ge->rN,lt_or_gt_of_ne->fo,lt_succ_of_le->oQ,lt_succ_of_lt->w1,lt_succ_self->nN,lt_trans->rO,max_eq_left->rP,max_eq_right->rQ,min_eq_left->gZ,min_eq_right->rR,min_le_left->fG,min_le_right->rS,mod_eq_of_lt->PY,mod_lt->j2,mod_mod->FD,mul_add->PZ,mul_assoc->P0,mul_comm->AX,mul_div_le->lU,mul_le_mul_left->rT,mul_le_mul_right->oR,mul_one->AY,mul_succ->P1,ne_of_gt->P2,ne_of_lt->nO,not_le->w2,not_lt->kO,not_lt_zero->oS,not_succ_le_zero->rU,one_pos->FE,pos_of_ne_zero->P3,pow_le_pow_right->P4,rec->gl,strongRecOn->AZ,sub_add_cancel->w3,sub_eq_zero_of_le->A0,sub_le->bL,sub_le_of_le_add->A1,sub_lt->A2,sub_self->iD,sub_sub->P5,succ->oT,succ_le_of_lt->P6,succ_le_succ->jd,succ_mul->w4,succ_ne_zero->oU,succ_pos->hU,zero_add->jG,zero_le->dB,zero_mul->ur
open Nat.succ renaming inj->g0
open Ne renaming symm->qf
open Option renaming all->FF,bind_eq_some_iff->lm,casesOn->FG,isNone_iff_eq_none->FH,isSome_iff_exists->rV,map_eq_some_iff->fw,map_some->A3,none->D,some->J
open Option.some renaming inj->dr
open Pure renaming pure->cr
open PyProof.Rows renaming IntsAre->us,exec_Assign->FI,fresh_above->P7,getItem_tuple->afY,listUpdate_at->FJ,seqEpoch_at->FK,seqObj->f3,sortedAll_at->Qa,sortedAll_old->Qb,subscriptTail->rW,tail_any->qg,tuples'->FL
open PySem renaming Addr->bm,Args->nP,Around->cn,BindsTo->w5,BoolOp->w6,Builtin->ut,CmpOp->qi,Code->j3,Comprehension->qj,Const->uu,DictEntry->f4,Env->dw,Expr->am,Fin->qk,Flow->lV,FuncData->iE,Heap->aT,IsPart->lW,IsRange->Ba,IsRangeIter->Qy,Model->fx,NameKind->j4,Obj->gr,Operator->oX,OsState->oY,Params->xb,Pos->a5,Program->ln,Result->jH,Scope->g1,Sem->cM,Shared->al,Slot->mQ,Stmt->dC,Str->aq,Thread->qm,Tok->fy,Value->af,World->gC,allTrue->Gp,argsOk->mS,assign->kb,assignEach->uy,assignInOrder->QG,attributeBase->lp,backTo->kc,behindInMarks->xe,binaryOp->xf,bindName->Bg,bm_if_false->g3,bm_if_true->uz,builtinLookup_eq_fast->jh,builtinsNs->oZ,cLine->kd,call->dL,callAny->Gq,callFunction->QH,callSpecial?->Bh,callWith->ke,call_meets->xg,call_meetsIn->QI,call_range_3->QJ,checkBuiltinCall->xh,clipAt->gm,codeAny_mono->QK,compTurn_list1->QL,compareOp->nR,comprehension->uA,constantsAlone->QM,denote->r5,entryFor->kP,entryFor_of_fast->xi,eval->c5,evalOpt->Bi,eval_ListComp->QN,execs->lX,execs_cons->Gr,foldedSetIterable->o0,getItem->o1,getMethod->lY,holding->kf,importedModules->r6,importedNames->QO,intItems_at->QP,interactive->QQ,isInstance->Gs,isSubtype->Gu,isSubtype_type->o3,isTrue->mT,keeperOf->Gv,letOwnedTupleGo->QR,list_append->QS,mainGlobals->kQ,markedBehindIn->QT,markedEach->Gw,mem_of_lookup->QU,methodCall->uB,methodCallForm->QV,methodCallPos->QW,model->fh,moduleNames->QX,newFunctionEnv->QY,newList->xj,noteFrame->Bj,opaqueClassAbove->Gx,operate->mU,plainId->Gy,plainId_quiet->QZ,pyIter->xk,pyNext->r7,rangeSize_one->Q0,rawPart->Gz,recursionLimit->Bk,relabel->qp,release->GA,runOwn->Q1,seqIndex?->Bl,seqIndex_of->Q2,setItem->mV,sizeLine->GB,sizeLine_eq->lZ,sliceBounds->Bm,sliceIndices_raw->Q3,slot_list_getitem->Q4,slot_list_setitem->Q5,spliced->l0,standAt->ij,starEach->eJ,storeName->GC,subscripted->uC,swappedStores->uD,swapsWithSole->uE,sysModules->qq,table->iZ,theTreesLotGoes->GD,treeTable->uF,truthy->Bn,typeIs_int->Bo,typeLookup->l1,typeLookup_type->ji,typeOf->qr,unsupported->Bp,updateBytearray->Q6,updateField->Q7,valueAt->Bq,valueOrNone->Br,withoutEnding?->GE,wpAny->aS,wpAny_Name->GF,wpAny_askSetting->Ra,wpAny_attempt->GG,wpAny_bindName->Rb,wpAny_callSpecial?_slot->GH,wpAny_call_entry->qs,wpAny_comp_letGo->Rc,wpAny_field->sa,wpAny_getItem_slot->Rd,wpAny_holding->mW,wpAny_isInstance->xl,wpAny_letGo->Re,wpAny_load->nS,wpAny_loadName_cell->Rf,wpAny_loadName_local->Rg,wpAny_loadPart->Rh,wpAny_lookBehind->Ri,wpAny_mkBytes->GI,wpAny_mkInt->GJ,wpAny_mono->qt,wpAny_newList->GK,wpAny_newObj_type->Bs,wpAny_newTuple->Rj,wpAny_of_eq->dX,wpAny_point->xm,wpAny_pure->ck,wpAny_pyIter_range->Rk,wpAny_pyIter_rangeiter->Rl,wpAny_pyNext_range_end->Rm,wpAny_pyNext_range_item->Rn,wpAny_rule->l2,wpAny_seqItems->uG,wpAny_sequenceKey->GL,wpAny_specialOf->jj,wpAny_standAt->Ro,wpAny_storeName_local->Rp,wpAny_truthy_bool->uH,wpAny_typeOf->xn,wpCode_mono->GM
open PySem.Builtin renaming bitAnd->FO,bitNot->xa,bitOr->Ql,divisionGoesByPylong->A5
open PySem.Builtin.Bytes renaming buffer?->rX,decodersThatHold->Qc,exported->Qd,exportsOf->Qe,fitsIndex->w7,fullReadOnly->afZ,joinItems->af0,joinLetGo->Qf,joinM->Qg,joined->af1,ownRelease->Qh,payload->FM,payload?->Qi,sliceParts->Qj,slotIsOwn->FN,subscript?->qh,takeBuffer?->af2,takeBufferQuiet?->Qk
open PySem.Builtin.Range renaming rangeFitsLong->af3,rangeSize->A4,small->af4
open PySem.Calls renaming Constant_str->Qm,Name_function_global->FP,call_function_entry->Qn,loadGlobal_global->Qo
open PySem.Challenge renaming rw_nt0141_01->c4
open PySem.F renaming args_list_append_2->Qp,bm_bind->FQ,bm_called->FR,bm_sub->FS,entry_list_append->Qq,slot_dict_get->Qr,slot_dict_pop->Qs,slot_int_index->FT,slot_list_append->FU,slot_list_extend->Qt,slot_list_pop->Qu,slot_list_reverse->Qv
open PySem.Flow renaming next->A6
open PySem.Heap renaming ExtBut->je,SameBut->hj,get?_push_ne->A7,get?_push_of_some->oV,get?_push_size->ii,get?_update_ne->Qw,get?_update_self->Qx,lt_size->nQ,size_push->FV,size_update->FW
open PySem.Heap.SameBut renaming update->ql
open PySem.IsL renaming update->uv
open PySem.NameKind renaming free->oW,globalExplicit->af5,globalImplicit->Qz
open PySem.Obj renaming data->rY,mapBytearray->FX,mapSeq->jf
open PySem.PyData renaming int->QA,keyHash->rZ,list->QB
open PySem.Sem renaming wp->r0,wp_bind'->r1,wp_mono->uw
open PySem.Shared renaming asleep_of_life->FY
open PySem.Str renaming ofString->aR
open PySem.Value renaming none->j5,ref->FZ,type->ux
open PySem.W renaming Frag->jI,Looks->xc,SharedT->mR,any_some->F5,boot_drawn->F6,boot_heap->qn,boot_toks->F7,builtinNamed->Ga,dictOf->j6,emptyDict->qo,findIn->j7,gensDone->Gb,handedIn->Bc,instObj->ka,kas_ask->Gc,kas_count->Gd,kas_sort->r2,laidKept->Ge,listOf->g2,lookIn->Bd,looks_findIn->Gf,makesIn->Gg,namesBound->Gh,namesMeet->Be,nsIn->r3,openGood->Gi,openSeen->Gj,putL->r4,putName_dict->QF,specialIn->Gk,staticsOk->Gl,through->Gm,topFrom->Gn,topRun->Bf,topStub->Go,typeIn->xd,typeIs_bytes->jg
open PySem.W.FB renaming slot_bytes_getitem->F0
open PySem.W.Fast renaming te10156331382660048174->af6,te11892475500146522536->af7,te14364793385576792824->aga,te6613529449190102663->agb,tw10156331382660048174->QC,tw11892475500146522536->agc,tw14364793385576792824->agd,tw6613529449190102663->QD
open PySem.W.KBy renaming look_buffer->F1,own_buffer->F2,own_release->QE,picked->Bb,special_eq->F3,tooLong_not->F4
open UInt8 renaming ofNat->dQ
namespace lv
@[elab_as_elim] theorem V {c:Sort u}{b a:c}{motive:c->Prop}(d:a=b)(e:motive b):motive a:=d▸e
@[elab_as_elim] theorem aY {c:Sort u}{b a:c}{motive:c->Prop}(d:b=a)(e:motive b):motive a:=d▸e
local macro_rules | `($f $a*<|>$k)=>`(V ($f $a* ..) $k) | `($h<|>$k)=>`(V ($h ..) $k)
local macro_rules | `(~~~_)=>`(by decide) | `(~~~$k)=>`(by exact $k)
inductive hm where
 |Ad (i:Nat)
 |lK (q:Nat)
 |gT (x y:hm)
 |oq (q:Nat) (x:hm)
 |c2 (x:hm) (q:Nat)
inductive hl where
 |oG (x:hm)
 |lK (q:Nat)
 |gT (x y:hl)
 |ic (x y:hl)
 |oq (q:Nat) (x:hl)
 |c2 (x:hl) (q:Nat)
 |i3 (x:hl)
inductive eL where
 |hL (q:Nat) (x y:hm) (a:eL)
 |jX (q:Nat) (x y:hm) (a:eL)
 |nh (q:Nat) (x y:hm) (a:eL)
 |yR (q:Nat) (x y:hm) (a:eL)
 |lF (q:Nat) (x y:hl) (a:eL)
 |mq (q:Nat) (x y:hl) (a:eL)
 |yY (q:Nat) (x y:hl) (a:eL)
 |za (q:Nat) (x y:hl) (a:eL)
 |xv (q:Nat) (x y:hl)
 |hq (q:Nat) (x y:hl)
 |U (q:Nat) (x y:hm)
 |x6 (q:Nat) (x y:hm)
 |pd
noncomputable def rg:Nat->List Nat->Nat
 |_,[]=>0|0,x::_=>x|i+1,_::a=>rg i a
noncomputable def hm.cN (a:List Nat):hm->Nat
 |lK q=>q|gT x y=>x.cN a+y.cN a|oq q x=>q*x.cN a|c2 x q=>x.cN a*q|Ad i=>rg i a
noncomputable def hl.cN (a:List Nat):hl->Int
 |oG x=>((x.cN a:Nat):Int)|lK q=>((q:Nat):Int)|gT x y=>x.cN a+y.cN a|ic x y=>x.cN a-y.cN a|oq q x=>((q:Nat):Int)*x.cN a|c2 x q=>x.cN a*((q:Nat):Int)|i3 x=>-x.cN a
def eL.cN (a:List Nat):eL->Prop
 |hL _ x y b=>x.cN a<=y.cN a->b.cN a|jX _ x y b=>x.cN a<y.cN a->b.cN a|nh _ x y b=>x.cN a=y.cN a->b.cN a|yR _ x y b=>x.cN a=y.cN a->b.cN a|lF _ x y b=>x.cN a<=y.cN a->b.cN a|mq _ x y b=>x.cN a<y.cN a->b.cN a|yY _ x y b=>x.cN a=y.cN a->b.cN a|za _ x y b=>x.cN a=y.cN a->b.cN a|xv _ x y=>x.cN a<=y.cN a|hq _ x y=>x.cN a<y.cN a|U _ x y=>x.cN a<=y.cN a|x6 _ x y=>x.cN a<y.cN a|pd=>False
noncomputable def h1 (a:Nat):Nat->List Nat->List Nat
 |0,[]=>[a]|0,x::b=>(x+a)::b|i+1,[]=>0::h1 a i []|i+1,x::b=>x::h1 a i b
noncomputable def hm.ev (a:Nat):hm->List Nat->List Nat
 |lK q,u=>h1 (a*q) 0 u|gT x y,u=>y.ev a (x.ev a u)|oq q x,u=>x.ev (a*q) u|c2 x q,u=>x.ev (a*q) u|Ad i,u=>h1 a i u
noncomputable def hl.zK (x:hl):Bool->hm:=hl.rec (λx a=>cond a x<|.lK 0) (λq a=>cond a (.lK q)<|.lK 0) (λc c b d a=>.gT (b a)<|d a) (λc c b d a=>.gT (b a)<|d<|!a) (λq c b a=>.oq q<|b a) (λc q b a=>.c2 (b a) q) (λc b a=>b<|!a) x
noncomputable abbrev hl.cY (x y:hl):hm:=.gT (x.zK ag) (y.zK ap)
noncomputable def nb:List Nat->List Nat->Bool
 |[],_=>ag|x::a,[]=>uo x 0&&nb a []|x::a,y::q=>Fz x y&&nb a q
noncomputable def eL.lA:eL->List Nat->List Nat->Bool
 |hL q x y a,u,v=>a.lA (y.ev q u) (x.ev q v)|jX q x y a,u,v=>a.lA (y.ev q u) (x.ev q<|h1 q 0 v)|nh q x y a,u,v=>a.lA (y.ev q u) (x.ev q v)|yR q x y a,u,v=>a.lA (x.ev q u) (y.ev q v)|lF q x y a,u,v=>a.lA ((y.cY x).ev q u) ((x.cY y).ev q v)|mq q x y a,u,v=>a.lA ((y.cY x).ev q u) ((x.cY y).ev q<|h1 q 0 v)|yY q x y a,u,v=>a.lA ((y.cY x).ev q u) ((x.cY y).ev q v)|za q x y a,u,v=>a.lA ((x.cY y).ev q u) ((y.cY x).ev q v)|xv q x y,u,v=>nb ((x.cY y).ev (q+1) u) ((y.cY x).ev (q+1)<|h1 q 0 v)|hq q x y,u,v=>nb ((x.cY y).ev (q+1)<|h1 (q+1) 0 u) ((y.cY x).ev (q+1)<|h1 q 0 v)|U q x y,u,v=>nb (x.ev (q+1) u) (y.ev (q+1)<|h1 q 0 v)|x6 q x y,u,v=>nb (x.ev (q+1)<|h1 (q+1) 0 u) (y.ev (q+1)<|h1 q 0 v)|pd,u,v=>nb (h1 1 0 u) v
noncomputable def fj:List Nat->List Nat->Nat
 |x::a,y::q=>x*y+fj a q|_,_=>0
theorem sM {a:List Nat}:fj [] a=0:=by cases a<;>rfl
theorem n6 {b:Nat}:∀{i:Nat} {u a:List Nat},fj (h1 b i u) a=fj u a+b*rg i a
 |0,[],[]=>rfl|0,[],y::a=>by show b*y+fj [] a=fj [] (y::a)+b*y;rw[sM,sM,ll]
 |0,x::u,[]=>rfl|0,x::u,y::a=>by show(x+b)*y+fj u a=x*y+fj u a+b*y;rw[Nat.add_mul,oP]
 |i+1,[],[]=>rfl|i+1,[],y::a=>by show 0*y+fj (h1 b i []) a=fj [] (y::a)+b*rg i a;rw[n6,sM,sM,ur,jG]
 |i+1,x::u,[]=>rfl|i+1,x::u,y::a=>by show x*y+fj (h1 b i u) a=x*y+fj u a+b*rg i a;exact n6<|>iB<|>rfl
theorem vU {a:List Nat}:rg 0 (1::a)=1:=rfl
theorem pv {c:List Nat}:∀{x:hm} {a:Nat} {u:List Nat},fj (x.ev a u) (1::c)=fj u (1::c)+a*x.cN (1::c):=by
 intro x;induction x with
 |lK q=>intro a u;exact n6.trans (by refine vU<|>AY<|>?_;rfl)|gT x y b d=>intro a u;show fj (y.ev a<|x.ev a u) _=_+a*(x.cN _+y.cN _);exact d<|>b<|>PZ<|>iB<|>rfl|oq q x b=>intro a u;show fj (x.ev (a*q) u) _=_+a*(q*x.cN _);exact b<|>P0<|>rfl|c2 x q b=>intro a u;show fj (x.ev (a*q) u) _=_+a*(x.cN _*q);exact V (b ..)<|V (P0 ..)<|V (AX q ..)<|rfl|Ad i=>intro a u;exact n6
theorem Ng {a b c d:Nat}:((a:Int)-b)+(c-d)=((a+c:Nat):Int)-((b+d:Nat):Int):=by rw[p1,p1,Az,Az,Az,Int.neg_add,E3,E3,Int.add_left_comm (-(b:Int))]
theorem aal {a b c d:Nat}:((a:Int)-b)-(c-d)=((a+d:Nat):Int)-((b+c:Nat):Int):=(show _=((a:Int)-b)+(d-c)from(Az ..).trans<|congrArg _ (Fa ..)).trans Ng
theorem aak {a b c d:Nat}:(a:Int)-b<=c-d↔a+d<=c+b:=have f:(c:Int)-d+b=(c+b:Nat)-d:=Int.add_right_comm ..;⟨λe=>eM.mp<|Int.add_le_of_le_sub_right<|f▸Int.le_add_of_sub_right_le e,λe=>Int.sub_right_le_of_le_add<|f▸Int.le_sub_right_of_add_le (eM.mpr e)⟩
theorem hl.dg {c:List Nat}(x:hl):x.cN c=((x.zK ag).cN c:Int)-(x.zK ap).cN c:=by
 induction x with
 |oG x=>exact(mJ _).symm|lK q=>exact(mJ _).symm|gT x y a b=>exact(congr (congrArg HAdd.hAdd a) b).trans Ng|ic x y a b=>exact(congr (congrArg HSub.hSub a) b).trans aal|oq q x a=>exact(congrArg _ a).trans (Int.mul_sub _ _ _)|c2 x q a=>exact(congrArg (·*(q:Int)) a).trans (Int.sub_mul _ _ _)|i3 x a=>exact(congrArg _ a).trans (Fa _ _)
theorem tU {a:List Nat}{x y:hl}:x.cN a<=y.cN a↔(x.cY y).cN a<=(y.cY x).cN a:=x.dg▸y.dg▸aak
theorem vk:∀{u v ρ:List Nat},nb u v=ag->fj u ρ<=fj v ρ
 |[],v,ρ,_=>by exact sM<|>dB _
 |x::b,[],[],_=>cL _|x::b,[],y::ρ,c=>by obtain⟨a,d⟩:=lg.mp c;have a:=AV a;have e:=@vk b [] ρ d;rw[sM]at e;show x*y+fj b ρ<=0;exact a<|>ur<|>jG<|>e
 |x::b,f::q,[],_=>cL _|x::b,f::q,y::ρ,c=>by obtain⟨a,d⟩:=lg.mp c;exact ul (oR y<|wY a) (vk d)
theorem sX {a u v:List Nat}{q:Nat}{b c:hm}(e:fj v (1::a)<=fj u (1::a))(d:b.cN (1::a)<=c.cN (1::a)):fj (b.ev q v) (1::a)<=fj (c.ev q u) (1::a):=pv<|>pv<|>ul e (rT q d)
theorem HU {a u v:List Nat}{q:Nat}{b c:hm}(e:fj v (1::a)<=fj u (1::a))(d:b.cN (1::a)<c.cN (1::a)):fj (b.ev q<|h1 q 0 v) (1::a)<=fj (c.ev q u) (1::a):=V (pv ..)<|V (pv ..)<|V (n6 ..)<|V (vU ..)<|V (iB ..)<|aY (PZ ..)<|ll 1<|>ul e (rT q d)
theorem HT {q x y a b:Nat}(e:a+(q+1)*x<=b+q+(q+1)*y)(f:b<=a):x<=y:=eT λc=>by have d:=ba (ba (jc (rT (q+1)<|P6 c) a) e) (rK (rK f q) _);rw[P1,ll _ (q+1),<-iB,<-iB,oP (a+q) 1]at d;exact eI _ d
theorem HR {ρ u v:List Nat}{q:Nat}{a b:hm}(c:nb (a.ev (q+1) u) (b.ev (q+1)<|h1 q 0 v)=ag)(d:fj v (1::ρ)<=fj u (1::ρ)):a.cN (1::ρ)<=b.cN (1::ρ):=by have:=vk (ρ:=1::ρ) c;rw[pv,pv,n6,vU,AY]at this;exact HT this d
theorem HS {ρ u v:List Nat}{q:Nat}{a b:hm}(c:nb (a.ev (q+1)<|h1 (q+1) 0 u) (b.ev (q+1)<|h1 q 0 v)=ag)(d:fj v (1::ρ)<=fj u (1::ρ)):a.cN (1::ρ)<b.cN (1::ρ):=by have:=vk (ρ:=1::ρ) c;rw[pv,pv,n6,n6,vU,AY,AY,iB _ (q+1),ll (q+1)]at this;exact HT this d
theorem eL.dg {ρ:List Nat}(g:eL):∀{u v:List Nat},g.lA u v=ag->fj v (1::ρ)<=fj u (1::ρ)->g.cN (1::ρ):=by
 induction g with
 |hL q x y f e=>exactλa b d=>e a (sX b d)|jX q x y f e=>exactλa b d=>e a (HU b d)|nh q x y f e=>exactλa b d=>e a (sX b<|fv d)|yR q x y f e=>exactλa b d=>e a (sX b<|fv d.symm)|lF q x y f e=>exactλa b d=>e a (sX b<|tU.mp d)|mq q x y f e=>exactλa b d=>e a (HU b<|w2.mp λc=>iV.mpr d<|tU.mpr c)|yY q x y f e=>exactλa b d=>e a (sX b<|tU.mp<|Av d)|za q x y f e=>exactλa b d=>e a (sX b<|tU.mp<|Av d.symm)|xv q x y=>exactλa b=>tU.mpr (HR a b)|hq q x y=>exactλa b=>iV.mp λc=>w2.mpr (HS a b) (tU.mp c)|U q x y=>exactλa b=>HR a b|x6 q x y=>exactλa b=>HS a b|pd=>exactλ{u v} a b=>by have:=vk (ρ:=1::ρ) a;rw[n6,vU]at this;exact eI _ (ba this b)
noncomputable def q4 (d:Nat):Nat->(Nat->Nat->eL)->eL:=gl (λc c=>.pd) (λc e a b=>cond (AT (a%32) 16) (b (a%32)<|a/32)<|e (a/32) λv=>b<|v*16+(a%32-16)) d
noncomputable def kV (b e:Nat):Nat->(hm->Nat->eL)->eL:=gl (λf f=>.pd) (λe g a d=>cond (AT (a%(b+10)) b) (d (.Ad<|a%(b+10)+1)<|a/(b+10))<|gl (g (a/(b+10)) λx a=>g a λy=>d<|.gT x y) (λc f=>gl (q4 e (a/(b+10)) λv=>d<|.lK v) (λc f=>gl (q4 e (a/(b+10)) λv a=>g a λx=>d<|.oq v x) (λc f=>gl (q4 e (a/(b+10)) λv a=>g a λx=>d<|.c2 x v) (λc f=>d (.lK<|rg c [1,2,8,4,0,128])<|a/(b+10)) c) c) c)<|a%(b+10)-b) e
noncomputable def lC (g f:Nat):Nat->(hl->Nat->eL)->eL:=gl (λe e=>.pd) (λf d a c=>gl (kV g f (a/7) λx=>c<|.oG x) (λb e=>gl (q4 f (a/7) λv=>c<|.lK v) (λb e=>gl (d (a/7) λx a=>d a λy=>c<|.gT x y) (λb e=>gl (d (a/7) λx a=>d a λy=>c<|.ic x y) (λb e=>gl (q4 f (a/7) λv a=>d a λx=>c<|.oq v x) (λb e=>gl (q4 f (a/7) λv a=>d a λx=>c<|.c2 x v) (λb e=>d (a/7) λx=>c<|.i3 x) b) b) b) b) b)<|a%7) f
noncomputable def kW (c b:Nat):Nat->eL:=gl (λe=>.pd) (λb f a=>let go (d q a:Nat):eL:=gl (kV c b a λx a=>kV c b a λy a=>.hL q x y<|f a) (λd e=>gl (kV c b a λx a=>kV c b a λy a=>.jX q x y<|f a) (λd e=>gl (kV c b a λx a=>kV c b a λy a=>.nh q x y<|f a) (λd e=>gl (kV c b a λx a=>kV c b a λy a=>.yR q x y<|f a) (λd e=>gl (lC c b a λx a=>lC c b a λy a=>.lF q x y<|f a) (λd e=>gl (lC c b a λx a=>lC c b a λy a=>.mq q x y<|f a) (λd e=>gl (lC c b a λx a=>lC c b a λy a=>.yY q x y<|f a) (λd e=>gl (lC c b a λx a=>lC c b a λy a=>.za q x y<|f a) (λd e=>gl (kV c b a λx a=>kV c b a λy a=>.U (q-1) x y) (λd e=>gl (kV c b a λx a=>kV c b a λy a=>.x6 (q-1) x y) (λd e=>gl (lC c b a λx a=>lC c b a λy a=>.xv (q-1) x y) (λd e=>gl (lC c b a λx a=>lC c b a λy a=>.hq (q-1) x y) (λd e=>.pd) d) d) d) d) d) d) d) d) d) d) d) d;cond (uo (a%14) 13) (q4 b (a/14/14) λq=>go (a/14%14) q)<|go (a%14) 1<|a/14) b
def eL.kI (a:eL)(b:List Nat):Prop:=cond (a.lA [] []) (a.cN b) True
theorem eL.k5 {c:List Nat}(a:eL):a.kI (1::c):=by
 show cond (a.lA [] []) _ _;cases b:a.lA [] []with
 |false=>trivial|true=>exact a.dg b (cL _)
theorem g7 (a:Nat):(kW 0 99 a).kI [1]:=eL.k5 _
theorem ai {a:Nat}(b:Nat):(kW 1 99 b).kI [1,a]:=eL.k5 _
theorem ac {a b:Nat}(c:Nat):(kW 2 99 c).kI [1,a,b]:=eL.k5 _
theorem aj {a b c:Nat}(d:Nat):(kW 3 99 d).kI [1,a,b,c]:=eL.k5 _
theorem az {a b c d:Nat}(e:Nat):(kW 4 99 e).kI [1,a,b,c,d]:=eL.k5 _
theorem bP {a b c d e:Nat}(f:Nat):(kW 5 99 f).kI [1,a,b,c,d,e]:=eL.k5 _
theorem dN {a b c d e f:Nat}(g:Nat):(kW 6 99 g).kI [1,a,b,c,d,e,f]:=eL.k5 _
theorem fJ {a b c d e f g:Nat}(h:Nat):(kW 7 99 h).kI [1,a,b,c,d,e,f,g]:=eL.k5 _
theorem me {a b c d e f g i:Nat}(h:Nat):(kW 8 99 h).kI [1,a,b,c,d,e,f,g,i]:=eL.k5 _
theorem py {a b c d e f g i j:Nat}(h:Nat):(kW 9 99 h).kI [1,a,b,c,d,e,f,g,i,j]:=eL.k5 _
theorem nd {a b c d e f g i j h:Nat}(k:Nat):(kW 10 99 k).kI [1,a,b,c,d,e,f,g,i,j,h]:=eL.k5 _
theorem px {a b c d e f g i j h l:Nat}(k:Nat):(kW 11 99 k).kI [1,a,b,c,d,e,f,g,i,j,h,l]:=eL.k5 _
theorem G6 {a b c d e f g i j h l k:Nat}(m:Nat):(kW 12 99 m).kI [1,a,b,c,d,e,f,g,i,j,h,l,k]:=eL.k5 _
theorem ay {a b:Nat}(c:b<=a):a-b+b=a:=w3 c
theorem BH {a b:Nat}(c:a<=b):a-b=0:=A0 c
theorem pu {a b:Nat}{d:Prop}(e:a-b+b=a->d)(f:a-b=0->a<=b->d):d:=(AW b a).elim (λc=>e<|ay c) λc=>f (BH c) c
theorem RF {a b:Nat}{d:Prop}(e:max a b=a->b<=a->d)(f:max a b=b->a<=b->d):d:=(AW b a).elim (λc=>e (rP c) c) λc=>f (rQ c) c
theorem RE {a b:Nat}{d:Prop}(e:min a b=b->b<=a->d)(f:min a b=a->a<=b->d):d:=(AW b a).elim (λc=>e (rR c) c) λc=>f (gZ c) c
theorem fd {a b:Nat}{c:Prop}(d:b<=a->c):a<b\/c:=(rN a b).imp_right d
theorem ya {a b:Nat}{c:Prop}(d:b<a->c):a<=b\/c:=(rN b a).symm.imp_right d
theorem RG {a b:Nat}{c:Prop}(e:a<b->c)(f:b<a->c):a=b\/c:=(Nat.lt_trichotomy a b).elim (λd=>.inr<|e d) λd=>d.imp_right f
theorem pg {a:Nat}(b:a=1\/a=2):1<=a:=by rcases b with rfl|rfl<;>decide
theorem ed {a:Nat}(b:a=64\/a=128):64<=a:=by rcases b with rfl|rfl<;>decide
theorem aw {a b:Nat}:a<=a-b+b:=Nat.le_add_of_sub_le (cL _)
theorem sL {q x:Nat}(a:0<q):x<q*(x/q)+q:=Nat.lt_mul_div_succ x a
theorem bW {c:Prop}{q:Prop}{a:Prop}(b:c/\q)(d:c->q->a):a:=d b.1 b.2
theorem aW {g:Sort _}{c:g->Prop}{b:Prop}(d:∃a,c a)(f:∀a,c a->b):b:=d.elim λa e=>f a e
theorem gR {c:Prop}{q:Prop}{d:Prop}{b:Prop}(a:c/\q/\d)(e:c->q->d->b):b:=e a.1 a.2.1 a.2.2
theorem aU {e:Sort _}{d:e->Prop}{q:e->Prop}{b:Prop}(f:∃a,d a/\q a)(g:∀a,d a->q a->b):b:=f.elim λa c=>g a c.1 c.2
theorem fZ {i:Sort _}{j:Sort _}{d:i->j->Prop}{c:Prop}(e:∃a,∃b,d a b)(h:∀a,∀b,d a b->c):c:=e.elim λa f=>f.elim λb g=>h a b g
theorem ou {c:Prop}{q:Prop}{d:Prop}{e:Prop}{b:Prop}(a:c/\q/\d/\e)(f:c->q->d->e->b):b:=f a.1 a.2.1 a.2.2.1 a.2.2.2
theorem v1 {g:Sort _}{e:Prop}{q:g->Prop}{f:g->Prop}{b:Prop}(c:e/\∃a,q a/\f a)(h:e->∀a,q a->f a->b):b:=c.2.elim λa d=>h c.1 a d.1 d.2
theorem eP {c:Sort _}{e:c->Prop}{q:c->Prop}{f:c->Prop}{d:Prop}(g:∃a,e a/\q a/\f a)(h:∀a,e a->q a->f a->d):d:=g.elim λa b=>h a b.1 b.2.1 b.2.2
theorem ia {f:Sort _}{g:Sort _}{e:f->g->Prop}{q:f->g->Prop}{c:Prop}(h:∃a,∃b,e a b/\q a b)(j:∀a,∀b,e a b->q a b->c):c:=h.elim λa i=>i.elim λb d=>j a b d.1 d.2
theorem Dw {c:Prop}{q:Prop}{d:Prop}{e:Prop}{f:Prop}{b:Prop}(a:c/\q/\d/\e/\f)(g:c->q->d->e->f->b):b:=g a.1 a.2.1 a.2.2.1 a.2.2.2.1 a.2.2.2.2
theorem MA {c:Sort _}{f:Prop}{q:c->Prop}{g:c->Prop}{h:c->Prop}{d:Prop}(e:f/\∃a,q a/\g a/\h a)(i:f->∀a,q a->g a->h a->d):d:=e.2.elim λa b=>i e.1 a b.1 b.2.1 b.2.2
theorem MH {c:Sort _}{i:Sort _}{g:c->Prop}{q:c->i->Prop}{h:c->i->Prop}{d:Prop}(j:∃a,g a/\∃b,q a b/\h a b)(k:∀a,g a->∀b,q a b->h a b->d):d:=j.elim λa e=>e.2.elim λb f=>k a e.1 b f.1 f.2
theorem em {d:Sort _}{e:Sort _}{g:d->e->Prop}{q:d->e->Prop}{h:d->e->Prop}{f:Prop}(i:∃a,∃b,g a b/\q a b/\h a b)(k:∀a,∀b,g a b->q a b->h a b->f):f:=i.elim λa j=>j.elim λb c=>k a b c.1 c.2.1 c.2.2
theorem kF {g:Sort _}{h:Sort _}{i:Sort _}{f:g->h->i->Prop}{q:g->h->i->Prop}{d:Prop}(j:∃a,∃b,∃c,f a b c/\q a b c)(m:∀a,∀b,∀c,f a b c->q a b c->d):d:=j.elim λa k=>k.elim λb l=>l.elim λc e=>m a b c e.1 e.2
theorem MK {m:Sort _}{n:Sort _}{o:Sort _}{p:Sort _}{f:m->n->o->p->Prop}{e:Prop}(g:∃a,∃b,∃c,∃d,f a b c d)(l:∀a,∀b,∀c,∀d,f a b c d->e):e:=g.elim λa h=>h.elim λb i=>i.elim λc j=>j.elim λd k=>l a b c d k
theorem ZD {c:Prop}{q:Prop}{d:Prop}{e:Prop}{f:Prop}{u:Prop}{b:Prop}(a:c/\q/\d/\e/\f/\u)(g:c->q->d->e->f->u->b):b:=g a.1 a.2.1 a.2.2.1 a.2.2.2.1 a.2.2.2.2.1 a.2.2.2.2.2
theorem my {i:Sort _}{e:Prop}{q:Prop}{f:Prop}{g:i->Prop}{h:i->Prop}{c:Prop}(b:e/\q/\f/\∃a,g a/\h a)(j:e->q->f->∀a,g a->h a->c):c:=b.2.2.2.elim λa d=>j b.1 b.2.1 b.2.2.1 a d.1 d.2
theorem ZF {d:Sort _}{e:Sort _}{h:Prop}{q:d->e->Prop}{i:d->e->Prop}{j:d->e->Prop}{f:Prop}(g:h/\∃a,∃b,q a b/\i a b/\j a b)(l:h->∀a,∀b,q a b->i a b->j a b->f):f:=g.2.elim λa k=>k.elim λb c=>l g.1 a b c.1 c.2.1 c.2.2
theorem ZG {c:Sort _}{j:Sort _}{g:c->Prop}{q:c->Prop}{h:c->j->Prop}{i:c->j->Prop}{e:Prop}(k:∃a,g a/\q a/\∃b,h a b/\i a b)(l:∀a,g a->q a->∀b,h a b->i a b->e):e:=k.elim λa d=>d.2.2.elim λb f=>l a d.1 d.2.1 b f.1 f.2
theorem DD {c:Sort _}{e:Sort _}{h:c->Prop}{q:c->e->Prop}{i:c->e->Prop}{j:c->e->Prop}{f:Prop}(k:∃a,h a/\∃b,q a b/\i a b/\j a b)(l:∀a,h a->∀b,q a b->i a b->j a b->f):f:=k.elim λa g=>g.2.elim λb d=>l a g.1 b d.1 d.2.1 d.2.2
theorem fb {d:Sort _}{e:Sort _}{g:d->e->Prop}{q:d->e->Prop}{h:d->e->Prop}{i:d->e->Prop}{f:Prop}(j:∃a,∃b,g a b/\q a b/\h a b/\i a b)(l:∀a,∀b,g a b->q a b->h a b->i a b->f):f:=j.elim λa k=>k.elim λb c=>l a b c.1 c.2.1 c.2.2.1 c.2.2.2
theorem v5 {e:Sort _}{f:Sort _}{g:Sort _}{i:e->f->g->Prop}{q:e->f->g->Prop}{j:e->f->g->Prop}{h:Prop}(k:∃a,∃b,∃c,i a b c/\q a b c/\j a b c)(n:∀a,∀b,∀c,i a b c->q a b c->j a b c->h):h:=k.elim λa l=>l.elim λb m=>m.elim λc d=>n a b c d.1 d.2.1 d.2.2
theorem ML {h:Sort _}{i:Sort _}{j:Sort _}{k:Sort _}{g:h->i->j->k->Prop}{q:h->i->j->k->Prop}{e:Prop}(l:∃a,∃b,∃c,∃d,g a b c d/\q a b c d)(p:∀a,∀b,∀c,∀d,g a b c d->q a b c d->e):e:=l.elim λa m=>m.elim λb n=>n.elim λc o=>o.elim λd f=>p a b c d f.1 f.2
theorem tu {o:Sort _}{p:Sort _}{q:Sort _}{r:Sort _}{s:Sort _}{g:o->p->q->r->s->Prop}{f:Prop}(h:∃a,∃b,∃c,∃d,∃e,g a b c d e)(n:∀a,∀b,∀c,∀d,∀e,g a b c d e->f):f:=h.elim λa i=>i.elim λb j=>j.elim λc k=>k.elim λd l=>l.elim λe m=>n a b c d e m
theorem hA {e:Sort _}{f:Sort _}{h:Prop}{q:Prop}{i:e->f->Prop}{j:e->f->Prop}{k:e->f->Prop}{g:Prop}(c:h/\q/\∃a,∃b,i a b/\j a b/\k a b)(m:h->q->∀a,∀b,i a b->j a b->k a b->g):g:=c.2.2.elim λa l=>l.elim λb d=>m c.1 c.2.1 a b d.1 d.2.1 d.2.2
theorem MI {d:Sort _}{e:Sort _}{g:d->e->Prop}{q:d->e->Prop}{h:d->e->Prop}{i:d->e->Prop}{j:d->e->Prop}{f:Prop}(k:∃a,∃b,g a b/\q a b/\h a b/\i a b/\j a b)(m:∀a,∀b,g a b->q a b->h a b->i a b->j a b->f):f:=k.elim λa l=>l.elim λb c=>m a b c.1 c.2.1 c.2.2.1 c.2.2.2.1 c.2.2.2.2
theorem k1 {e:Sort _}{f:Sort _}{g:Sort _}{i:e->f->g->Prop}{q:e->f->g->Prop}{j:e->f->g->Prop}{k:e->f->g->Prop}{h:Prop}(l:∃a,∃b,∃c,i a b c/\q a b c/\j a b c/\k a b c)(o:∀a,∀b,∀c,i a b c->q a b c->j a b c->k a b c->h):h:=l.elim λa m=>m.elim λb n=>n.elim λc d=>o a b c d.1 d.2.1 d.2.2.1 d.2.2.2
theorem MM {i:Sort _}{j:Sort _}{k:Sort _}{l:Sort _}{m:Sort _}{h:i->j->k->l->m->Prop}{q:i->j->k->l->m->Prop}{f:Prop}(n:∃a,∃b,∃c,∃d,∃e,h a b c d e/\q a b c d e)(t:∀a,∀b,∀c,∀d,∀e,h a b c d e->q a b c d e->f):f:=n.elim λa o=>o.elim λb p=>p.elim λc r=>r.elim λd s=>s.elim λe g=>t a b c d e g.1 g.2
theorem Dx {c:Prop}{q:Prop}{d:Prop}{e:Prop}{f:Prop}{u:Prop}{v:Prop}{g:Prop}{b:Prop}(a:c/\q/\d/\e/\f/\u/\v/\g)(h:c->q->d->e->f->u->v->g->b):b:=h a.1 a.2.1 a.2.2.1 a.2.2.2.1 a.2.2.2.2.1 a.2.2.2.2.2.1 a.2.2.2.2.2.2.1 a.2.2.2.2.2.2.2
theorem v2 {k:Sort _}{l:Sort _}{m:Sort _}{n:Sort _}{o:Sort _}{i:Prop}{q:k->l->m->n->o->Prop}{j:k->l->m->n->o->Prop}{f:Prop}(g:i/\∃a,∃b,∃c,∃d,∃e,q a b c d e/\j a b c d e)(x:i->∀a,∀b,∀c,∀d,∀e,q a b c d e->j a b c d e->f):f:=g.2.elim λa p=>p.elim λb r=>r.elim λc s=>s.elim λd t=>t.elim λe h=>x g.1 a b c d e h.1 h.2
theorem DE {e:Sort _}{f:Sort _}{g:Sort _}{i:e->f->g->Prop}{q:e->f->g->Prop}{j:e->f->g->Prop}{k:e->f->g->Prop}{l:e->f->g->Prop}{h:Prop}(m:∃a,∃b,∃c,i a b c/\q a b c/\j a b c/\k a b c/\l a b c)(p:∀a,∀b,∀c,i a b c->q a b c->j a b c->k a b c->l a b c->h):h:=m.elim λa n=>n.elim λb o=>o.elim λc d=>p a b c d.1 d.2.1 d.2.2.1 d.2.2.2.1 d.2.2.2.2
theorem kG {f:Sort _}{g:Sort _}{h:Sort _}{i:Sort _}{k:f->g->h->i->Prop}{q:f->g->h->i->Prop}{l:f->g->h->i->Prop}{m:f->g->h->i->Prop}{j:Prop}(n:∃a,∃b,∃c,∃d,k a b c d/\q a b c d/\l a b c d/\m a b c d)(s:∀a,∀b,∀c,∀d,k a b c d->q a b c d->l a b c d->m a b c d->j):j:=n.elim λa o=>o.elim λb p=>p.elim λc r=>r.elim λd e=>s a b c d e.1 e.2.1 e.2.2.1 e.2.2.2
theorem MN {g:Sort _}{h:Sort _}{i:Sort _}{j:Sort _}{k:Sort _}{m:g->h->i->j->k->Prop}{q:g->h->i->j->k->Prop}{n:g->h->i->j->k->Prop}{l:Prop}(o:∃a,∃b,∃c,∃d,∃e,m a b c d e/\q a b c d e/\n a b c d e)(x:∀a,∀b,∀c,∀d,∀e,m a b c d e->q a b c d e->n a b c d e->l):l:=o.elim λa p=>p.elim λb r=>r.elim λc s=>s.elim λd t=>t.elim λe f=>x a b c d e f.1 f.2.1 f.2.2
theorem ZJ {s:Sort _}{t:Sort _}{x:Sort _}{y:Sort _}{z:Sort _}{A:Sort _}{C:Sort _}{i:s->t->x->y->z->A->C->Prop}{h:Prop}(j:∃a,∃b,∃c,∃d,∃e,∃f,∃g,i a b c d e f g)(r:∀a,∀b,∀c,∀d,∀e,∀f,∀g,i a b c d e f g->h):h:=j.elim λa k=>k.elim λb l=>l.elim λc m=>m.elim λd n=>n.elim λe o=>o.elim λf p=>p.elim λg q=>r a b c d e f g q
theorem zq {e:Sort _}{f:Sort _}{g:Sort _}{i:e->f->g->Prop}{q:e->f->g->Prop}{j:e->f->g->Prop}{k:e->f->g->Prop}{l:e->f->g->Prop}{u:e->f->g->Prop}{h:Prop}(m:∃a,∃b,∃c,i a b c/\q a b c/\j a b c/\k a b c/\l a b c/\u a b c)(p:∀a,∀b,∀c,i a b c->q a b c->j a b c->k a b c->l a b c->u a b c->h):h:=m.elim λa n=>n.elim λb o=>o.elim λc d=>p a b c d.1 d.2.1 d.2.2.1 d.2.2.2.1 d.2.2.2.2.1 d.2.2.2.2.2
theorem DF {g:Sort _}{h:Sort _}{i:Sort _}{j:Sort _}{k:Sort _}{m:g->h->i->j->k->Prop}{q:g->h->i->j->k->Prop}{n:g->h->i->j->k->Prop}{o:g->h->i->j->k->Prop}{l:Prop}(p:∃a,∃b,∃c,∃d,∃e,m a b c d e/\q a b c d e/\n a b c d e/\o a b c d e)(y:∀a,∀b,∀c,∀d,∀e,m a b c d e->q a b c d e->n a b c d e->o a b c d e->l):l:=p.elim λa r=>r.elim λb s=>s.elim λc t=>t.elim λd x=>x.elim λe f=>y a b c d e f.1 f.2.1 f.2.2.1 f.2.2.2
theorem ZI {h:Sort _}{i:Sort _}{j:Sort _}{k:Sort _}{l:Sort _}{m:Sort _}{o:h->i->j->k->l->m->Prop}{q:h->i->j->k->l->m->Prop}{p:h->i->j->k->l->m->Prop}{r:h->i->j->k->l->m->Prop}{n:Prop}(s:∃a,∃b,∃c,∃d,∃e,∃f,o a b c d e f/\q a b c d e f/\p a b c d e f/\r a b c d e f)(C:∀a,∀b,∀c,∀d,∀e,∀f,o a b c d e f->q a b c d e f->p a b c d e f->r a b c d e f->n):n:=s.elim λa t=>t.elim λb x=>x.elim λc y=>y.elim λd z=>z.elim λe A=>A.elim λf g=>C a b c d e f g.1 g.2.1 g.2.2.1 g.2.2.2
theorem tt {f:Sort _}{g:Sort _}{h:Sort _}{i:Sort _}{k:f->g->h->i->Prop}{q:f->g->h->i->Prop}{l:f->g->h->i->Prop}{m:f->g->h->i->Prop}{n:f->g->h->i->Prop}{u:f->g->h->i->Prop}{v:f->g->h->i->Prop}{j:Prop}(o:∃a,∃b,∃c,∃d,k a b c d/\q a b c d/\l a b c d/\m a b c d/\n a b c d/\u a b c d/\v a b c d)(t:∀a,∀b,∀c,∀d,k a b c d->q a b c d->l a b c d->m a b c d->n a b c d->u a b c d->v a b c d->j):j:=o.elim λa p=>p.elim λb r=>r.elim λc s=>s.elim λd e=>t a b c d e.1 e.2.1 e.2.2.1 e.2.2.2.1 e.2.2.2.2.1 e.2.2.2.2.2.1 e.2.2.2.2.2.2
theorem zr {f:Sort _}{g:Sort _}{h:Sort _}{i:Sort _}{k:f->g->h->i->Prop}{q:f->g->h->i->Prop}{l:f->g->h->i->Prop}{m:f->g->h->i->Prop}{n:f->g->h->i->Prop}{u:f->g->h->i->Prop}{v:f->g->h->i->Prop}{o:f->g->h->i->Prop}{j:Prop}(p:∃a,∃b,∃c,∃d,k a b c d/\q a b c d/\l a b c d/\m a b c d/\n a b c d/\u a b c d/\v a b c d/\o a b c d)(x:∀a,∀b,∀c,∀d,k a b c d->q a b c d->l a b c d->m a b c d->n a b c d->u a b c d->v a b c d->o a b c d->j):j:=p.elim λa r=>r.elim λb s=>s.elim λc t=>t.elim λd e=>x a b c d e.1 e.2.1 e.2.2.1 e.2.2.2.1 e.2.2.2.2.1 e.2.2.2.2.2.1 e.2.2.2.2.2.2.1 e.2.2.2.2.2.2.2
theorem v6 {k:Sort _}{l:Sort _}{m:Sort _}{n:Sort _}{o:Sort _}{p:Sort _}{r:Sort _}{s:Sort _}{t:Sort _}{z:k->l->m->n->o->p->r->s->t->Prop}{q:k->l->m->n->o->p->r->s->t->Prop}{A:k->l->m->n->o->p->r->s->t->Prop}{C:k->l->m->n->o->p->r->s->t->Prop}{E:k->l->m->n->o->p->r->s->t->Prop}{u:k->l->m->n->o->p->r->s->t->Prop}{v:k->l->m->n->o->p->r->s->t->Prop}{F:k->l->m->n->o->p->r->s->t->Prop}{x:k->l->m->n->o->p->r->s->t->Prop}{y:Prop}(G:∃a,∃b,∃c,∃d,∃e,∃f,∃g,∃i,∃j,z a b c d e f g i j/\q a b c d e f g i j/\A a b c d e f g i j/\C a b c d e f g i j/\E a b c d e f g i j/\u a b c d e f g i j/\v a b c d e f g i j/\F a b c d e f g i j/\x a b c d e f g i j)(T:∀a,∀b,∀c,∀d,∀e,∀f,∀g,∀i,∀j,z a b c d e f g i j->q a b c d e f g i j->A a b c d e f g i j->C a b c d e f g i j->E a b c d e f g i j->u a b c d e f g i j->v a b c d e f g i j->F a b c d e f g i j->x a b c d e f g i j->y):y:=G.elim λa H=>H.elim λb K=>K.elim λc M=>M.elim λd N=>N.elim λe P=>P.elim λf Q=>Q.elim λg R=>R.elim λi S=>S.elim λj h=>T a b c d e f g i j h.1 h.2.1 h.2.2.1 h.2.2.2.1 h.2.2.2.2.1 h.2.2.2.2.2.1 h.2.2.2.2.2.2.1 h.2.2.2.2.2.2.2.1 h.2.2.2.2.2.2.2.2
theorem MJ {k:Sort _}{l:Sort _}{m:Sort _}{e:k->l->m->Prop}{d:Prop}(f:∃a,∃b,∃c,e a b c)(j:∀a,∀b,∀c,e a b c->d):d:=f.elim λa g=>g.elim λb h=>h.elim λc i=>j a b c i
theorem ZE {k:Sort _}{l:Sort _}{e:Prop}{q:Prop}{f:Prop}{g:k->l->Prop}{d:Prop}(c:e/\q/\f/\∃a,∃b,g a b)(j:e->q->f->∀a,∀b,g a b->d):d:=c.2.2.2.elim λa h=>h.elim λb i=>j c.1 c.2.1 c.2.2.1 a b i
theorem ov {d:Sort _}{e:Sort _}{h:Prop}{q:d->e->Prop}{i:d->e->Prop}{j:d->e->Prop}{k:d->e->Prop}{f:Prop}(g:h/\∃a,∃b,q a b/\i a b/\j a b/\k a b)(m:h->∀a,∀b,q a b->i a b->j a b->k a b->f):f:=g.2.elim λa l=>l.elim λb c=>m g.1 a b c.1 c.2.1 c.2.2.1 c.2.2.2
theorem MG {c:Sort _}{e:c->Prop}{q:c->Prop}{f:c->Prop}{g:c->Prop}{d:Prop}(h:∃a,e a/\q a/\f a/\g a)(i:∀a,e a->q a->f a->g a->d):d:=h.elim λa b=>i a b.1 b.2.1 b.2.2.1 b.2.2.2
theorem ZH {f:Sort _}{g:Sort _}{h:Sort _}{i:Sort _}{k:f->g->h->i->Prop}{q:f->g->h->i->Prop}{l:f->g->h->i->Prop}{j:Prop}(m:∃a,∃b,∃c,∃d,k a b c d/\q a b c d/\l a b c d)(r:∀a,∀b,∀c,∀d,k a b c d->q a b c d->l a b c d->j):j:=m.elim λa n=>n.elim λb o=>o.elim λc p=>p.elim λd e=>r a b c d e.1 e.2.1 e.2.2
inductive O where
 |bE
 |bs (b:Bool)
 |I (i:Int)
 |aA (b:List UInt8)
 |ce (d:List O)
 |gd (c:Nat) (e:List (Nat×O))
 |ah (a:Nat)
 |br (a:Nat)
 |fB (a:Nat)
 |fP (d:List O)
structure w where
 U:Nat->Option (List O)
 a4:Nat->Option (List UInt8)
 aQ:Nat->Option (List<|Int×O)
noncomputable def w.a1 (c:w)(a:Nat)(x:List O):w:={c with U:=λb=>if b=a then J x else c.U b}
noncomputable def w.gh (c:w)(a:Nat)(x:List UInt8):w:={c with a4:=λb=>if b=a then J x else c.a4 b}
noncomputable def w.ja (c:w)(a:Nat)(x:List (Int×O)):w:={c with aQ:=λb=>if b=a then J x else c.aQ b}
structure w.ar (b c:w):Prop where
 U:∀a x,b.U a=J x->c.U a=J x
 a4:∀a x,b.a4 a=J x->c.a4 a=J x
 aQ:∀a x,b.aQ a=J x->c.aQ a=J x
mutual
inductive l4 where|bg|as|gN|nj|lJ|s0|vv|Ec|wu
inductive pb where|cX|eq|eY|ar|gx|jt|vS|Du|LD
inductive lt where|aH|aA|yA|vX|vY|rv|pW|jS|I
inductive kk where|eA|yQ|wl|zL|yL|hv|np
end
mutual
inductive aX where
 |X (i:Nat)
 |ab (v:O)
 |aK (b:aX) (a:Nat)
 |an (j:l4) (l e:aX)
 |a7 (j:pb) (l e:aX)
 |hG (l e:aX)
 |hd (l e:aX)
 |gP (b:aX)
 |iN (q a f:aX)
 |as (b i:aX)
 |eF (b p m:aX)
 |ce (d:iF)
 |ah (d:iF)
 |vC
 |bt (g:lt) (b:aX)
 |i6 (a f:aX)
 |vZ (a f:aX)
 |aN (g:Nat) (d:iF)
 |dP (c:Nat) (d:iF)
 |be (b:aX) (h:Nat) (d:iF)
 |eC (h:kk) (b:aX) (d:iF)
 |ry (b:aX) (o:Nat)
 |zv (b:aX)
 |jr (k:aX) (x:Nat) (n:l5)
 |oo (b:aX)
inductive iF where
 |L
 |Y (a:aX) (b:iF)
inductive l5 where
 |hC (a:aX)
 |zP (a b:aX)
 |wn (a b c:aX)
 |fu (d:aX)
end
mutual
inductive na where
 |aE (x:Nat) (b:aX)
 |e0 (f:List Nat) (b:aX)
 |as (d i v:aX)
 |eF (d j g v:aX)
 |od (x:Nat) (k:l4) (b:aX)
 |bX (b:aX)
 |bJ (e:aX) (a c:b2)
 |iA (e:aX) (c:b2)
 |bD (l:Bool) (f:List Nat) (h:l5) (c:b2)
 |aI (b:aX)
 |f7
inductive b2 where
 |L
 |Y (b:na) (a:b2)
end
structure bq where
 gQ:Nat
 iP:Nat
 s5:Option O
 qX:b2
structure jM where
 gQ:Nat
 iP:Nat
 kZ:List (Option aX×Nat×aX)
noncomputable def b5:Nat:=1048576
abbrev bp:=List (Option O)
noncomputable def bp.b7 (a:bp)(i:Nat):Option O:=(a[i]?).join
inductive xu where
 |cO
 |aI (v:O)
noncomputable def iR {b:Type}(l:List b):Option b:=cj l D λa c=>cj c (J a) λd d=>D
noncomputable def zk {b:Type}(l:List b):Option Unit:=cj l (J ()) λa a=>D
theorem Dr {c:Type}{l:List c}{u:Unit}:zk l=J u->l=[]:=cj l (λa=>rfl) λa a b=>nomatch b
noncomputable def nH {b:Type}(l:List b):Option (b×b):=cj l D λa d=>(iR d).map λc=>(a,c)
theorem mC {c:Type}{l:List c}{a:c}:iR l=J a->l=[a]:=cj l (λb=>nomatch b) λf d=>cj d (λb=>by exact dr b<|>rfl) λe e b=>nomatch b
theorem tR {d:Type}{l:List d}{a:d×d}:nH l=J a->l=[a.1,a.2]:=cj l (λb=>nomatch b) λg h b=>by obtain⟨c,e,f⟩:=fw.mp b;exact V (mC e ..)<|aY (f ..)<|rfl
abbrev cy {a:Type}:a->Prop:=λb=>False
abbrev mB (v:O)(e:Int->Prop)(c:List UInt8->Prop)(f b d:Nat->Prop)(h g:List O->Prop):Prop:=match v with
 |.fP x=>g x|.ah a=>f a|.ce x=>h x|.fB a=>d a|.br a=>b a|.aA j=>c j|.I i=>e i|.bE=>False|.bs _=>False|.gd _ _=>False
abbrev wf {d e f:Type}(v:O)(y:d)(c:e)(b:f)(m n:List O->d->e->f->Prop)(l j g:Nat->d->e->f->Prop)(h:List UInt8->d->e->f->Prop)(k:Int->d->e->f->Prop):Prop:=match v,y,c,b with
 |.fP x,y,c,b=>m x y c b|.ce x,y,c,b=>n x y c b|.ah a,y,c,b=>l a y c b|.fB a,y,c,b=>j a y c b|.br a,y,c,b=>g a y c b
 |.aA o,y,c,b=>h o y c b|.I i,y,c,b=>k i y c b|.bE,_,_,_=>False|.bs _,_,_,_=>False|.gd _ _,_,_,_=>False
abbrev mw {e b c d:Type}:e->b->c->d->Prop:=λa a a a=>False
abbrev ge (v:O)(a:Int->Prop):Prop:=mB v a cy cy cy cy cy cy
abbrev ro (v:O)(a:List UInt8->Prop):Prop:=mB v cy a cy cy cy cy cy
abbrev jT (v:O)(a:Nat->Prop):Prop:=mB v cy cy a cy cy cy cy
abbrev ty (v:O)(a:Nat->Prop):Prop:=mB v cy cy cy cy a cy cy
abbrev DO (v:O)(a:List O->Prop):Prop:=mB v cy cy cy cy cy a cy
abbrev ny (v:O)(g:Prop)(b:Bool->Prop)(h:Nat->List (Nat×O)->Prop)(e:Int->Prop)(d:List UInt8->Prop)(f:Nat->Prop):Prop:=match v with
 |.bE=>g|.bs x=>b x|.I i=>e i|.aA b=>d b|.ce _=>False|.gd c j=>h c j|.ah a=>f a|.br _=>False|.fB _=>False|.fP _=>False
abbrev pQ {b c:Type}:b->c->Prop:=λa a=>False
abbrev zC (v:O)(a:Nat->List (Nat×O)->Prop):Prop:=ny v False cy a cy cy cy
abbrev el (a:Bool->w->Prop)(v:O)(c:w):Prop:=ny v False (λb=>a b c) pQ cy cy cy
abbrev ei {a:Type}(c:Option a)(b:a->Prop):Prop:=match c with|some x=>b x|.none=>False
section
variable {v:O}{g4:Int->Prop}{cs:List UInt8->Prop}{eU A hV:Nat->Prop}{T R:List O->Prop}{G:Prop}
theorem nz (b:mB v g4 cs eU A hV T R)(i:∀x,v=.I x->g4 x->G)(c:∀x,v=.aA x->cs x->G)(l:∀x,v=.ah x->eU x->G)(a:∀x,v=.br x->A x->G)(d:∀x,v=.fB x->hV x->G)(f:∀x,v=.ce x->T x->G)(e:∀x,v=.fP x->R x->G):G:=by
 induction v using O.casesOn
 case I=>exact i _ rfl b
 case aA=>exact c _ rfl b
 case ah=>exact l _ rfl b
 case br=>exact a _ rfl b
 case fB=>exact d _ rfl b
 case ce=>exact f _ rfl b
 case fP=>exact e _ rfl b
 all_goals exact b.elim
abbrev cF {d:Type}{a:d->Prop}{G:Prop}:∀x,a x->False->G:=λc c b=>b.elim
theorem DN (b:ge v g4):∃i,v=.I i/\g4 i:=nz b (λi a q=>⟨i,a,q⟩) cF cF cF cF cF cF
theorem iQ (b:ge v g4){a:Prop}(c:∀i,v=.I i->g4 i->a):a:=aU (DN b) c
theorem ZV (b:ro v cs):∃i,v=.aA i/\cs i:=nz b cF (λi a q=>⟨i,a,q⟩) cF cF cF cF cF
theorem we (b:ro v cs){a:Prop}(c:∀i,v=.aA i->cs i->a):a:=aU (ZV b) c
theorem ZY (b:jT v eU):∃i,v=.ah i/\eU i:=nz b cF cF (λi a q=>⟨i,a,q⟩) cF cF cF cF
theorem k3 (b:jT v eU){a:Prop}(c:∀i,v=.ah i->eU i->a):a:=aU (ZY b) c
theorem ZW (b:ty v hV):∃i,v=.fB i/\hV i:=nz b cF cF cF cF (λi a q=>⟨i,a,q⟩) cF cF
theorem zz (b:ty v hV){a:Prop}(c:∀i,v=.fB i->hV i->a):a:=aU (ZW b) c
theorem Z1 (b:DO v T):∃i,v=.ce i/\T i:=nz b cF cF cF cF cF (λi a q=>⟨i,a,q⟩) cF
theorem Z0 (b:DO v T){a:Prop}(c:∀i,v=.ce i->T i->a):a:=aU (Z1 b) c
theorem zD {b:Prop}{e:Bool->Prop}{d:Nat->List (Nat×O)->Prop}(a:ny v b e d g4 cs eU)(f:v=.bE->b->G)(g:∀x,v=.bs x->e x->G)(c:∀x y,v=.gd x y->d x y->G)(i:∀x,v=.I x->g4 x->G)(y:∀x,v=.aA x->cs x->G)(l:∀x,v=.ah x->eU x->G):G:=by
 induction v using O.casesOn
 case bE=>exact f rfl a
 case bs=>exact g _ rfl a
 case I=>exact i _ rfl a
 case aA=>exact y _ rfl a
 case ah=>exact l _ rfl a
 case gd=>exact c _ _ rfl a
 all_goals exact a.elim
abbrev zn {d e:Type}{b:d->e->Prop}{G:Prop}:∀x y,b x y->False->G:=λa a a c=>c.elim
theorem zB {e f g:Type}{y:e}{d:f}{b:g}{R T:List O->e->f->g->Prop}{eU hV A:Nat->e->f->g->Prop}{cs:List UInt8->e->f->g->Prop}{g4:Int->e->f->g->Prop}(c:wf v y d b R T eU hV A cs g4)(k:∀x,v=.fP x->R x y d b->G)(m:∀x,v=.ce x->T x y d b->G)(l:∀x,v=.ah x->eU x y d b->G)(j:∀x,v=.fB x->hV x y d b->G)(a:∀x,v=.br x->A x y d b->G)(h:∀x,v=.aA x->cs x y d b->G)(i:∀x,v=.I x->g4 x y d b->G):G:=by
 induction v using O.casesOn
 case I=>exact i _ rfl c
 case aA=>exact h _ rfl c
 case ah=>exact l _ rfl c
 case br=>exact a _ rfl c
 case fB=>exact j _ rfl c
 case ce=>exact m _ rfl c
 case fP=>exact k _ rfl c
 all_goals exact c.elim
theorem ZZ {d:Nat->List (Nat×O)->Prop}(b:zC v d):∃c a,v=.gd c a/\d c a:=by
 induction v using O.casesOn
 case gd=>exact⟨_,_,rfl,b⟩
 all_goals exact b.elim
theorem MU {d:Nat->List (Nat×O)->Prop}(e:zC v d){a:Prop}(f:∀c b,v=.gd c b->d c b->a):a:=ia (ZZ e) f
theorem TP {a:Bool->w->Prop}{d:w}(c:el a v d):∃b,v=.bs b/\a b d:=by
 induction v using O.casesOn
 case bs=>exact⟨_,rfl,c⟩
 all_goals exact c.elim
theorem qY {b:Bool->w->Prop}{d:w}(e:el b v d){a:Prop}(f:∀c,v=.bs c->b c d->a):a:=aU (TP e) f
theorem zE {d:Type}{a:Option d}{c:d->Prop}(b:ei a c):∃x,a=J x/\c x:=by
 induction a with
 |none=>exact b.elim|some x=>exact⟨x,rfl,b⟩
theorem gg {d:Type}{c:Option d}{b:d->Prop}(e:ei c b){a:Prop}(f:∀x,c=J x->b x->a):a:=aU (zE e) f
end
def gF (c:w)(a:Nat)(b:List O->Prop):Prop:=ei (c.U a) b
def nm (c:w)(a:Nat)(b:List UInt8->Prop):Prop:=ei (c.a4 a) b
def ml (c:w)(a:Nat)(b:List (Int×O)->Prop):Prop:=ei (c.aQ a) b
def hc (b:w)(x:List O)(c:O->w->Prop):Prop:=x.length<=b5/\∀a,b.U a=.none->c (.ah a) (b.a1 a x)
def v0 (b:w)(x:List UInt8)(c:O->w->Prop):Prop:=x.length<=b5/\∀a,b.a4 a=.none->c (.br a) (b.gh a x)
def Zn (b:w)(x:List (Int×O))(c:O->w->Prop):Prop:=∀a,b.aQ a=.none->c (.fB a) (b.ja a x)
noncomputable def hN (a:Nat)(i:Int):Option Nat:=if 0<=i then(if i<a then J i.toNat else .none)else if 0<=i+a then J (i+a).toNat else .none
noncomputable def h2 (a:Nat)(i:Int):Nat:=(max 0<|min (if i<0 then i+a else i) a).toNat
def vG (c b:Nat)(v:O)(a:Nat->Prop):Prop:=ny v (a b) cy pQ (λi=>a<|h2 c i) cy cy
theorem Vr {d c:Nat}{v:O}{b:Nat->Prop}(a:vG d c v b):(v=.bE/\b c)\/∃i,v=.I i/\b (h2 d i):=by
 induction v using O.casesOn
 case bE=>exact .inl ⟨rfl,a⟩
 case I=>exact .inr ⟨_,rfl,a⟩
 all_goals exact a.elim
noncomputable def dp {a:Type}(d:List a)(c b:Nat):List a:=(d.take b).drop c
def k6 (a:Nat)(e c:O)(d:Nat->Nat->Prop):Prop:=vG a 0 e λf=>vG a a c λb=>d f b
noncomputable def hv (a:List (Int×O))(b:Int):Option O:=(a.find? (·.1==b)).map (·.2)
noncomputable def lE:List (Int×O)->Int->O->List (Int×O)
 |[],a,v=>[(a,v)]|b::c,a,v=>if b.1==a then(b.1,v)::c else b::lE c a v
noncomputable def oi:List (Int×O)->Int->List (Int×O)
 |[],_=>[]|a::c,b=>if a.1==b then c else a::oi c b
noncomputable def q7 (b:List (Nat×O))(a:Nat):Option O:=match b with
 |[]=>.none|(c,v)::d=>if c=a then J v else q7 d a
noncomputable def nk:List (Nat×O)->Nat->O->List (Nat×O)
 |[],a,v=>[(a,v)]|(b,d)::c,a,v=>if b=a then(b,v)::c else(b,d)::nk c a v
noncomputable def tg (v:O):Option Int:=O.casesOn (motive_1:=λa=>Option Int) v D (λa=>D) J (λa=>D) (λa=>D) (λa a=>D) (λa=>D) (λa=>D) (λa=>D) λa=>D
noncomputable def Cp (v:O):Option (List UInt8):=O.casesOn (motive_1:=λa=>Option<|List UInt8) v D (λa=>D) (λa=>D) J (λa=>D) (λa a=>D) (λa=>D) (λa=>D) (λa=>D) λa=>D
noncomputable def EH (v:O):Option (O×O):=O.casesOn (motive_1:=λa=>Option<|O×O) v D (λa=>D) (λa=>D) (λa=>D) nH (λa a=>D) (λa=>D) (λa=>D) (λa=>D) λa=>D
noncomputable def n7 {c:Type}(b:O->Option c):List O->Option (List c)
 |[]=>J []|v::d=>(b v).bind λa=>(n7 b d).map (a::·)
noncomputable def io (l:List O):Option (List Int):=n7 tg l
noncomputable def pB (l:List O):Option (List<|List UInt8):=n7 Cp l
noncomputable def vr (l:List O):Option (List<|Int×Int):=n7 (λv=>(EH v).bind λq=>(tg q.1).bind λi=>(tg q.2).map λj=>(i,j)) l
noncomputable def sU (l:List O):Option (List<|Int×List UInt8):=n7 (λv=>(EH v).bind λq=>(tg q.1).bind λi=>(Cp q.2).map λj=>(i,j)) l
theorem vR {v:O}{i:Int}(a:tg v=J i):v=.I i:=by
 induction v using O.casesOn
 case I=>exact congrArg O.I (dr a)
 all_goals exact nomatch a
theorem ID {v:O}{i:List UInt8}(a:Cp v=J i):v=.aA i:=by
 induction v using O.casesOn
 case aA=>exact congrArg O.aA (dr a)
 all_goals exact nomatch a
theorem Oi {v:O}{q:O×O}(a:EH v=J q):v=.ce [q.1,q.2]:=by
 induction v using O.casesOn
 case ce=>exact congrArg O.ce (tR a)
 all_goals exact nomatch a
theorem RL {f:Type}{d:O->Option f}{v:O}{e:List O}{l:List f}(b:n7 d (v::e)=J l):∃a c,d v=J a/\n7 d e=J c/\l=a::c:=by obtain⟨a,g,b⟩:=lm.mp b;obtain⟨c,h,b⟩:=fw.mp b;exact⟨a,c,g,h,b.symm⟩
theorem vl {f:Type}{b:O->Option f}{v:O}{d:List O}{l:List f}(g:n7 b (v::d)=J l){c:Prop}(h:∀a e,b v=J a->n7 b d=J e->l=a::e->c):c:=em (RL g) h
noncomputable def qZ (i:Int):UInt8:=dQ i.toNat
noncomputable def tx (a:List Int):List UInt8:=a.map qZ
noncomputable def bY:Nat->Nat->List UInt8
 |0,_=>[]|b+1,a=>bY b (a/256)++[dQ (a%256)]
noncomputable def zw (a:List UInt8):Nat:=a.foldl (λb x=>b*256+x.toNat) 0
def jQ (a:Int):Prop:=-18446744073709551616<a/\a<18446744073709551616
abbrev gS (x y:O)(c:Int->Int->Prop):Prop:=ge x λa=>ge y λb=>c a b
theorem ZX {x y:O}{d:Int->Int->Prop}(b:gS x y d):∃a c,x=.I a/\y=.I c/\d a c:=by obtain⟨a,f,b⟩:=DN b;obtain⟨c,e,b⟩:=DN b;exact⟨a,c,f,e,b⟩
theorem zA {x y:O}{d:Int->Int->Prop}(e:gS x y d){b:Prop}(f:∀a c,x=.I a->y=.I c->d a c->b):b:=em (ZX e) f
def oe (e:l4)(x y:O)(c:w)(d:O->w->Prop):Prop:=l4.casesOn e (mB x (λa=>ge y λb=>d (.I<|a+b) c) (λa=>ro y λb=>a.length+b.length<=b5/\d (.aA<|a++b) c) (λa=>jT y λb=>gF c a λx=>gF c b λy=>hc c (x++y) d) cy cy cy cy) (gS x y λa b=>d (.I<|a-b) c) (gS x y λa b=>(jQ a\/jQ b)/\d (.I<|a*b) c) (gS x y λa b=>(0<b/\jQ b)/\d (.I<|a/b) c) (gS x y λa b=>0<b/\d (.I<|a%b) c) (gS x y λa b=>(0<=a/\0<=b)/\d (.I ((a.toNat&&&b.toNat:Nat):Int)) c) (gS x y λa b=>(0<=a/\0<=b)/\d (.I ((a.toNat|||b.toNat:Nat):Int)) c) (gS x y λa b=>(0<=b/\b<=64/\jQ a)/\d (.I<|a*2^b.toNat) c) (gS x y λa b=>(0<=b/\b<=64)/\d (.I<|a/2^b.toNat) c)
def yF (x y:O)(e:w)(d:Bool->Prop):Prop:=ny x False (λa=>el (λb g=>d<|a==b) y e) pQ (λa=>ge y λb=>d<|dk (a=b)) cy (λa=>jT y λb=>gF e a λx=>gF e b λy=>cj y (d x.isEmpty) λc f=>x=c::f/\(sU x).isSome=ag/\d ag)
def yZ (x y:O)(f:w)(b:Bool->Prop):Prop:=ge x λd=>mB y cy cy (λa=>gF f a λe=>ei (io e) λc=>b<|c.contains d) cy (λa=>ml f a λg=>b (g.any (·.1==d))) (λe=>ei (io e) λc=>b<|c.contains d) cy
abbrev LC (v:O)(a:Prop):Prop:=ny v a cy pQ cy cy cy
theorem X7 {v:O}{b:Prop}(a:LC v b):v=.bE/\b:=by
 induction v using O.casesOn
 case bE=>exact⟨rfl,a⟩
 all_goals exact a.elim
def Cv (f:pb)(x y:O)(d:w)(b:Bool->Prop):Prop:=pb.casesOn f (yF x y d b) (yF x y d λe=>b<|!e) (gS x y λa c=>b<|dk (a<c)) (gS x y λa c=>b<|dk (a<=c)) (gS x y λa c=>b<|dk (a>c)) (gS x y λa c=>b<|dk (a>=c)) (yZ x y d b) (yZ x y d λe=>b<|!e) (LC y<|ny x (b ap) cy pQ cy cy λg=>b ag)
def nx (x:List O)(i:Int)(a:O->Prop):Prop:=ei (hN x.length i) λj=>ei x[j]? a
def wy (x y:O)(b:w)(c:O->w->Prop):Prop:=wf x y b c (λx y b c=>ge y λi=>nx x i λv=>c v b) (λx y b c=>ge y λi=>nx x i λv=>c v b) (λa y b c=>ge y λi=>gF b a λx=>nx x i λv=>c v b) (λa y b c=>ge y λi=>ml b a λd=>ei (hv d i) λv=>c v b) (λa y b c=>ge y λi=>nm b a λx=>(0<=i/\i<x.length)/\c (.I ((x.getD i.toNat 0).toNat:Int)) b) (λx y b c=>ge y λi=>(0<=i/\i<x.length)/\c (.I ((x.getD i.toNat 0).toNat:Int)) b) mw
def kJ (x g f:O)(b:w)(c:O->w->Prop):Prop:=wf x (g,f) b c mw mw (λa y b c=>gF b a λx=>k6 x.length y.1 y.2 λe d=>hc b (dp x e d) c) mw (λa y b c=>nm b a λx=>k6 x.length y.1 y.2 λe d=>v0 b (dp x e d) c) (λx y b c=>k6 x.length y.1 y.2 λe d=>c (.aA<|dp x e d) b) mw
def z7 (x y v:O)(b:w)(c:w->Prop):Prop:=mB x cy cy (λa=>ge y λi=>gF b a λx=>ei (hN x.length i) λj=>c<|b.a1 a<|x.set j v) (λa=>ge y λi=>ge v λv=>nm b a λx=>(0<=i/\i<x.length/\0<=v/\v<256)/\c (b.gh a<|x.set i.toNat<|qZ v)) (λa=>ge y λi=>ml b a λd=>d.length<b5/\c (b.ja a<|lE d i v)) cy cy
def Ei (x g f h:O)(c:w)(e:w->Prop):Prop:=mB x cy cy cy (λa=>ro h λv=>nm c a λx=>k6 x.length g f λd b=>(d+v.length=b)/\e (c.gh a<|x.take d++v++x.drop b)) cy cy cy
def Dh (v:O)(b:w)(c:O->w->Prop):Prop:=wf v () b c (λx d b c=>c (.I x.length) b) mw (λa d b c=>gF b a λx=>c (.I x.length) b) mw (λa d b c=>nm b a λx=>c (.I x.length) b) (λx d b c=>c (.I x.length) b) mw
def vx (v:O)(b:w)(c:O->w->Prop):Prop:=wf v () b c mw mw (λa e b c=>gF b a λx=>ei (io x) λf=>(∀i∈f,0<=i/\i<256)/\c (.aA<|tx f) b) mw (λa e b c=>nm b a λx=>c (.aA x) b) (λx e b c=>c (.aA x) b) (λd e b c=>(0<=d/\d<=b5)/\c (.aA<|dK d.toNat 0) b)
def IC (v:O)(c:w)(b:O->w->Prop):Prop:=mB v (λa=>(0<=a/\a<=b5)/\v0 c (dK a.toNat 0) b) (λx=>v0 c x b) cy cy cy cy cy
def y2 (v:O)(c:w)(b:List Int->Prop):Prop:=jT v λa=>gF c a λx=>ei (io x) b
noncomputable def pJ (l:List (Int×Int)):List (Int×Int):=match l.getLast? with
 |some a=>l.dropLast.takeWhile (λx=>dk (x.1<a.1))++a::l.dropLast.dropWhile (λx=>dk (x.1<a.1))|.none=>[]
def Df (l:List (Int×Int)):Prop:=l.length<64/\l.dropLast.Pairwise (λx y=>x.1<y.1)/\∀a,l.getLast?=J a->∀x∈l.dropLast,x.1≠a.1
def En (v:O)(d:w)(e:O->w->Prop):Prop:=jT v λa=>gF d a λx=>FG (io x) (ei (vr x) λb=>Df b/\hc d ((pJ b).map λf=>.ce [.I f.1,.I f.2]) e) λb=>b.length<64/\∀c:List Int,c.Perm b->c.Pairwise (·<=·)->hc d (c.map .I) e
def bt (f:lt)(v:O)(b:w)(c:O->w->Prop):Prop:=lt.casesOn f (Dh v b c) (vx v b c) (IC v b c) (y2 v b λd=>ei d.max? λi=>c (.I i) b) (y2 v b λd=>ei d.min? λi=>c (.I i) b) (y2 v b λd=>c (.I d.sum) b) (En v b c) (jT v λa=>gF b a λx=>hc b x c) (ny v False (λe=>c (.I (if e then 1 else 0)) b) pQ (λi=>c (.I i) b) cy cy)
def Cm (e:kk)(v:O)(d:List O)(b:w)(c:O->w->Prop):Prop:=kk.casesOn e (jT v λa=>ei (iR d) λv=>gF b a λx=>x.length<b5/\c .bE (b.a1 a<|x++[v])) (jT v λa=>ei (iR d) λv=>jT v λf=>gF b a λx=>gF b f λy=>(a≠f/\x.length+y.length<=b5)/\c .bE (b.a1 a<|x++y)) (jT v λa=>ei (zk d) λi=>gF b a λx=>c .bE<|b.a1 a x.reverse) (jT v λa=>ei (zk d) λi=>gF b a λx=>ei x.getLast? λv=>c v<|b.a1 a x.dropLast) (ty v λa=>ei (iR d) λv=>ge v λe=>ml b a λg=>ei (hv g e) λv=>c v<|b.ja a<|oi g e) (ty v λa=>ei (nH d) λq=>ge q.1 λe=>ml b a λg=>c ((hv g e).getD q.2) b) (ro v λf=>ei (zk f) λi=>ei (iR d) λv=>jT v λa=>gF b a λx=>ei (pB x) λh=>h.flatten.length<=b5/\c (.aA h.flatten) b)
def aeX (v:O)(a:Nat)(d:w)(c:O->w->Prop):Prop:=ge v λb=>(0<=b/\a<=8/\b<256^a)/\c (.aA<|bY a b.toNat) d
def vW (v:O)(c:w)(b:Prop):Prop:=jT v λa=>gF c a λd=>b
def Dj (v:O)(c:w)(b:Prop):Prop:=ty v λa=>ml c a λd=>b
def LW (c:kk)(v:O)(b:w)(a:Prop):Prop:=kk.casesOn c (vW v b a) (vW v b a) (vW v b a) (vW v b a) (Dj v b a) (Dj v b a) (ro v λd=>a)
def ZS (v:O)(c:w)(b:O->w->Prop):Prop:=ro v λa=>a.length<=8/\b (.I<|zw a) c
noncomputable def gA (a:Int):Nat->List Int
 |0=>[]|b+1=>a::gA (a+1) b
noncomputable def lD (a:Int):Nat->List Int
 |0=>[]|b+1=>a::lD (a-1) b
def iT (a:Int):Prop:=-1048576<=a/\a<=1048576
def tG (a b c:O)(d:List O->Prop):Prop:=ge a λa=>ge b λb=>ge c λc=>(iT a/\iT b)/\((c=1/\d ((gA a (b-a).toNat).map .I))\/(c=-1/\d ((lD a (a-b).toNat).map .I)))
structure cG where
 gw:Nat->List O->w->(O->w->Prop)->Prop
 dP:Nat->List O->w->(O->w->Prop)->Prop
 be:Nat->Nat->Option Nat
def pE (e:O->w->(O->w->Prop)->Prop)(d:w->Prop):List O->List O->w->(List O->w->Prop)->Prop
 |[],c,a,b=>d a/\b c a|v::h,c,a,b=>d a/\e v a λg f=>pE e d h (c++[g]) f b
def LI (v:O)(c:w)(b:List O->(w->Prop)->Prop):Prop:=jT v λa=>gF c a λx=>b x (λd=>d.U a=J x)
mutual
def ao (C:cG):aX->bp->w->(O->w->Prop)->Prop
 |.X i,d,b,e=>ei (d.b7 i) λv=>e v b|.ab v,_,b,e=>e v b|.aK g a,d,b,e=>ao C g d b λv b=>zC v λK p=>ei (q7 p a) λH=>e H b|.an q l m,d,b,e=>ao C l d b λa b=>ao C m d b λf b=>oe q a f b e|.a7 q l m,d,b,e=>ao C l d b λa b=>ao C m d b λf b=>Cv q a f b λc=>e (.bs c) b|.hG l m,d,b,e=>ao C l d b (el λf b=>if f then ao C m d b (el λf b=>e (.bs f) b)else e (.bs ap) b)|.hd l m,d,b,e=>ao C l d b (el λf b=>if f then e (.bs ag) b else ao C m d b (el λf b=>e (.bs f) b))|.gP g,d,b,e=>ao C g d b (el λf b=>e (.bs !f) b)|.iN G a f,d,b,e=>ao C G d b (el λc b=>if c then ao C a d b e else ao C f d b e)|.as g i,d,b,e=>ao C g d b λa b=>ao C i d b λf b=>wy a f b e|.eF g A t,d,b,e=>ao C g d b λa b=>ao C A d b λl b=>ao C t d b λs b=>kJ a l s b e|.ce h,d,b,e=>gj C h d b λk b=>e (.ce k) b|.ah h,d,b,e=>gj C h d b λk b=>hc b k e|.vC,_,b,e=>Zn b [] e|.bt o g,d,b,e=>ao C g d b λv b=>bt o v b e|.i6 a f,d,b,e=>ao C a d b λx b=>ao C f d b λy b=>gS x y λi j=>e (.I (if i<j then j else i)) b|.vZ a f,d,b,e=>ao C a d b λx b=>ao C f d b λy b=>gS x y λi j=>e (.I (if j<i then j else i)) b|.aN o h,d,b,e=>gj C h d b λk b=>C.gw o k b e|.dP c h,d,b,e=>gj C h d b λk b=>C.dP c k b e|.be g n h,d,b,e=>ao C g d b λv b=>zC v λc p=>ei (C.be c n) λo=>gj C h d b λk b=>C.gw o (.gd c p::k) b e|.eC n g h,d,b,e=>ao C g d b λv b=>LW n v b (gj C h d b λk b=>Cm n v k b e)|.ry g n,d,b,e=>ao C g d b λv b=>aeX v n b e|.zv g,d,b,e=>ao C g d b λv b=>ZS v b e|.oo g,d,b,e=>ao C g d b λv b=>ty v λa=>ml b a λh=>hc b (h.map λg=>.I g.1) e|.jr r x z,d,b,e=>lQ C z d b λk E b=>pE (λv=>ao C r<|d.set x<|J v) E k [] b λF b=>hc b F e
def gj (C:cG):iF->bp->w->(List O->w->Prop)->Prop
 |.L,_,a,b=>b [] a|.Y d e,c,a,b=>ao C d c a λv a=>gj C e c a λf a=>b (v::f) a
def lQ (C:cG):l5->bp->w->(List O->(w->Prop)->w->Prop)->Prop
 |.hC a,d,b,f=>ao C a d b λe b=>tG (.I 0) e (.I 1) λg=>f g (λh=>True) b|.zP a e,d,b,f=>ao C a d b λa b=>ao C e d b λe b=>tG a e (.I 1) λg=>f g (λh=>True) b|.wn a e c,d,b,f=>ao C a d b λa b=>ao C e d b λe b=>ao C c d b λc b=>tG a e c λg=>f g (λh=>True) b|.fu i,d,b,f=>ao C i d b λv b=>LI v b λg j=>f g j b
end
noncomputable def gU:bp->List Nat->List O->Option bp
 |a,[],[]=>J a|a,x::c,v::b=>gU (a.set x<|J v) c b|_,_,_=>.none
def tS (c:List Nat)(v:O)(d:bp)(a:bp->Prop):Prop:=DO v λb=>ei (gU d c b) a
def EC (d:Bool)(b:List Nat)(v:O)(c:bp)(a:bp->Prop):Prop:=cond d (tS b v c a) (ei (iR b) λx=>a<|c.set x<|J v)
abbrev db:=xu->bp->w->Prop
def gK (e:Bool)(f:List Nat)(body:bp->w->db->Prop)(d:w->Prop):List O->bp->w->db->Prop
 |[],b,a,c=>d a/\c .cO b a
 |v::i,b,a,c=>d a/\EC e f v b λb=>body b a λg b a=>match g with
  |.cO=>gK e f body d i b a c
  |.aI h=>c (.aI h) b a
def hR (d:bp->w->(Bool->w->Prop)->Prop)(body:bp->w->db->Prop):Nat->bp->w->db->Prop
 |0,_,_,_=>False|g+1,b,a,c=>d b a λe a=>if e then body b a (λf b a=>match f with
  |.cO=>hR d body g b a c
  |.aI h=>c (.aI h) b a)else c .cO b a
mutual
def hS (C:cG):na->bp->w->db->Prop
 |.aE x f,d,b,e=>ao C f d b λv b=>e .cO (d.set x<|J v) b
 |.e0 k f,d,b,e=>ao C f d b λv b=>tS k v d λd=>e .cO d b
 |.as h i v,d,b,e=>ao C v d b λv b=>ao C h d b λh b=>ao C i d b λi b=>z7 h i v b λb=>e .cO d b
 |.eF h r o v,d,b,e=>ao C v d b λv b=>ao C h d b λh b=>ao C r d b λl b=>ao C o d b λn b=>Ei h l n v b λb=>e .cO d b
 |.od x y f,d,b,e=>ei (d.b7 x) λv=>ge v λa=>ao C f d b λg b=>oe y (.I a) g b λv b=>e .cO (d.set x<|J v) b
 |.bX f,d,b,e=>ao C f d b λv b=>ny v (e .cO d b) (λm=>e .cO d b) pQ (λm=>e .cO d b) (λm=>e .cO d b) cy|.bJ j a g,d,b,e=>ao C j d b (el λc b=>if c then a6 C a d b e else a6 C g d b e)|.iA j g,d,b,e=>∃s,hR (λd b q=>ao C j d b<|el q) (a6 C g) s d b e|.bD z k p g,d,b,e=>lQ C p d b λA t b=>gK z k (a6 C g) t A d b e|.aI f,d,b,e=>ao C f d b λv b=>e (.aI v) d b|.f7,_,_,_=>False
def a6 (C:cG):b2->bp->w->db->Prop
 |.L,b,a,c=>c .cO b a
 |.Y g d,b,a,c=>hS C g b a λe b a=>match e with
  |.cO=>a6 C d b a c
  |.aI f=>c (.aI f) b a
end
def t2 (C:cG):List (Option aX×Nat×aX)->bp->List (Nat×O)->w->(List (Nat×O)->w->Prop)->Prop
 |[],_,f,b,e=>e f b|(.none,a,h)::g,d,f,b,e=>ao C h d b λv b=>t2 C g d (nk f a v) b e|(J i,a,h)::g,d,f,b,e=>ao C i d b (el λc b=>if c then ao C h d b λv b=>t2 C g d (nk f a v) b e else t2 C g d f b e)
structure xC where
 CU:Nat->Option bq
 lB:Nat->Option jM
 be:Nat->Nat->Option Nat
noncomputable def yy (a c:Nat)(e:Option O)(b:List O):Option bp:=if b.length=a then J (b.map J++dK (c-a) .none)else e.bind λd=>if b.length+1=a then J (b.map J++J d::dK (c-a) .none)else .none
noncomputable def CR (a:xu):O:=xu.casesOn a .bE λv=>v
abbrev Et (c:xC)(C:cG)(e:Nat)(g:List O)(b:w)(d:O->w->Prop):Prop:=ei (c.CU e) λa=>ei (yy a.gQ a.iP a.s5 g) λh=>a6 C a.qX h b λf i b=>d (CR f) b
abbrev Eu (e:xC)(C:cG)(c:Nat)(d:List O)(b:w)(f:O->w->Prop):Prop:=ei (e.lB c) λa=>d.length=a.gQ/\t2 C a.kZ (.none::(d.map J++dK (a.iP-a.gQ-1) .none)) [] b λg b=>f (.gd c g) b
noncomputable def kx (b:xC)(c:Nat):cG:=gl ⟨λa a a a=>False,λa a a a=>False,b.be⟩ (λa C=>⟨Et b C,Eu b C,b.be⟩) c
theorem gf {a:Type}{c:Option a}{b:a->Prop}{x:a}(d:c=J x)(q:b x):ei c b:=d▸q
noncomputable def Cd:b2:=.Y (.aE 1<|.an .lJ (.X 0)<|.ab<|.I 18446744073709551616)<|.Y (.aE 2<|.ah .L)<|.Y (.bJ (.a7 .jt (.X 1)<|.ab<|.I 72057594037927936) (.Y (.bX<|.eC .eA (.X 2)<|.Y (.an .s0 (.X 1)<|.ab<|.I 255) .L)<|.Y (.od 1 .wu<|.ab<|.I 8)<|.Y (.bD ap [3] (.hC<|.ab<|.I 8)<|.Y (.bX<|.eC .eA (.X 2)<|.Y (.an .vv (.an .s0 (.X 1)<|.ab<|.I 127)<|.ab<|.I 128) .L)<|.Y (.od 1 .wu<|.ab<|.I 7) .L) .L)<|.Y (.bX<|.eC .eA (.X 2)<|.Y (.an .s0 (.X 1)<|.ab<|.I 127) .L)<|.Y (.od 1 .wu<|.ab<|.I 7)<|.Y (.iA (.a7 .gx (.X 1)<|.ab<|.I 0)<|.Y (.bX<|.eC .eA (.X 2)<|.Y (.an .vv (.an .s0 (.X 1)<|.ab<|.I 127)<|.ab<|.I 128) .L)<|.Y (.od 1 .wu<|.ab<|.I 7) .L) .L)<|.Y (.bX<|.eC .wl (.X 2) .L)<|.Y (.aI<|.bt .aA<|.X 2) .L
noncomputable def Ki:bq:=⟨1,5,D,Cd⟩
noncomputable def H5:b2:=.Y (.aE 2<|.ab<|.I 0)<|.Y (.bD ap [3] (.hC<|.ab<|.I 9)<|.Y (.bJ (.a7 .jt (.X 1)<|.bt .aH<|.X 0) (.Y .f7 .L) .L)<|.Y (.aE 4<|.as (.X 0)<|.X 1)<|.Y (.od 1 .bg<|.ab<|.I 1)<|.Y (.bJ (.a7 .cX (.X 3)<|.ab<|.I 8) (.Y (.aI<|.ce<|.Y (.an .vv (.an .Ec (.X 2)<|.ab<|.I 8)<|.X 4)<|.Y (.X 1) .L) .L) .L)<|.Y (.aE 2<|.an .vv (.an .Ec (.X 2)<|.ab<|.I 7)<|.an .s0 (.X 4)<|.ab<|.I 127)<|.Y (.bJ (.a7 .eY (.X 4)<|.ab<|.I 128) (.Y (.aI<|.ce<|.Y (.X 2)<|.Y (.X 1) .L) .L) .L) .L)<|.Y .f7 .L
noncomputable def JX:bq:=⟨2,6,D,H5⟩
noncomputable def Kp:bq:=⟨1,2,D,.Y (.bJ (.a7 .jt (.X 0)<|.an .nj (.ab<|.I 18446744073709551616)<|.ab<|.I 2) (.Y (.aI<|.an .as (.X 0)<|.ab<|.I 18446744073709551616) .L) .L)<|.Y (.aI<|.X 0) .L⟩
noncomputable def UQ:bq:=⟨2,3,D,.Y (.aI<|.an .bg (.an .gN (.as (.X 0)<|.X 1)<|.ab<|.I 256)<|.as (.X 0)<|.an .bg (.X 1)<|.ab<|.I 1) .L⟩
noncomputable def UH:bq:=⟨2,3,D,.Y (.aI<|.an .bg (.an .gN (.aN 3<|.Y (.X 0)<|.Y (.X 1) .L)<|.ab<|.I 65536)<|.aN 3<|.Y (.X 0)<|.Y (.an .bg (.X 1)<|.ab<|.I 2) .L) .L⟩
noncomputable def UP:bq:=⟨3,4,D,.Y (.as (.X 0) (.X 1)<|.an .nj (.X 2)<|.ab<|.I 256)<|.Y (.as (.X 0) (.an .bg (.X 1)<|.ab<|.I 1)<|.an .lJ (.X 2)<|.ab<|.I 256) .L⟩
noncomputable def UO:bq:=⟨3,4,D,.Y (.bX<|.aN 5<|.Y (.X 0)<|.Y (.X 1)<|.Y (.an .nj (.X 2)<|.ab<|.I 65536) .L)<|.Y (.bX<|.aN 5<|.Y (.X 0)<|.Y (.an .bg (.X 1)<|.ab<|.I 2)<|.Y (.an .lJ (.X 2)<|.ab<|.I 65536) .L) .L⟩
noncomputable def UI:bq:=⟨1,3,D,.Y (.aE 1<|.bt .yA<|.ab<|.I 4)<|.Y (.bX<|.aN 6<|.Y (.X 1)<|.Y (.ab<|.I 0)<|.Y (.X 0) .L)<|.Y (.aI<|.bt .aA<|.X 1) .L⟩
noncomputable def UK:bq:=⟨1,2,D,.Y (.aI<|.hd (.a7 .cX (.X 0)<|.ab<|.I 13)<|.a7 .cX (.X 0)<|.ab<|.I 10) .L⟩
noncomputable def UL:bq:=⟨1,2,D,.Y (.aI<|.hd (.a7 .cX (.X 0)<|.ab<|.I 13)<|.a7 .cX (.X 0)<|.ab<|.I 5) .L⟩
noncomputable def UJ:bq:=⟨1,2,D,.Y (.bJ (.aN 8<|.Y (.X 0) .L) (.Y (.aI<|.ab<|.I 8) .L) .L)<|.Y (.aI<|.ab<|.I 12) .L⟩
noncomputable def UM:bq:=⟨2,3,D,.Y (.bJ (.a7 .cX (.X 0)<|.ab<|.I 13) (.Y (.aI<|.an .as (.X 1)<|.ab<|.I 35) .L) .L)<|.Y (.aI<|.i6 (.ab<|.I 1)<|.an .as (.an .nj (.an .as (.X 1)<|.ab<|.I 12)<|.ab<|.I 4)<|.ab<|.I 12) .L⟩
noncomputable def UN:bq:=⟨1,2,D,.Y (.aI<|.i6 (.ab<|.I 0)<|.an .as (.an .nj (.an .as (.X 0)<|.ab<|.I 12)<|.ab<|.I 8)<|.ab<|.I 12) .L⟩
noncomputable def J7:bq:=⟨3,7,D,.Y (.aE 3<|.aN 11<|.Y (.X 0)<|.Y (.X 1) .L)<|.Y (.bJ (.a7 .ar (.X 2)<|.X 3) (.Y (.aI<|.X 2) .L) .L)<|.Y (.aE 4<|.aN 12<|.Y (.X 1) .L)<|.Y (.aE 5<|.an .bg (.X 4)<|.an .lJ (.an .as (.X 2)<|.X 4)<|.an .as (.X 1)<|.ab<|.I 4)<|.Y (.bJ (.a7 .ar (.X 5)<|.X 3) (.Y (.aI<|.X 5) .L) .L)<|.Y (.aI<|.X 4) .L⟩
noncomputable def Ie:b2:=.Y (.aE 4<|.ab<|.I 0)<|.Y (.aE 5<|.ab<|.bE)<|.Y (.aE 6<|.ab<|.I 0)<|.Y (.bJ (.gP<|.aN 8<|.Y (.X 2) .L) (.Y (.bJ (.a7 .gx (.an .bg (.X 1)<|.ab<|.I 4)<|.bt .aH<|.X 0) (.Y .f7 .L) .L)<|.Y (.aE 4<|.aN 4<|.Y (.X 0)<|.Y (.X 1) .L)<|.Y (.aE 1<|.an .bg (.X 1)<|.ab<|.I 4) .L) .L)<|.Y (.bJ (.a7 .cX (.X 2)<|.ab<|.I 5) (.Y (.e0 [7,1]<|.aN 1<|.Y (.X 0)<|.Y (.X 1) .L)<|.Y (.aI<|.ce<|.Y (.dP 0<|.Y (.X 4)<|.Y (.aN 2<|.Y (.X 7) .L)<|.Y (.ab<|.I 0)<|.Y (.ab<|.aA [])<|.Y (.ab<|.I 0) .L)<|.Y (.X 1) .L) .L) .L)<|.Y (.e0 [8,1]<|.aN 1<|.Y (.X 0)<|.Y (.X 1) .L)<|.Y (.bJ (.a7 .cX (.X 2)<|.ab<|.I 13) (.Y (.e0 [7,1]<|.aN 1<|.Y (.X 0)<|.Y (.X 1) .L)<|.Y (.aE 5<|.aN 2<|.Y (.X 7) .L) .L) .L)<|.Y (.aE 9<|.aN 13<|.Y (.X 2)<|.Y (.X 3)<|.Y (.X 8) .L)<|.Y (.aE 10<|.bt .aA<|.eF (.X 0) (.X 1)<|.an .bg (.X 1)<|.X 9)<|.Y (.aE 1<|.an .bg (.X 1)<|.X 9)<|.Y (.bJ (.a7 .eY (.X 9)<|.X 8) (.Y (.bJ (.a7 .gx (.an .bg (.X 1)<|.ab<|.I 4)<|.bt .aH<|.X 0) (.Y .f7 .L) .L)<|.Y (.aE 6<|.aN 4<|.Y (.X 0)<|.Y (.X 1) .L)<|.Y (.aE 1<|.an .bg (.X 1)<|.ab<|.I 4) .L) .L)<|.Y (.bJ (.hd (.a7 .gx (.X 1)<|.bt .aH<|.X 0)<|.a7 .eY (.bt .aH<|.X 10)<|.X 9) (.Y .f7 .L) .L)<|.Y (.aI<|.ce<|.Y (.dP 0<|.Y (.X 4)<|.Y (.X 5)<|.Y (.X 8)<|.Y (.X 10)<|.Y (.X 6) .L)<|.Y (.X 1) .L) .L
noncomputable def CD:bq:=⟨4,12,D,Ie⟩
noncomputable def JM:bq:=⟨1,2,D,.Y (.aI<|.an .bg (.ab<|.I 2)<|.i6 (.ab<|.I 4)<|.bt .aH<|.X 0) .L⟩
noncomputable def Kr:bq:=⟨1,2,D,.Y (.aI<|.bt .rv<|.jr (.aN 15<|.Y (.X 1) .L) 1<|.fu<|.X 0) .L⟩
noncomputable def JH:bq:=⟨1,2,D,.Y (.aI<|.iN (.a7 .cX (.X 0)<|.ab<|.I 1) (.ab<|.I 32)<|.ab<|.I 0) .L⟩
noncomputable def JI:bq:=⟨3,4,D,.Y (.aI<|.an .as (.an .as (.X 2)<|.aN 17<|.Y (.X 0) .L)<|.aN 10<|.Y (.X 1) .L) .L⟩
noncomputable def JL:bq:=⟨1,2,D,.Y (.aI<|.aN 4<|.Y (.X 0)<|.Y (.ab<|.I 0) .L) .L⟩
noncomputable def Kt:bq:=⟨2,3,D,.Y (.aI<|.an .bg (.aN 7<|.Y (.X 1) .L)<|.eF (.X 0) (.ab<|.I 4)<|.ab<|.bE) .L⟩
noncomputable def J6:bq:=⟨1,5,D,.Y (.e0 [1,2]<|.aN 1<|.Y (.X 0)<|.Y (.ab<|.I 0) .L)<|.Y (.e0 [3,2]<|.aN 1<|.Y (.X 0)<|.Y (.X 2) .L)<|.Y (.aI<|.X 3) .L⟩
noncomputable def Ce:b2:=.Y (.e0 [2,3]<|.ce<|.Y (.be (.X 0) 37<|.Y (.X 1) .L)<|.Y (.aN 17<|.Y (.X 1) .L) .L)<|.Y (.e0 [4,5]<|.ce<|.Y (.as (.X 2)<|.X 3)<|.Y (.ah .L) .L)<|.Y (.bJ (.a7 .Du (.X 4)<|.ab<|.ce [.I 2,.I 5,.I 10,.I 13]) (.Y .f7 .L) .L)<|.Y (.bD ap [6] (.hC<|.aN 3<|.Y (.X 2)<|.Y (.an .bg (.X 3)<|.ab<|.I 3) .L)<|.Y (.aE 7<|.aN 3<|.Y (.X 2)<|.Y (.an .bg (.an .bg (.X 3)<|.aN 10<|.Y (.X 4) .L)<|.an .gN (.ab<|.I 2)<|.X 6) .L)<|.Y (.e0 [8,9]<|.aN 14<|.Y (.X 2)<|.Y (.X 7)<|.Y (.X 4)<|.Y (.bt .aH<|.X 2) .L)<|.Y (.bX<|.eC .eA (.X 5)<|.Y (.bt .aA<|.eF (.X 2) (.X 7)<|.X 9) .L) .L)<|.Y (.aI<|.dP 2<|.Y (.X 4)<|.Y (.X 5)<|.Y (.iN (.aN 8<|.Y (.X 4) .L) (.ab<|.I 0)<|.aN 4<|.Y (.X 2)<|.Y (.an .bg (.X 3)<|.ab<|.I 8) .L) .L) .L
noncomputable def Kk:bq:=⟨2,11,D,Ce⟩
noncomputable def JS:bq:=⟨3,4,D,.Y (.aI<|.a7 .ar (.aN 16<|.Y (.aK (.X 2) 10) .L)<|.aN 18<|.Y (.X 1)<|.Y (.aK (.X 2) 9)<|.Y (.aK (.X 0) 15) .L) .L⟩
noncomputable def Cf:b2:=.Y (.bJ (.gP<|.aN 23<|.Y (.X 0)<|.Y (.X 1)<|.Y (.X 2) .L) (.Y .f7 .L) .L)<|.Y (.e0 [3,4]<|.ce<|.Y (.aK (.X 0) 15)<|.Y (.aN 17<|.Y (.X 1) .L) .L)<|.Y (.e0 [5,6,7]<|.ce<|.Y (.ah .L)<|.Y (.ah .L)<|.Y (.X 3) .L)<|.Y (.bD ap [8] (.fu<|.aK (.X 2) 10)<|.Y (.aE 9<|.an .bg (.X 8)<|.bt .aA<|.i6 (.ab<|.I 0)<|.an .as (.ab<|.I 4)<|.bt .aH<|.X 8)<|.Y (.aE 7<|.an .as (.X 7)<|.bt .aH<|.X 9)<|.Y (.bX<|.eC .eA (.X 5)<|.Y (.ry (.X 7) 2) .L)<|.Y (.bX<|.eC .eA (.X 6)<|.Y (.X 9) .L) .L)<|.Y (.aE 10<|.an .bg (.an .bg (.an .bg (.bt .aA<|.ah<|.Y (.aK (.X 2) 9)<|.Y (.ab<|.I 0)<|.Y (.ab<|.I 0) .L)<|.ry (.bt .aH<|.aK (.X 2) 10) 2)<|.ry (.X 7) 2)<|.bt .aA<|.ab<|.I 1)<|.Y (.bJ (.gP<|.aN 8<|.Y (.aK (.X 2) 9) .L) (.Y (.aE 10<|.an .bg (.X 10)<|.aN 7<|.Y (.aK (.X 2) 11) .L) .L) .L)<|.Y (.aE 11<|.an .bg (.an .bg (.eF (.be (.X 0) 37<|.Y (.X 1) .L) (.ab<|.bE)<|.X 4)<|.X 10)<|.eC .np (.ab<|.aA [])<|.Y (.X 5) .L)<|.Y (.bX<|.eC .wl (.X 6) .L)<|.Y (.bX<|.be (.X 0) 38<|.Y (.X 1)<|.Y (.an .bg (.an .bg (.X 11)<|.bt .aA<|.an .as (.X 7)<|.bt .aH<|.X 11)<|.eC .np (.ab<|.aA [])<|.Y (.X 6) .L) .L) .L
noncomputable def Kv:bq:=⟨3,13,D,Cf⟩
noncomputable def JZ:bq:=⟨3,5,D,.Y (.bJ (.a7 .cX (.aK (.X 2) 10)<|.ah .L) (.Y (.aI<|.ab<|.bs ag) .L) .L)<|.Y (.aE 3<|.aN 18<|.Y (.X 1)<|.Y (.aK (.X 2) 9)<|.Y (.aK (.X 0) 15) .L)<|.Y (.aI<|.a7 .gx (.an .gN (.ab<|.I 3)<|.an .as (.X 3)<|.aN 16<|.Y (.aK (.X 2) 10) .L)<|.an .gN (.ab<|.I 2)<|.X 3) .L⟩
noncomputable def H3:b2:=.Y (.e0 [3,4,5]<|.ce<|.Y (.ah .L)<|.Y (.ab<|.I 0)<|.Y (.bt .aH<|.X 0) .L)<|.Y (.iA (.ab<|.bs ag)<|.Y (.e0 [6,7]<|.ce<|.Y (.ab<|.I 0)<|.Y (.X 4) .L)<|.Y (.iA (.hG (.a7 .eY (.X 7)<|.X 5)<|.a7 .ar (.an .bg (.X 6)<|.as (.X 0)<|.X 7)<|.X 1)<|.Y (.aE 6<|.an .bg (.X 6)<|.as (.X 0)<|.X 7)<|.Y (.aE 7<|.an .bg (.X 7)<|.ab<|.I 1) .L)<|.Y (.bJ (.hG (.a7 .cX (.X 7)<|.X 4)<|.a7 .eY (.X 7)<|.X 5) (.Y .f7 .L) .L)<|.Y (.bJ (.a7 .jt (.X 7)<|.X 5) (.Y (.bX<|.eC .eA (.X 3)<|.Y (.X 5) .L)<|.Y (.aI<|.X 3) .L) .L)<|.Y (.bX<|.eC .eA (.X 3)<|.Y (.X 7) .L)<|.Y (.aE 4<|.iN (.X 2) (.an .bg (.X 7)<|.ab<|.I 1)<|.X 7)<|.Y (.bJ (.a7 .jt (.X 4)<|.X 5) (.Y (.bX<|.eC .eA (.X 3)<|.Y (.X 5) .L)<|.Y (.aI<|.X 3) .L) .L) .L) .L
noncomputable def JQ:bq:=⟨3,9,D,H3⟩
noncomputable def Ii:b2:=.Y (.aE 2<|.iN (.X 1) (.ab<|.I 1)<|.ab<|.I 0)<|.Y (.aI<|.an .bg (.ah<|.Y (.ab<|.I 0) .L)<|.jr (.an .bg (.X 3)<|.X 2) 3<|.fu<|.eF (.X 0) (.ab<|.bE)<|.ab<|.I (-1)) .L
noncomputable def Kq:bq:=⟨2,4,D,Ii⟩
noncomputable def Ca:b2:=.Y (.aE 1<|.bt .jS<|.X 1)<|.Y (.bD ap [3] (.wn (.an .as (.bt .aH<|.X 1)<|.ab<|.I 1) (.ab<|.I 0)<|.ab<|.I (-1))<|.Y (.aE 4<|.aN 27<|.Y (.X 1)<|.Y (.X 2) .L)<|.Y (.aE 5<|.bt .rv<|.eF (.X 0) (.as (.X 4)<|.X 3)<|.as (.X 1)<|.X 3)<|.Y (.aE 6<|.bt .rv<|.eF (.X 0) (.as (.X 4)<|.an .as (.X 3)<|.ab<|.I 1)<|.as (.X 1)<|.an .as (.X 3)<|.ab<|.I 1)<|.Y (.aE 7<|.ab<|.bs ag)<|.Y (.iA (.X 7)<|.Y (.aE 8<|.an .as (.as (.X 1)<|.an .as (.X 3)<|.ab<|.I 1)<|.ab<|.I 1)<|.Y (.aE 9<|.iN (.X 2) (.as (.X 0)<|.as (.X 1)<|.an .as (.X 3)<|.ab<|.I 1)<|.as (.X 0)<|.X 8)<|.Y (.aE 10<|.as (.X 0)<|.X 8)<|.Y (.aE 11<|.a7 .jt (.as (.X 4)<|.X 3)<|.as (.X 1)<|.X 3)<|.Y (.aE 7<|.hG (.a7 .gx (.X 8)<|.as (.X 4)<|.an .as (.X 3)<|.ab<|.I 1)<|.hd (.X 11)<|.a7 .ar (.an .bg (.X 5)<|.X 9)<|.an .as (.X 6)<|.X 10)<|.Y (.bJ (.X 7) (.Y (.aE 5<|.an .bg (.X 5)<|.X 9)<|.Y (.aE 6<|.an .as (.X 6)<|.X 10)<|.Y (.as (.X 1) (.an .as (.X 3)<|.ab<|.I 1)<|.X 8)<|.Y (.aE 4<|.aN 27<|.Y (.X 1)<|.Y (.X 2) .L) .L) .L) .L) .L)<|.Y (.aI<|.X 1) .L
noncomputable def JO:bq:=⟨3,13,D,Ca⟩
noncomputable def Ih:b2:=.Y (.aE 3<|.a7 .eq (.X 2)<|.ab<|.I 13)<|.Y (.aE 4<|.jr (.aN 15<|.Y (.X 9) .L) 9<|.fu<|.X 0)<|.Y (.aE 5<|.aN 28<|.Y (.X 4)<|.Y (.aN 26<|.Y (.X 4)<|.Y (.X 1)<|.Y (.X 3) .L)<|.Y (.X 3) .L)<|.Y (.aE 6<|.aN 27<|.Y (.X 5)<|.Y (.X 3) .L)<|.Y (.aE 7<|.jr (.eF (.X 0) (.as (.X 6)<|.X 9)<|.as (.X 5)<|.X 9) 9<|.hC<|.bt .aH<|.X 5)<|.Y (.aE 8<|.iN (.X 3) (.jr (.as (.X 0)<|.X 9) 9<|.fu<|.eF (.X 5) (.ab<|.bE)<|.ab<|.I (-1))<|.ah .L)<|.Y (.aI<|.ce<|.Y (.X 7)<|.Y (.X 8) .L) .L
noncomputable def Ko:bq:=⟨3,10,D,Ih⟩
noncomputable def Ks:bq:=⟨2,4,D,.Y (.bJ (.a7 .ar (.X 0)<|.ab<|.I 3) (.Y (.aI<|.ce<|.Y (.ab<|.I 0)<|.Y (.X 0) .L) .L) .L)<|.Y (.aE 2<|.vZ (.i6 (.an .as (.X 1)<|.ab<|.I 1)<|.ab<|.I 0)<|.an .as (.X 0)<|.ab<|.I 3)<|.Y (.aI<|.ce<|.Y (.X 2)<|.Y (.ab<|.I 3) .L) .L⟩
noncomputable def ys:b2:=.Y (.aE 3<|.aK (.as (.X 2)<|.ab<|.I 0) 9)<|.Y (.aE 4<|.ah .L)<|.Y (.bD ap [5] (.hC<|.bt .aH<|.X 2)<|.Y (.aE 6<|.as (.X 2)<|.X 5)<|.Y (.bJ (.a7 .eq (.aK (.X 6) 9)<|.X 3) (.Y .f7 .L) .L)<|.Y (.bX<|.eC .yQ (.X 4)<|.Y (.aK (.X 6) 10) .L)<|.Y (.bJ (.a7 .eY (.an .bg (.X 5)<|.ab<|.I 1)<|.bt .aH<|.X 2) (.Y (.aE 7<|.as (.aK (.X 0) 10)<|.an .bg (.X 1)<|.X 5)<|.Y (.bJ (.a7 .cX (.X 3)<|.ab<|.I 10) (.Y (.bX<|.eC .eA (.X 4)<|.Y (.eF (.X 7) (.ab<|.I 4)<|.ab<|.bE) .L) .L)<|.Y (.bJ (.gP<|.aN 8<|.Y (.X 3) .L) (.Y (.bX<|.eC .eA (.X 4)<|.Y (.aN 20<|.Y (.X 7)<|.Y (.aK (.X 6) 11) .L) .L) .L) .L) .L) .L) .L) .L)<|.Y (.aI<|.X 4) .L
noncomputable def JW:bq:=⟨3,9,D,ys⟩
noncomputable def Kc:bq:=⟨4,7,D,.Y (.aE 4<|.ah .L)<|.Y (.bD ap [5] (.hC<|.bt .aH<|.X 1)<|.Y (.bJ (.aN 8<|.Y (.X 0) .L) (.Y (.bX<|.eC .eA (.X 4)<|.Y (.dP 2<|.Y (.X 0)<|.Y (.as (.X 1)<|.X 5)<|.Y (.ab<|.I 0) .L) .L) .L)<|.Y (.bJ (.a7 .eY (.an .bg (.X 5)<|.ab<|.I 1)<|.bt .aH<|.X 1) (.Y (.bX<|.eC .eA (.X 4)<|.Y (.dP 2<|.Y (.X 0)<|.Y (.as (.X 1)<|.X 5)<|.Y (.aN 19<|.Y (.as (.X 2)<|.X 5) .L) .L) .L) .L)<|.Y (.bX<|.eC .eA (.X 4)<|.Y (.dP 2<|.Y (.X 0)<|.Y (.as (.X 1)<|.X 5)<|.Y (.X 3) .L) .L) .L) .L) .L)<|.Y (.aI<|.X 4) .L⟩
noncomputable def Kd:bq:=⟨4,7,D,.Y (.aE 4<|.ah .L)<|.Y (.bD ap [5] (.hC<|.an .as (.bt .aH<|.X 2)<|.ab<|.I 1)<|.Y (.bJ (.a7 .cX (.X 0)<|.ab<|.I 13) (.Y (.bX<|.eC .eA (.X 4)<|.Y (.an .bg (.aN 7<|.Y (.as (.X 1)<|.X 5) .L)<|.aN 0<|.Y (.aN 21<|.Y (.as (.aK (.as (.X 2)<|.X 5) 10)<|.ab<|.I (-1)) .L) .L) .L) .L)<|.Y (.bJ (.a7 .cX (.X 0)<|.ab<|.I 10) (.Y (.bX<|.eC .eA (.X 4)<|.Y (.an .bg (.aN 7<|.Y (.as (.X 1)<|.X 5) .L)<|.as (.X 3)<|.X 5) .L) .L)<|.Y (.bX<|.eC .eA (.X 4)<|.Y (.aN 20<|.Y (.as (.X 3)<|.X 5)<|.Y (.as (.X 1)<|.X 5) .L) .L) .L) .L) .L)<|.Y (.aI<|.X 4) .L⟩
noncomputable def Cc:b2:=.Y (.aE 3<|.bt .jS<|.eF (.X 1) (.ab<|.bE)<|.X 2)<|.Y (.bD ap [4] (.fu<|.eF (.X 1) (.X 2)<|.ab<|.bE)<|.Y (.bX<|.be (.aK (.X 0) 13) 41<|.Y (.X 4) .L) .L)<|.Y (.iA (.a7 .eY (.bt .aH<|.X 3)<|.X 2)<|.Y (.bX<|.eC .eA (.X 3)<|.Y (.be (.aK (.X 0) 13) 40 .L) .L) .L)<|.Y (.aI<|.bt .pW<|.X 3) .L
noncomputable def Kf:bq:=⟨3,6,D,Cc⟩
noncomputable def Ig:b2:=.Y (.aE 4<|.be (.X 1) 16 .L)<|.Y (.e0 [5,6]<|.aN 30<|.Y (.bt .aH<|.X 4)<|.Y (.X 2) .L)<|.Y (.aE 7<|.eF (.X 4) (.X 5)<|.an .bg (.X 5)<|.X 6)<|.Y (.aE 8<|.ah .L)<|.Y (.bD ap [9] (.hC<|.X 6)<|.Y (.bX<|.eC .eA (.X 8)<|.Y (.iN (.a7 .cX (.an .bg (.X 5)<|.X 9)<|.X 2) (.X 3)<|.aN 22<|.Y (.aK (.X 0) 12)<|.Y (.as (.X 7)<|.X 9) .L) .L) .L)<|.Y (.aE 10<|.aK (.X 3) 9)<|.Y (.aE 11<|.aN 31<|.Y (.X 1)<|.Y (.X 5)<|.Y (.X 8) .L)<|.Y (.aE 12<|.aN 18<|.Y (.ab<|.I 0)<|.Y (.X 10)<|.Y (.aK (.aK (.X 0) 12) 15) .L)<|.Y (.bJ (.a7 .cX (.X 11)<|.ah .L) (.Y (.e0 [13,14]<|.ce<|.Y (.ah<|.Y (.ah .L) .L)<|.Y (.ah .L) .L) .L)<|.Y (.e0 [13,14]<|.aN 29<|.Y (.X 11)<|.Y (.X 12)<|.Y (.X 10) .L) .L)<|.Y (.aE 15<|.aN 32<|.Y (.X 10)<|.Y (.X 13)<|.Y (.X 14)<|.Y (.aK (.as (.X 8)<|.ab<|.I (-1)) 11) .L)<|.Y (.aE 16<|.aN 34<|.Y (.X 0)<|.Y (.X 7)<|.Y (.bt .aH<|.X 15) .L)<|.Y (.bD ap [9] (.hC<|.bt .aH<|.X 15)<|.Y (.bX<|.aN 24<|.Y (.aK (.X 0) 12)<|.Y (.as (.X 16)<|.X 9)<|.Y (.as (.X 15)<|.X 9) .L) .L)<|.Y (.aE 17<|.aN 33<|.Y (.X 10)<|.Y (.X 16)<|.Y (.X 15)<|.Y (.X 14) .L)<|.Y (.aE 18<|.an .bg (.an .bg (.eF (.aK (.X 1) 10) (.ab<|.bE)<|.X 5)<|.X 17)<|.eF (.aK (.X 1) 10) (.an .as (.an .bg (.X 5)<|.X 6)<|.ab<|.I 1)<|.ab<|.bE)<|.Y (.aE 19<|.aK (.X 1) 11)<|.Y (.bJ (.a7 .eY (.an .as (.an .bg (.X 5)<|.X 6)<|.ab<|.I 1)<|.bt .aH<|.aK (.X 1) 10) (.Y (.aE 20<|.an .bg (.X 5)<|.bt .aH<|.X 17)<|.Y (.as (.X 18) (.X 20)<|.aN 20<|.Y (.as (.X 18)<|.X 20)<|.Y (.as (.X 16)<|.ab<|.I (-1)) .L) .L)<|.Y (.aE 19<|.as (.X 16)<|.ab<|.I (-1)) .L)<|.Y (.aI<|.dP 2<|.Y (.aK (.X 1) 9)<|.Y (.X 18)<|.Y (.X 19) .L) .L
noncomputable def Kn:bq:=⟨4,22,D,Ig⟩
noncomputable def yu:b2:=.Y (.iA (.hG (.gP<|.aN 8<|.Y (.aK (.X 2) 9) .L)<|.a7 .cX (.aK (.X 2) 10)<|.ah .L)<|.Y (.aE 3<|.aK (.X 2) 11)<|.Y (.aE 4<|.aN 22<|.Y (.aK (.X 0) 12)<|.Y (.X 3) .L)<|.Y (.bJ (.gP<|.aN 23<|.Y (.aK (.X 0) 12)<|.Y (.X 1)<|.Y (.X 4) .L) (.Y (.bX<|.aN 24<|.Y (.aK (.X 0) 12)<|.Y (.X 1)<|.Y (.X 2) .L)<|.Y (.aI<|.ab<|.bE) .L) .L)<|.Y (.bX<|.be (.aK (.X 0) 13) 41<|.Y (.X 3) .L)<|.Y (.aE 2<|.X 4) .L)<|.Y (.bX<|.aN 24<|.Y (.aK (.X 0) 12)<|.Y (.X 1)<|.Y (.X 2) .L) .L
noncomputable def Km:bq:=⟨3,6,D,yu⟩
noncomputable def nf:b2:=.Y (.aE 3<|.an .as (.bt .aH<|.X 1)<|.ab<|.I 1)<|.Y (.aE 4<|.as (.as (.X 1)<|.X 3)<|.ab<|.I 0)<|.Y (.aE 5<|.aN 22<|.Y (.aK (.X 0) 12)<|.Y (.X 4) .L)<|.Y (.bJ (.a7 .LD (.X 2)<|.ab<|.bE) (.Y (.aE 5<|.dP 2<|.Y (.aK (.X 5) 9)<|.Y (.bt .jS<|.X 2)<|.Y (.aK (.X 5) 11) .L) .L) .L)<|.Y (.iA (.a7 .gx (.X 3)<|.ab<|.I 0)<|.Y (.bJ (.hG (.aN 23<|.Y (.aK (.X 0) 12)<|.Y (.X 4)<|.Y (.X 5) .L)<|.gP<|.aN 25<|.Y (.aK (.X 0) 12)<|.Y (.X 4)<|.Y (.X 5) .L) (.Y (.bX<|.aN 24<|.Y (.aK (.X 0) 12)<|.Y (.X 4)<|.Y (.X 5) .L)<|.Y (.aI<|.ab<|.bE) .L) .L)<|.Y (.e0 [6,7]<|.as (.X 1)<|.an .as (.X 3)<|.ab<|.I 1)<|.Y (.aE 5<|.aN 35<|.Y (.X 0)<|.Y (.aN 22<|.Y (.aK (.X 0) 12)<|.Y (.X 6) .L)<|.Y (.X 7)<|.Y (.X 5) .L)<|.Y (.aE 4<|.X 6)<|.Y (.aE 3<|.an .as (.X 3)<|.ab<|.I 1) .L)<|.Y (.bJ (.aN 23<|.Y (.aK (.X 0) 12)<|.Y (.X 4)<|.Y (.X 5) .L) (.Y (.bX<|.aN 36<|.Y (.X 0)<|.Y (.X 4)<|.Y (.X 5) .L)<|.Y (.aI<|.ab<|.bE) .L) .L)<|.Y (.aE 8<|.iN (.aN 9<|.Y (.aK (.X 5) 9) .L) (.ab<|.I 5)<|.ab<|.I 2)<|.Y (.aE 9<|.dP 2<|.Y (.X 8)<|.Y (.ah .L)<|.Y (.be (.aK (.X 0) 13) 40 .L) .L)<|.Y (.bX<|.aN 36<|.Y (.X 0)<|.Y (.X 4)<|.Y (.aN 35<|.Y (.X 0)<|.Y (.X 9)<|.Y (.ab<|.I 0)<|.Y (.X 5) .L) .L) .L
noncomputable def CB:bq:=⟨3,11,J .bE,nf⟩
noncomputable def Kh:bq:=⟨4,7,D,.Y (.aE 4<|.as (.as (.X 1)<|.ab<|.I (-1))<|.ab<|.I 1)<|.Y (.bJ (.be (.X 2) 27<|.Y (.X 4)<|.Y (.X 3) .L) (.Y (.bX<|.be (.X 0) 33<|.Y (.X 2) .L) .L)<|.Y (.aE 5<|.be (.X 2) 13 .L)<|.Y (.bX<|.aN 37<|.Y (.X 0)<|.Y (.X 1)<|.Y (.an .bg (.an .bg (.eF (.X 5) (.ab<|.bE)<|.X 4)<|.ah<|.Y (.X 3) .L)<|.eF (.X 5) (.X 4)<|.ab<|.bE) .L) .L) .L⟩
noncomputable def Kl:bq:=⟨3,4,D,.Y (.bX<|.be (.X 0) 33<|.Y (.X 2) .L)<|.Y (.bJ (.hG (.a7 .gx (.bt .aH<|.X 1)<|.ab<|.I 1)<|.be (.X 2) 23 .L) (.Y (.bX<|.aN 37<|.Y (.X 0)<|.Y (.X 1) .L) .L) .L) .L⟩
noncomputable def Ke:bq:=⟨2,3,D,.Y (.aI<|.zv<|.eF (.X 0) (.X 1)<|.an .bg (.X 1)<|.ab<|.I 4) .L⟩
noncomputable def JT:bq:=⟨1,2,D,.Y (.aI<|.ry (.X 0) 4) .L⟩
noncomputable def JJ:bq:=⟨2,4,D,.Y (.aE 2<|.an .as (.X 0)<|.ab<|.I 4)<|.Y (.aI<|.an .nj (.an .as (.an .bg (.X 1)<|.X 2)<|.ab<|.I 1)<|.X 2) .L⟩
noncomputable def Ku:bq:=⟨2,9,D,.Y (.aE 2<|.aK (.X 0) 12)<|.Y (.aE 3<|.an .as (.aK (.X 2) 15)<|.ab<|.I 4)<|.Y (.aE 5<|.jr (.be (.aK (.X 0) 13) 40 .L) 8<|.hC<|.aN 42<|.Y (.aK (.X 2) 15)<|.Y (.bt .aH<|.X 1) .L)<|.Y (.bD ap [4] (.hC<|.bt .aH<|.X 5)<|.Y (.aE 6<|.iN (.a7 .eY (.an .bg (.X 4)<|.ab<|.I 1)<|.bt .aH<|.X 5) (.as (.X 5)<|.an .bg (.X 4)<|.ab<|.I 1)<|.ab<|.I 0)<|.Y (.aE 7<|.eF (.X 1) (.an .gN (.X 4)<|.X 3)<|.an .gN (.an .bg (.X 4)<|.ab<|.I 1)<|.X 3)<|.Y (.bX<|.be (.X 2) 38<|.Y (.as (.X 5)<|.X 4)<|.Y (.an .bg (.an .bg (.aN 41<|.Y (.X 6) .L)<|.X 7)<|.bt .aA<|.an .as (.X 3)<|.bt .aH<|.X 7) .L) .L)<|.Y (.aI<|.iN (.a7 .eq (.X 5)<|.ah .L) (.as (.X 5)<|.ab<|.I 0)<|.ab<|.I 0) .L⟩
noncomputable def Ka:bq:=⟨2,3,D,.Y (.bJ (.hd (.a7 .eY (.X 1)<|.ab<|.I 2)<|.a7 .gx (.X 1)<|.be (.X 0) 36 .L) (.Y .f7 .L) .L) .L⟩
noncomputable def Kj:bq:=⟨3,9,D,.Y (.e0 [3,4,5]<|.ce<|.Y (.ah .L)<|.Y (.X 1)<|.Y (.X 2) .L)<|.Y (.iA (.a7 .gx (.X 5)<|.ab<|.I 0)<|.Y (.bX<|.aN 44<|.Y (.X 0)<|.Y (.X 4) .L)<|.Y (.aE 6<|.be (.X 0) 37<|.Y (.X 4) .L)<|.Y (.aE 7<|.eF (.X 6) (.ab<|.I 4)<|.an .bg (.ab<|.I 4)<|.X 5)<|.Y (.bX<|.eC .eA (.X 3)<|.Y (.X 7) .L)<|.Y (.aE 5<|.an .as (.X 5)<|.bt .aH<|.X 7)<|.Y (.aE 4<|.aN 40<|.Y (.X 6)<|.Y (.ab<|.I 0) .L) .L)<|.Y (.aI<|.eC .np (.ab<|.aA [])<|.Y (.X 3) .L) .L⟩
noncomputable def JK:bq:=⟨3,7,D,.Y (.e0 [3,4]<|.ce<|.Y (.ah .L)<|.Y (.X 1) .L)<|.Y (.bD ap [5] (.hC<|.aN 42<|.Y (.aK (.X 0) 15)<|.Y (.X 2) .L)<|.Y (.bX<|.aN 44<|.Y (.X 0)<|.Y (.X 4) .L)<|.Y (.bJ (.a7 .vS (.X 4)<|.X 3) (.Y .f7 .L) .L)<|.Y (.bX<|.eC .eA (.X 3)<|.Y (.X 4) .L)<|.Y (.aE 4<|.aN 40<|.Y (.be (.X 0) 37<|.Y (.X 4) .L)<|.Y (.ab<|.I 0) .L) .L)<|.Y (.bJ (.a7 .eq (.X 4)<|.ab<|.I 0) (.Y .f7 .L) .L)<|.Y (.aI<|.X 3) .L⟩
noncomputable def JU:bq:=⟨3,6,D,.Y (.aE 3<|.aN 46<|.Y (.aK (.X 0) 12)<|.Y (.X 1)<|.Y (.X 2) .L)<|.Y (.bD ap [4] (.fu<|.X 3)<|.Y (.bX<|.be (.aK (.X 0) 13) 41<|.Y (.X 4) .L) .L)<|.Y (.aI<|.bt .aH<|.X 3) .L⟩
noncomputable def JV:bq:=⟨2,3,D,.Y (.bJ (.a7 .eq (.aK (.X 1) 4)<|.ab<|.I 0) (.Y (.bX<|.aN 47<|.Y (.X 0)<|.Y (.aK (.X 1) 4)<|.Y (.be (.X 1) 0 .L) .L) .L) .L) .L⟩
noncomputable def Kg:bq:=⟨2,3,D,.Y (.bJ (.a7 .cX (.aK (.X 1) 4)<|.ab<|.I 0) (.Y (.aI<|.aK (.X 1) 3) .L) .L)<|.Y (.aI<|.an .bg (.aK (.X 1) 3)<|.aN 45<|.Y (.aK (.X 0) 12)<|.Y (.aK (.X 1) 4)<|.Y (.be (.X 1) 0 .L) .L) .L⟩
noncomputable def Ic:b2:=.Y (.aE 5<|.aN 13<|.Y (.X 1)<|.Y (.be (.X 0) 30 .L)<|.Y (.bt .aH<|.X 4) .L)<|.Y (.aE 6<|.ab<|.I 0)<|.Y (.bJ (.a7 .eY (.X 5)<|.bt .aH<|.X 4) (.Y (.aE 6<|.aN 43<|.Y (.X 0)<|.Y (.eF (.X 4) (.X 5)<|.ab<|.bE) .L) .L) .L)<|.Y (.aI<|.dP 0<|.Y (.X 2)<|.Y (.X 3)<|.Y (.bt .aH<|.X 4)<|.Y (.eF (.X 4) (.ab<|.bE)<|.X 5)<|.Y (.X 6) .L) .L
noncomputable def Kb:bq:=⟨5,8,D,Ic⟩
noncomputable def H4:b2:=.Y (.aE 2<|.ab<|.I 0)<|.Y (.aE 3<|.be (.X 0) 5 .L)<|.Y (.iA (.a7 .eY (.X 2)<|.X 3)<|.Y (.aE 4<|.an .nj (.an .bg (.X 2)<|.X 3)<|.ab<|.I 2)<|.Y (.bJ (.a7 .eY (.be (.X 0) 14<|.Y (.X 4) .L)<|.X 1) (.Y (.aE 2<|.an .bg (.X 4)<|.ab<|.I 1) .L)<|.Y (.aE 3<|.X 4) .L) .L)<|.Y (.aI<|.X 2) .L
noncomputable def JR:bq:=⟨2,6,D,H4⟩
noncomputable def H2:b2:=.Y (.aE 3<|.ah .L)<|.Y (.aE 4<|.X 1)<|.Y (.iA (.ab<|.bs ag)<|.Y (.aE 5<|.be (.X 0) 31<|.Y (.X 4) .L)<|.Y (.bJ (.gP<|.be (.X 5) 4 .L) (.Y .f7 .L) .L)<|.Y (.aE 6<|.aN 51<|.Y (.X 5)<|.Y (.X 2) .L)<|.Y (.bX<|.eC .eA (.X 3)<|.Y (.ce<|.Y (.X 4)<|.Y (.X 6) .L) .L)<|.Y (.bX<|.be (.X 0) 35<|.Y (.X 3) .L)<|.Y (.bJ (.be (.X 5) 3 .L) (.Y (.aI<|.ce<|.Y (.X 3)<|.Y (.hG (.a7 .eY (.X 6)<|.be (.X 5) 5 .L)<|.a7 .cX (.be (.X 5) 14<|.Y (.X 6) .L)<|.X 2) .L) .L) .L)<|.Y (.aE 4<|.be (.X 5) 15<|.Y (.X 6) .L) .L) .L
noncomputable def JP:bq:=⟨3,8,D,H2⟩
noncomputable def H6:b2:=.Y (.e0 [4,5]<|.aN 52<|.Y (.X 0)<|.Y (.X 1)<|.Y (.X 2) .L)<|.Y (.e0 [6,7]<|.as (.X 4)<|.ab<|.I (-1))<|.Y (.bJ (.X 5) (.Y (.bX<|.aN 48<|.Y (.X 0)<|.Y (.be (.be (.X 0) 31<|.Y (.X 6) .L) 11<|.Y (.X 7) .L) .L) .L) .L)<|.Y (.aE 8<|.be (.aN 50<|.Y (.X 0)<|.Y (.ab<|.I 13)<|.Y (.ab<|.I 0)<|.Y (.X 2)<|.Y (.X 3) .L) 1<|.Y (.ab<|.I 13) .L)<|.Y (.aE 9<|.be (.X 0) 31<|.Y (.X 6) .L)<|.Y (.bJ (.X 5) (.Y (.bX<|.be (.X 9) 28<|.Y (.X 7) .L) .L) .L)<|.Y (.bJ (.hG (.X 5)<|.be (.X 9) 27<|.Y (.X 7)<|.Y (.X 8) .L) (.Y (.bX<|.aN 39<|.Y (.X 0)<|.Y (.X 4)<|.Y (.X 9) .L) .L)<|.Y (.bX<|.aN 38<|.Y (.X 0)<|.Y (.X 4)<|.Y (.X 9)<|.Y (.X 8) .L) .L)<|.Y (.bX<|.be (.X 0) 34<|.Y (.X 1) .L) .L
noncomputable def JY:bq:=⟨4,11,D,H6⟩
noncomputable def H1:b2:=.Y (.e0 [3,4]<|.aN 52<|.Y (.X 0)<|.Y (.X 1)<|.Y (.X 2) .L)<|.Y (.bJ (.gP<|.X 4) (.Y (.aI<|.ab<|.bs ap) .L) .L)<|.Y (.e0 [5,6]<|.as (.X 3)<|.ab<|.I (-1))<|.Y (.bX<|.aN 48<|.Y (.X 0)<|.Y (.be (.be (.X 0) 31<|.Y (.X 5) .L) 11<|.Y (.X 6) .L) .L)<|.Y (.aE 7<|.be (.X 0) 31<|.Y (.X 5) .L)<|.Y (.bX<|.be (.X 7) 28<|.Y (.X 6) .L)<|.Y (.bX<|.aN 39<|.Y (.X 0)<|.Y (.X 3)<|.Y (.X 7) .L)<|.Y (.bX<|.be (.X 0) 34<|.Y (.X 1) .L)<|.Y (.aI<|.ab<|.bs ag) .L
noncomputable def JN:bq:=⟨3,9,D,H1⟩
noncomputable def H7:b2:=.Y (.aE 1<|.ab<|.I 0)<|.Y (.bJ (.a7 .gx (.bt .aH<|.X 0)<|.ab<|.I 0) (.Y (.aE 1<|.as (.X 0)<|.ab<|.I 0) .L) .L)<|.Y (.aE 2<|.i6 (.bt .I<|.X 1)<|.bt .I<|.an .as (.ab<|.I (-1))<|.X 1)<|.Y (.aE 3<|.an .lJ (.bt .I<|.an .gN (.an .bg (.an .lJ (.bt .I<|.X 2)<|.ab<|.I 2147483629)<|.ab<|.I 17)<|.ab<|.I 48271)<|.ab<|.I 2147483647)<|.Y (.aI<|.ah<|.Y (.an .gN (.X 2)<|.bt .I<|.a7 .jt (.X 2)<|.ab<|.I 1000000000000000000)<|.Y (.X 3) .L) .L
noncomputable def J2:bq:=⟨1,5,D,H7⟩
noncomputable def J5:bq:=⟨2,4,D,.Y (.bJ (.a7 .gx (.as (.X 0)<|.ab<|.I 0)<|.ab<|.I 0) (.Y (.aE 2<|.an .lJ (.bt .I<|.as (.X 0)<|.ab<|.I 0)<|.X 1)<|.Y (.as (.X 0) (.ab<|.I 0)<|.an .nj (.as (.X 0)<|.ab<|.I 0)<|.X 1)<|.Y (.aI<|.X 2) .L) .L)<|.Y (.as (.X 0) (.ab<|.I 1)<|.an .lJ (.bt .I<|.an .bg (.an .gN (.as (.X 0)<|.ab<|.I 1)<|.ab<|.I 39373)<|.ab<|.I 7)<|.ab<|.I 2147483647)<|.Y (.aI<|.an .lJ (.bt .I<|.an .nj (.an .lJ (.bt .I<|.an .gN (.as (.X 0)<|.ab<|.I 1)<|.as (.X 0)<|.ab<|.I 1)<|.ab<|.I 2147483629)<|.ab<|.I 32)<|.X 1) .L⟩
noncomputable def Ib:b2:=.Y (.aE 3<|.bt .pW<|.oo<|.X 1)<|.Y (.bJ (.hG (.a7 .eq (.X 3)<|.ah .L)<|.a7 .cX (.aN 56<|.Y (.X 0)<|.Y (.ab<|.I 2) .L)<|.ab<|.I 0) (.Y (.aE 2<|.an .as (.an .bg (.as (.X 3)<|.aN 56<|.Y (.X 0)<|.Y (.bt .aH<|.X 3) .L)<|.aN 56<|.Y (.X 0)<|.Y (.ab<|.I 3) .L)<|.ab<|.I 1)<|.Y (.aI<|.i6 (.ab<|.I (-9223372036854775808))<|.vZ (.an .as (.ab<|.I 9223372036854775808)<|.ab<|.I 1)<|.X 2) .L) .L)<|.Y (.aE 4<|.ah<|.Y (.ab<|.I 1)<|.Y (.ab<|.I 2)<|.Y (.ab<|.I 7)<|.Y (.ab<|.I 30)<|.Y (.ab<|.I 31)<|.Y (.ab<|.I 100)<|.Y (.ab<|.I 128)<|.Y (.ab<|.I (-1))<|.Y (.ab<|.I (-5))<|.Y (.ab<|.I 20000)<|.Y (.ab<|.I 1099511627776)<|.Y (.an .as (.ab<|.I 9223372036854775808)<|.ab<|.I 1)<|.Y (.ab<|.I (-9223372036854775808)) .L)<|.Y (.aI<|.as (.X 4)<|.aN 56<|.Y (.X 0)<|.Y (.ab<|.I 13) .L) .L
noncomputable def J4:bq:=⟨2,6,D,Ib⟩
noncomputable def Ia:b2:=.Y (.aE 2<|.as (.ah<|.Y (.ab<|.I 0)<|.Y (.ab<|.I 3)<|.Y (.ab<|.I 10)<|.Y (.ab<|.I 24)<|.Y (.an .as (.X 1)<|.ab<|.I 36)<|.Y (.an .as (.X 1)<|.ab<|.I 35)<|.Y (.an .as (.X 1)<|.ab<|.I 34)<|.Y (.X 1) .L)<|.aN 56<|.Y (.X 0)<|.Y (.ab<|.I 8) .L)<|.Y (.aE 3<|.aN 56<|.Y (.X 0)<|.Y (.ab<|.I 250) .L)<|.Y (.aI<|.bt .aA<|.jr (.an .lJ (.an .bg (.X 3)<|.X 4)<|.ab<|.I 256) 4<|.hC<|.X 2) .L
noncomputable def J3:bq:=⟨2,5,D,Ia⟩
noncomputable def J1:bq:=⟨4,12,D,.Y (.aE 4<|.aN 57<|.Y (.X 0)<|.Y (.X 3) .L)<|.Y (.aE 5<|.aN 56<|.Y (.X 0)<|.Y (.ab<|.I 8) .L)<|.Y (.bJ (.a7 .eY (.X 5)<|.ab<|.I 5) (.Y (.aE 6<|.aN 58<|.Y (.X 0)<|.Y (.be (.X 1) 30 .L) .L)<|.Y (.bX<|.aN 53<|.Y (.X 1)<|.Y (.X 2)<|.Y (.X 4)<|.Y (.X 6) .L)<|.Y (.as (.X 3) (.X 4)<|.X 6)<|.Y (.aI<|.ab<|.bs ag) .L) .L)<|.Y (.bJ (.a7 .eY (.X 5)<|.ab<|.I 7) (.Y (.aE 7<|.aN 54<|.Y (.X 1)<|.Y (.X 2)<|.Y (.X 4) .L)<|.Y (.aE 8<|.a7 .vS (.X 4)<|.X 3)<|.Y (.bJ (.X 8) (.Y (.bX<|.eC .yL (.X 3)<|.Y (.X 4) .L) .L) .L)<|.Y (.aI<|.a7 .cX (.X 7)<|.X 8) .L) .L)<|.Y (.e0 [9,10]<|.aN 52<|.Y (.X 1)<|.Y (.X 2)<|.Y (.X 4) .L)<|.Y (.aI<|.a7 .cX (.X 10)<|.a7 .vS (.X 4)<|.X 3) .L⟩
noncomputable def Cb:b2:=.Y (.aE 3<|.be (.X 0) 31<|.Y (.X 1) .L)<|.Y (.bJ (.be (.X 3) 3 .L) (.Y (.aE 4<|.ah .L)<|.Y (.bD ap [5] (.hC<|.be (.X 3) 5 .L)<|.Y (.aE 6<|.be (.X 3) 11<|.Y (.X 5) .L)<|.Y (.bX<|.eC .eA (.X 4)<|.Y (.ce<|.Y (.aK (.X 6) 1)<|.Y (.aN 49<|.Y (.X 0)<|.Y (.X 6) .L) .L) .L) .L)<|.Y (.aI<|.ce<|.Y (.X 4)<|.Y (.ah<|.Y (.X 2) .L) .L) .L) .L)<|.Y (.e0 [4,7]<|.ce<|.Y (.ah .L)<|.Y (.ah .L) .L)<|.Y (.bD ap [8] (.fu<|.be (.X 3) 16 .L)<|.Y (.aE 9<|.aN 60<|.Y (.X 0)<|.Y (.X 8)<|.Y (.an .bg (.X 2)<|.ab<|.I 1) .L)<|.Y (.aE 4<|.an .bg (.X 4)<|.as (.X 9)<|.ab<|.I 0)<|.Y (.aE 7<|.an .bg (.X 7)<|.as (.X 9)<|.ab<|.I 1) .L)<|.Y (.aI<|.ce<|.Y (.X 4)<|.Y (.X 7) .L) .L
noncomputable def CC:bq:=⟨3,11,D,Cb⟩
noncomputable def yt:b2:=.Y (.aE 1<|.aN 55<|.Y (.X 0) .L)<|.Y (.aE 2<|.dP 4<|.Y (.as (.ah<|.Y (.ab<|.I 64)<|.Y (.ab<|.I 64)<|.Y (.ab<|.I 128) .L)<|.aN 56<|.Y (.X 1)<|.Y (.ab<|.I 3) .L) .L)<|.Y (.bX<|.be (.X 2) 39 .L)<|.Y (.aE 3<|.dP 3<|.Y (.X 2)<|.Y (.X 2) .L)<|.Y (.aE 4<|.an .bg (.ab<|.I 1)<|.aN 56<|.Y (.X 1)<|.Y (.ab<|.I 2) .L)<|.Y (.bJ (.a7 .cX (.X 4)<|.ab<|.I 2) (.Y (.bX<|.be (.X 2) 39 .L) .L) .L)<|.Y (.bX<|.be (.X 3) 33<|.Y (.be (.X 3) 32<|.Y (.X 4)<|.Y (.ab<|.I 13) .L) .L)<|.Y (.aE 5 .vC)<|.Y (.bD ap [6] (.hC<|.an .bg (.ab<|.I 4)<|.aN 56<|.Y (.X 1)<|.Y (.ab<|.I 6) .L)<|.Y (.bJ (.gP<|.aN 59<|.Y (.X 1)<|.Y (.X 3)<|.Y (.X 4)<|.Y (.X 5) .L) (.Y (.aI<|.ab<|.bs ap) .L) .L) .L)<|.Y (.aE 7<|.jr (.ce<|.Y (.X 10)<|.Y (.as (.X 5)<|.X 10) .L) 10<|.fu<|.bt .pW<|.oo<|.X 5)<|.Y (.e0 [8,9]<|.aN 60<|.Y (.X 3)<|.Y (.X 4)<|.Y (.ab<|.I 0) .L)<|.Y (.aI<|.hG (.a7 .cX (.X 8)<|.X 7)<|.a7 .cX (.bt .vY<|.X 9)<|.bt .vX<|.X 9) .L
noncomputable def J0:bq:=⟨1,11,D,yt⟩
noncomputable def UF:bq:=⟨1,2,D,.Y (.aI<|.an .as (.aK (.X 0) 2)<|.bt .aH<|.aK (.X 0) 3) .L⟩
noncomputable def I1:bq:=⟨2,4,D,.Y (.aE 2<|.ab<|.aA [])<|.Y (.bJ (.gP<|.aN 8<|.Y (.X 1) .L) (.Y (.aE 2<|.aN 7<|.Y (.aK (.X 0) 0) .L) .L) .L)<|.Y (.bJ (.a7 .cX (.X 1)<|.ab<|.I 5) (.Y (.aI<|.an .bg (.X 2)<|.aN 0<|.Y (.aK (.X 0) 1) .L) .L) .L)<|.Y (.aE 2<|.an .bg (.X 2)<|.aN 0<|.Y (.aK (.X 0) 2) .L)<|.Y (.bJ (.a7 .cX (.X 1)<|.ab<|.I 13) (.Y (.aE 2<|.an .bg (.X 2)<|.aN 0<|.Y (.aK (.X 0) 1) .L) .L) .L)<|.Y (.aE 2<|.an .bg (.X 2)<|.aK (.X 0) 3)<|.Y (.bJ (.a7 .eq (.aK (.X 0) 4)<|.ab<|.I 0) (.Y (.aE 2<|.an .bg (.X 2)<|.aN 7<|.Y (.aK (.X 0) 4) .L) .L) .L)<|.Y (.aI<|.X 2) .L⟩
noncomputable def Jd:bq:=⟨1,3,D,.Y (.aE 1<|.as (.aK (.X 0) 5)<|.aK (.X 0) 8)<|.Y (.bJ (.a7 .Du (.X 1)<|.ab<|.ce [.I 2,.I 5,.I 10,.I 13]) (.Y .f7 .L) .L)<|.Y (.aI<|.X 1) .L⟩
noncomputable def Jb:bq:=⟨1,2,D,.Y (.aI<|.aN 8<|.Y (.be (.X 0) 2 .L) .L) .L⟩
noncomputable def Jc:bq:=⟨1,2,D,.Y (.aI<|.aN 9<|.Y (.be (.X 0) 2 .L) .L) .L⟩
noncomputable def I7:bq:=⟨1,2,D,.Y (.aI<|.aN 3<|.Y (.aK (.X 0) 5)<|.Y (.an .bg (.aK (.X 0) 8)<|.ab<|.I 3) .L) .L⟩
noncomputable def Jg:bq:=⟨1,2,D,.Y (.bJ (.a7 .gx (.as (.aK (.X 0) 5)<|.aK (.X 0) 8)<|.ab<|.I 5) (.Y (.aI<|.an .bg (.aK (.X 0) 8)<|.ab<|.I 8) .L) .L)<|.Y (.aI<|.an .bg (.aK (.X 0) 8)<|.ab<|.I 12) .L⟩
noncomputable def I6:bq:=⟨1,2,D,.Y (.aI<|.aN 3<|.Y (.aK (.X 0) 5)<|.Y (.an .bg (.aK (.X 0) 8)<|.ab<|.I 5) .L) .L⟩
noncomputable def Ja:bq:=⟨1,2,D,.Y (.aI<|.as (.aK (.X 0) 5)<|.an .bg (.aK (.X 0) 8)<|.ab<|.I 7) .L⟩
noncomputable def Jj:bq:=⟨1,2,D,.Y (.aI<|.aN 4<|.Y (.aK (.X 0) 5)<|.Y (.an .bg (.aK (.X 0) 8)<|.ab<|.I 8) .L) .L⟩
noncomputable def Je:bq:=⟨1,2,D,.Y (.aI<|.bt .aA<|.aK (.X 0) 5) .L⟩
noncomputable def Jf:bq:=⟨2,5,D,.Y (.bJ (.hd (.a7 .eY (.X 1)<|.ab<|.I 0)<|.a7 .jt (.X 1)<|.be (.X 0) 5 .L) (.Y .f7 .L) .L)<|.Y (.aE 2<|.be (.X 0) 6 .L)<|.Y (.aE 3<|.aN 3<|.Y (.aK (.X 0) 5)<|.Y (.an .bg (.X 2)<|.an .gN (.ab<|.I 2)<|.X 1) .L)<|.Y (.bJ (.hd (.a7 .eY (.X 3)<|.an .bg (.X 2)<|.an .gN (.ab<|.I 2)<|.be (.X 0) 5 .L)<|.a7 .gx (.an .bg (.X 3)<|.ab<|.I 4)<|.aK (.X 0) 7) (.Y .f7 .L) .L)<|.Y (.aI<|.X 3) .L⟩
noncomputable def I4:bq:=⟨2,5,D,.Y (.e0 [2,3]<|.aN 14<|.Y (.aK (.X 0) 5)<|.Y (.be (.X 0) 10<|.Y (.X 1) .L)<|.Y (.be (.X 0) 2 .L)<|.Y (.aK (.X 0) 7) .L)<|.Y (.aI<|.X 2) .L⟩
noncomputable def Jh:bq:=⟨2,6,D,.Y (.aE 2<|.be (.X 0) 10<|.Y (.X 1) .L)<|.Y (.e0 [3,4]<|.aN 14<|.Y (.aK (.X 0) 5)<|.Y (.X 2)<|.Y (.be (.X 0) 2 .L)<|.Y (.aK (.X 0) 7) .L)<|.Y (.aI<|.bt .aA<|.eF (.aK (.X 0) 5) (.X 2)<|.X 4) .L⟩
noncomputable def Ji:bq:=⟨1,2,D,.Y (.aI<|.jr (.be (.X 0) 12<|.Y (.X 1) .L) 1<|.hC<|.be (.X 0) 5 .L) .L⟩
noncomputable def CA:bq:=⟨2,6,D,.Y (.aE 2<|.be (.X 0) 10<|.Y (.X 1) .L)<|.Y (.bJ (.a7 .cX (.be (.X 0) 2 .L)<|.ab<|.I 5) (.Y (.e0 [3,2]<|.aN 1<|.Y (.aK (.X 0) 5)<|.Y (.an .bg (.X 2)<|.ab<|.I 4) .L)<|.Y (.aI<|.aN 2<|.Y (.X 3) .L) .L) .L)<|.Y (.e0 [4,2]<|.aN 1<|.Y (.aK (.X 0) 5)<|.Y (.X 2) .L)<|.Y (.e0 [3,2]<|.aN 1<|.Y (.aK (.X 0) 5)<|.Y (.X 2) .L)<|.Y (.aI<|.aN 2<|.Y (.X 3) .L) .L⟩
noncomputable def Cz:bq:=⟨2,3,D,.Y (.bJ (.a7 .cX (.X 1)<|.be (.X 0) 5 .L) (.Y (.aI<|.be (.X 0) 9 .L) .L) .L)<|.Y (.aI<|.aN 4<|.Y (.aK (.X 0) 5)<|.Y (.be (.X 0) 10<|.Y (.X 1) .L) .L) .L⟩
noncomputable def I5:bq:=⟨1,2,D,.Y (.bJ (.be (.X 0) 3 .L) (.Y (.aI<|.ah .L) .L) .L)<|.Y (.aI<|.jr (.be (.X 0) 15<|.Y (.X 1) .L) 1<|.hC<|.an .bg (.be (.X 0) 5 .L)<|.ab<|.I 1) .L⟩
noncomputable def HW:b2:=.Y (.aE 1<|.ah .L)<|.Y (.aE 2<|.aN 3<|.Y (.aK (.X 0) 5)<|.Y (.an .bg (.aK (.X 0) 8)<|.ab<|.I 1) .L)<|.Y (.aE 3<|.ab<|.I 0)<|.Y (.iA (.a7 .eq (.X 2)<|.ab<|.I 0)<|.Y (.bJ (.hd (.a7 .eY (.X 2)<|.X 3)<|.hd (.a7 .eY (.X 2)<|.be (.X 0) 7 .L)<|.a7 .gx (.an .bg (.X 2)<|.ab<|.I 4)<|.aK (.X 0) 7) (.Y .f7 .L) .L)<|.Y (.aE 4<|.aN 3<|.Y (.aK (.X 0) 5)<|.Y (.an .bg (.X 2)<|.ab<|.I 2) .L)<|.Y (.bJ (.hd (.a7 .eY (.X 4)<|.ab<|.I 4)<|.a7 .gx (.an .bg (.X 2)<|.X 4)<|.aK (.X 0) 7) (.Y .f7 .L) .L)<|.Y (.bX<|.eC .eA (.X 1)<|.Y (.ce<|.Y (.X 2)<|.Y (.X 4) .L) .L)<|.Y (.aE 3<|.an .bg (.X 2)<|.X 4)<|.Y (.aE 2<|.aN 3<|.Y (.aK (.X 0) 5)<|.Y (.X 2) .L) .L)<|.Y (.aI<|.X 1) .L
noncomputable def I3:bq:=⟨1,6,D,HW⟩
noncomputable def I2:bq:=⟨1,2,D,.Y (.aI<|.an .bg (.jr (.aN 19<|.Y (.X 1) .L) 1<|.fu<|.aK (.X 0) 10)<|.ah<|.Y (.aK (.X 0) 11) .L) .L⟩
noncomputable def UG:bq:=⟨2,3,D,.Y (.bX<|.aN 6<|.Y (.aK (.X 0) 5)<|.Y (.an .bg (.aK (.X 0) 8)<|.ab<|.I 8)<|.Y (.X 1) .L) .L⟩
noncomputable def Jl:bq:=⟨2,3,D,.Y (.eF (.aK (.X 0) 5) (.aK (.X 0) 8) (.aK (.X 0) 7)<|.bt .aA<|.an .as (.aK (.X 0) 7)<|.aK (.X 0) 8)<|.Y (.as (.aK (.X 0) 5) (.aK (.X 0) 8)<|.X 1)<|.Y (.bX<|.aN 5<|.Y (.aK (.X 0) 5)<|.Y (.an .bg (.aK (.X 0) 8)<|.ab<|.I 5)<|.Y (.aK (.X 0) 7) .L) .L⟩
noncomputable def Jm:bq:=⟨1,2,D,.Y (.aI<|.an .as (.an .as (.be (.X 0) 7 .L)<|.be (.X 0) 6 .L)<|.an .gN (.ab<|.I 2)<|.be (.X 0) 5 .L) .L⟩
noncomputable def B7:b2:=.Y (.aE 2<|.an .bg (.aK (.X 0) 8)<|.ab<|.I 1)<|.Y (.bD ag [3,4] (.fu<|.X 1)<|.Y (.bX<|.aN 5<|.Y (.aK (.X 0) 5)<|.Y (.X 2)<|.Y (.X 3) .L)<|.Y (.bX<|.aN 5<|.Y (.aK (.X 0) 5)<|.Y (.an .bg (.X 3)<|.ab<|.I 2)<|.Y (.X 4) .L)<|.Y (.aE 2<|.X 3) .L)<|.Y (.bX<|.aN 5<|.Y (.aK (.X 0) 5)<|.Y (.X 2)<|.Y (.ab<|.I 0) .L) .L
noncomputable def Jt:bq:=⟨2,6,D,B7⟩
noncomputable def Js:bq:=⟨1,5,D,.Y (.aE 1<|.an .bg (.be (.X 0) 20 .L)<|.be (.X 0) 8 .L)<|.Y (.bD ag [2,3] (.fu<|.be (.X 0) 17 .L)<|.Y (.aE 1<|.an .bg (.X 1)<|.X 3) .L)<|.Y (.aI<|.X 1) .L⟩
noncomputable def Jp:bq:=⟨1,2,D,.Y (.aI<|.hd (.a7 .cX (.be (.X 0) 5 .L)<|.ab<|.I 0)<|.a7 .gx (.an .gN (.be (.X 0) 22 .L)<|.ab<|.I 3)<|.an .gN (.an .as (.aK (.X 0) 7)<|.be (.X 0) 6 .L)<|.ab<|.I 2) .L⟩
noncomputable def HZ:b2:=.Y (.aE 2<|.be (.X 0) 17 .L)<|.Y (.bD ap [3] (.hC<|.bt .aH<|.X 2)<|.Y (.e0 [4,5]<|.as (.X 2)<|.X 3)<|.Y (.aE 6<|.an .as (.X 5)<|.X 1)<|.Y (.bJ (.a7 .jt (.X 6)<|.ab<|.I 4) (.Y (.as (.X 2) (.X 3)<|.ce<|.Y (.X 4)<|.Y (.X 6) .L)<|.Y (.bX<|.be (.X 0) 21<|.Y (.X 2) .L)<|.Y (.aI<|.an .bg (.X 4)<|.X 6) .L) .L)<|.Y (.bJ (.a7 .jt (.X 6)<|.ab<|.I 0) (.Y (.bJ (.a7 .gx (.an .bg (.be (.X 0) 8 .L)<|.X 6)<|.ab<|.I 57) (.Y (.aI<|.ab<|.I 0) .L) .L)<|.Y (.as (.aK (.X 0) 5) (.an .bg (.aK (.X 0) 8)<|.ab<|.I 7)<|.an .bg (.be (.X 0) 8 .L)<|.X 6)<|.Y (.bX<|.be (.X 0) 21<|.Y (.an .bg (.eF (.X 2) (.ab<|.bE)<|.X 3)<|.eF (.X 2) (.an .bg (.X 3)<|.ab<|.I 1)<|.ab<|.bE) .L)<|.Y (.aI<|.X 4) .L) .L) .L)<|.Y (.aI<|.ab<|.I 0) .L
noncomputable def Ju:bq:=⟨2,8,D,HZ⟩
noncomputable def B4:b2:=.Y (.bJ (.a7 .jt (.be (.X 0) 20 .L)<|.ab<|.I 2) (.Y (.aE 2<|.be (.X 0) 24<|.Y (.X 1) .L)<|.Y (.bJ (.a7 .eq (.X 2)<|.ab<|.I 0) (.Y (.aI<|.X 2) .L) .L) .L) .L)<|.Y (.bJ (.a7 .eY (.be (.X 0) 20 .L)<|.an .bg (.X 1)<|.ab<|.I 2) (.Y (.bX<|.be (.X 0) 26<|.Y (.be (.X 0) 13 .L) .L) .L) .L)<|.Y (.aE 2<|.an .as (.be (.X 0) 7 .L)<|.X 1)<|.Y (.bX<|.aN 5<|.Y (.aK (.X 0) 5)<|.Y (.an .bg (.aK (.X 0) 8)<|.ab<|.I 5)<|.Y (.X 2) .L)<|.Y (.aI<|.X 2) .L
noncomputable def Jk:bq:=⟨2,4,D,B4⟩
noncomputable def B6:b2:=.Y (.aE 2<|.be (.X 0) 2 .L)<|.Y (.aE 3<|.ab<|.I 0)<|.Y (.bJ (.gP<|.aN 8<|.Y (.X 2) .L) (.Y (.aE 3<|.be (.X 0) 9 .L) .L) .L)<|.Y (.bX<|.be (.X 0) 19<|.Y (.X 2) .L)<|.Y (.bJ (.gP<|.aN 8<|.Y (.X 2) .L) (.Y (.bX<|.be (.X 0) 18<|.Y (.X 3) .L) .L) .L)<|.Y (.aE 4<|.aK (.X 0) 7)<|.Y (.aE 5<|.be (.X 0) 6 .L)<|.Y (.bD ap [6] (.hC<|.bt .aH<|.X 1)<|.Y (.aE 7<|.as (.X 1)<|.X 6)<|.Y (.aE 4<|.an .as (.X 4)<|.i6 (.ab<|.I 4)<|.bt .aH<|.X 7)<|.Y (.bJ (.a7 .eY (.X 4)<|.an .bg (.X 5)<|.an .gN (.ab<|.I 2)<|.bt .aH<|.X 1) (.Y .f7 .L) .L)<|.Y (.eF (.aK (.X 0) 5) (.X 4) (.an .bg (.X 4)<|.bt .aH<|.X 7)<|.X 7)<|.Y (.bX<|.aN 5<|.Y (.aK (.X 0) 5)<|.Y (.an .bg (.X 5)<|.an .gN (.ab<|.I 2)<|.X 6)<|.Y (.X 4) .L) .L)<|.Y (.bX<|.aN 5<|.Y (.aK (.X 0) 5)<|.Y (.an .bg (.aK (.X 0) 8)<|.ab<|.I 3)<|.Y (.bt .aH<|.X 1) .L)<|.Y (.bX<|.aN 5<|.Y (.aK (.X 0) 5)<|.Y (.an .bg (.aK (.X 0) 8)<|.ab<|.I 5)<|.Y (.X 4) .L) .L
noncomputable def Jq:bq:=⟨2,9,D,B6⟩
noncomputable def HX:b2:=.Y (.aE 3<|.i6 (.ab<|.I 4)<|.bt .aH<|.X 2)<|.Y (.bJ (.a7 .eY (.be (.X 0) 22 .L)<|.an .bg (.X 3)<|.ab<|.I 2) (.Y (.aI<|.ab<|.bs ap) .L) .L)<|.Y (.aE 4<|.be (.X 0) 5 .L)<|.Y (.aE 5<|.be (.X 0) 25<|.Y (.X 3) .L)<|.Y (.eF (.aK (.X 0) 5) (.X 5) (.an .bg (.X 5)<|.bt .aH<|.X 2)<|.X 2)<|.Y (.aE 6<|.be (.X 0) 6 .L)<|.Y (.bD ap [7] (.wn (.X 4) (.X 1)<|.ab<|.I (-1))<|.Y (.bX<|.aN 5<|.Y (.aK (.X 0) 5)<|.Y (.an .bg (.X 6)<|.an .gN (.ab<|.I 2)<|.X 7)<|.Y (.aN 3<|.Y (.aK (.X 0) 5)<|.Y (.an .as (.an .bg (.X 6)<|.an .gN (.ab<|.I 2)<|.X 7)<|.ab<|.I 2) .L) .L) .L)<|.Y (.bX<|.aN 5<|.Y (.aK (.X 0) 5)<|.Y (.an .bg (.X 6)<|.an .gN (.ab<|.I 2)<|.X 1)<|.Y (.X 5) .L)<|.Y (.bX<|.aN 5<|.Y (.aK (.X 0) 5)<|.Y (.an .bg (.aK (.X 0) 8)<|.ab<|.I 3)<|.Y (.an .bg (.X 4)<|.ab<|.I 1) .L)<|.Y (.aI<|.ab<|.bs ag) .L
noncomputable def Jo:bq:=⟨3,9,D,HX⟩
noncomputable def HY:b2:=.Y (.aE 2<|.be (.X 0) 10<|.Y (.X 1) .L)<|.Y (.aE 3<|.i6 (.ab<|.I 4)<|.bt .aH<|.be (.X 0) 12<|.Y (.X 1) .L)<|.Y (.aE 4<|.be (.X 0) 5 .L)<|.Y (.bJ (.a7 .cX (.X 4)<|.ab<|.I 1) (.Y (.bX<|.be (.X 0) 26<|.Y (.ah .L) .L)<|.Y (.aI<|.ab<|.bE) .L) .L)<|.Y (.aE 5<|.be (.X 0) 6 .L)<|.Y (.bD ap [6] (.zP (.X 1)<|.an .as (.X 4)<|.ab<|.I 1)<|.Y (.bX<|.aN 5<|.Y (.aK (.X 0) 5)<|.Y (.an .bg (.X 5)<|.an .gN (.ab<|.I 2)<|.X 6)<|.Y (.aN 3<|.Y (.aK (.X 0) 5)<|.Y (.an .bg (.an .bg (.X 5)<|.an .gN (.ab<|.I 2)<|.X 6)<|.ab<|.I 2) .L) .L) .L)<|.Y (.bX<|.aN 5<|.Y (.aK (.X 0) 5)<|.Y (.an .bg (.aK (.X 0) 8)<|.ab<|.I 3)<|.Y (.an .as (.X 4)<|.ab<|.I 1) .L)<|.Y (.bX<|.be (.X 0) 29<|.Y (.X 2)<|.Y (.X 3) .L) .L
noncomputable def Jr:bq:=⟨2,8,D,HY⟩
noncomputable def B5:b2:=.Y (.aE 3<|.ah .L)<|.Y (.aE 4<|.be (.X 0) 8 .L)<|.Y (.bD ap [5] (.fu<|.bt .pW<|.an .bg (.be (.X 0) 17 .L)<|.ah<|.Y (.ce<|.Y (.X 1)<|.Y (.X 2) .L) .L)<|.Y (.bJ (.hG (.a7 .eq (.X 3)<|.ah .L)<|.a7 .eY (.as (.X 5)<|.ab<|.I 0)<|.an .bg (.as (.as (.X 3)<|.ab<|.I (-1))<|.ab<|.I 0)<|.as (.as (.X 3)<|.ab<|.I (-1))<|.ab<|.I 1) (.Y .f7 .L) .L)<|.Y (.bJ (.hG (.a7 .eq (.X 3)<|.ah .L)<|.a7 .eY (.an .as (.an .as (.as (.X 5)<|.ab<|.I 0)<|.as (.as (.X 3)<|.ab<|.I (-1))<|.ab<|.I 0)<|.as (.as (.X 3)<|.ab<|.I (-1))<|.ab<|.I 1)<|.ab<|.I 4) (.Y (.e0 [6,7]<|.as (.X 3)<|.ab<|.I (-1))<|.Y (.aE 4<|.an .as (.X 4)<|.an .as (.an .as (.as (.X 5)<|.ab<|.I 0)<|.X 6)<|.X 7)<|.Y (.as (.X 3) (.ab<|.I (-1))<|.ce<|.Y (.X 6)<|.Y (.an .as (.an .bg (.as (.X 5)<|.ab<|.I 0)<|.as (.X 5)<|.ab<|.I 1)<|.X 6) .L) .L)<|.Y (.bX<|.eC .eA (.X 3)<|.Y (.X 5) .L) .L) .L)<|.Y (.bJ (.a7 .eY (.X 4)<|.ab<|.I 0) (.Y .f7 .L) .L)<|.Y (.e0 [6,7]<|.as (.X 3)<|.ab<|.I 0)<|.Y (.bJ (.hG (.a7 .eY (.an .as (.X 6)<|.be (.X 0) 7 .L)<|.ab<|.I 4)<|.a7 .jt (.X 6)<|.be (.X 0) 7 .L) (.Y (.aE 4<|.an .as (.X 4)<|.an .as (.X 6)<|.be (.X 0) 7 .L)<|.Y (.bX<|.aN 5<|.Y (.aK (.X 0) 5)<|.Y (.an .bg (.aK (.X 0) 8)<|.ab<|.I 5)<|.Y (.an .bg (.X 6)<|.X 7) .L)<|.Y (.aE 3<|.eF (.X 3) (.ab<|.I 1)<|.ab<|.bE) .L) .L)<|.Y (.as (.aK (.X 0) 5) (.an .bg (.aK (.X 0) 8)<|.ab<|.I 7)<|.i6 (.ab<|.I 0)<|.X 4)<|.Y (.bX<|.be (.X 0) 21<|.Y (.X 3) .L) .L
noncomputable def Jn:bq:=⟨3,9,D,B5⟩
noncomputable def JG:bq:=⟨1,2,D,.Y (.aI<|.aK (.aK (.X 0) 12) 15) .L⟩
noncomputable def JD:bq:=⟨2,3,D,.Y (.bJ (.hd (.a7 .eY (.X 1)<|.ab<|.I 1)<|.a7 .gx (.X 1)<|.be (.aK (.X 0) 12) 36 .L) (.Y .f7 .L) .L)<|.Y (.aI<|.dP 1<|.Y (.be (.aK (.X 0) 12) 37<|.Y (.X 1) .L)<|.Y (.X 1)<|.Y (.be (.X 0) 30 .L) .L) .L⟩
noncomputable def H0:b2:=.Y (.aE 3<|.bt .aA<|.be (.X 0) 30 .L)<|.Y (.bJ (.a7 .cX (.X 1)<|.ab<|.I 1) (.Y (.aE 3<|.be (.aK (.X 0) 12) 37<|.Y (.ab<|.I 1) .L) .L) .L)<|.Y (.aE 4<|.dP 1<|.Y (.X 3)<|.Y (.X 1)<|.Y (.be (.X 0) 30 .L) .L)<|.Y (.bX<|.be (.X 4) 19<|.Y (.X 2) .L)<|.Y (.aI<|.X 4) .L
noncomputable def JC:bq:=⟨3,6,D,H0⟩
noncomputable def JE:bq:=⟨2,4,D,.Y (.aE 2<|.be (.X 1) 1 .L)<|.Y (.bJ (.a7 .cX (.aK (.X 1) 6)<|.ab<|.I 1) (.Y (.aE 2<|.an .bg (.eF (.be (.aK (.X 0) 12) 37<|.Y (.ab<|.I 1) .L) (.ab<|.bE)<|.ab<|.I 32)<|.eF (.X 2) (.ab<|.I 32)<|.ab<|.bE) .L) .L)<|.Y (.bX<|.be (.aK (.X 0) 12) 38<|.Y (.aK (.X 1) 6)<|.Y (.X 2) .L) .L⟩
noncomputable def JF:bq:=⟨2,3,D,.Y (.as (.aK (.X 0) 14) (.X 1)<|.an .bg (.eC .hv (.aK (.X 0) 14)<|.Y (.X 1)<|.Y (.ab<|.I 0) .L)<|.ab<|.I 1) .L⟩
noncomputable def JB:bq:=⟨2,3,D,.Y (.bJ (.a7 .gx (.bt .aH<|.X 1)<|.ab<|.I 50) (.Y .f7 .L) .L) .L⟩
noncomputable def Jx:bq:=⟨1,2,D,.Y (.aI<|.bt .aH<|.aK (.X 0) 16) .L⟩
noncomputable def Jy:bq:=⟨2,3,D,.Y (.bJ (.hd (.a7 .eY (.X 1)<|.ab<|.I 1)<|.a7 .gx (.X 1)<|.bt .aH<|.aK (.X 0) 16) (.Y .f7 .L) .L)<|.Y (.aI<|.as (.aK (.X 0) 16)<|.an .as (.X 1)<|.ab<|.I 1) .L⟩
noncomputable def JA:bq:=⟨3,4,D,.Y (.bJ (.hd (.a7 .eq (.bt .aH<|.X 2)<|.aK (.X 0) 15)<|.hd (.a7 .eY (.X 1)<|.ab<|.I 1)<|.a7 .gx (.X 1)<|.bt .aH<|.aK (.X 0) 16) (.Y .f7 .L) .L)<|.Y (.as (.aK (.X 0) 16) (.an .as (.X 1)<|.ab<|.I 1)<|.bt .aA<|.X 2) .L⟩
noncomputable def Jv:bq:=⟨1,2,D,.Y (.bX<|.eC .eA (.aK (.X 0) 16)<|.Y (.bt .aA<|.aK (.X 0) 15) .L)<|.Y (.aI<|.bt .aH<|.aK (.X 0) 16) .L⟩
noncomputable def Jz:bq:=⟨1,2,D,.Y (.bJ (.a7 .eq (.aK (.X 0) 17)<|.ah .L) (.Y (.aI<|.eC .zL (.aK (.X 0) 17) .L) .L) .L)<|.Y (.aI<|.be (.X 0) 39 .L) .L⟩
noncomputable def Jw:bq:=⟨2,3,D,.Y (.bJ (.hd (.a7 .vS (.X 1)<|.aK (.X 0) 17)<|.hd (.a7 .eY (.X 1)<|.ab<|.I 2)<|.a7 .gx (.X 1)<|.bt .aH<|.aK (.X 0) 16) (.Y .f7 .L) .L)<|.Y (.bX<|.eC .eA (.aK (.X 0) 17)<|.Y (.X 1) .L) .L⟩
noncomputable def Yn:jM:=⟨5,7,[(D,0,(.X 1)),(D,1,(.X 2)),(D,2,(.X 3)),(D,3,(.X 4)),(D,4,(.X 5))]⟩
noncomputable def Yp:jM:=⟨3,5,[(D,5,(.bt .yA<|.X 1)),(D,6,(.X 2)),(D,7,(.X 3)),(D,8,(.ab<|.I 0)),(J<|.a7 .cX (.X 2)<|.ab<|.I 1,8,(.ab<|.I 32))]⟩
noncomputable def Yo:jM:=⟨3,5,[(D,9,(.X 1)),(D,10,(.X 2)),(D,11,(.X 3))]⟩
noncomputable def Yr:jM:=⟨2,4,[(D,12,(.X 1)),(D,13,(.X 2)),(D,14,.vC)]⟩
noncomputable def Yq:jM:=⟨1,3,[(D,15,(.X 1)),(D,16,(.ah .L)),(D,17,(.ah .L))]⟩
noncomputable def fX:List bq:=[Ki,JX,Kp,UQ,UH,UP,UO,UI,UK,UL,UJ,UM,UN,J7,CD,JM,Kr,JH,JI,JL,Kt,J6,Kk,JS,Kv,JZ,JQ,Kq,JO,Ko,Ks,JW,Kc,Kd,Kf,Kn,Km,CB,Kh,Kl,Ke,JT,JJ,Ku,Ka,Kj,JK,JU,JV,Kg,Kb,JR,JP,JY,JN,J2,J5,J4,J3,J1,CC,J0,UF,I1,Jd,Jb,Jc,I7,Jg,I6,Ja,Jj,Je,Jf,I4,Jh,Ji,CA,Cz,I5,I3,I2,UG,Jl,Jm,Jt,Js,Jp,Ju,Jk,Jq,Jo,Jr,Jn,JG,JD,JC,JE,JF,JB,Jx,Jy,JA,Jv,Jz,Jw]
noncomputable def gu:List jM:=[Yn,Yp,Yo,Yr,Yq]
noncomputable def zg:List ((Nat×Nat)×Nat):=[((0,0),62),((0,1),63),((1,1),72),((1,2),64),((1,3),65),((1,4),66),((1,5),67),((1,6),68),((1,7),69),((1,8),70),((1,9),71),((1,10),73),((1,11),74),((1,12),75),((1,13),76),((1,14),77),((1,15),78),((1,16),79),((1,17),80),((1,18),82),((1,19),83),((1,20),84),((1,21),85),((1,22),86),((1,23),87),((1,24),88),((1,25),89),((1,26),90),((1,27),91),((1,28),92),((1,29),93),((2,16),81),((3,30),94),((3,31),95),((3,32),96),((3,33),97),((3,34),98),((3,35),99),((4,36),100),((4,37),101),((4,38),102),((4,39),103),((4,40),104),((4,41),105)]
noncomputable def nu (c a:Nat):Option Nat:=zg.lookup (c,a)
theorem LY {c e:Type} [BEq c] [LawfulBEq c]{d:c}{v:e}:∀{l:List (c×e)},l.lookup d=J v->(d,v)∈l
 |[],b=>nomatch b|(a,g)::h,b=>by
  rw[jD]at b;split at b
  ·rename_i f;cases b;exact eq_of_beq f<|>.head _
  ·exact .tail _ (LY b)
theorem Ma {c b a:Nat}(d:nu c b=J a):((c,b),a)∈zg:=LY d
theorem Y0:zg.all (λx=>AT x.1.1 5&&AT x.2 106)=ag:=by decide+kernel
theorem L7 {c d a:Nat}(b:nu c d=J a):c<5/\a<106:=by have:=f0.mp Y0 _ (Ma b);rw[ek]at this;exact⟨wY this.1,wY this.2⟩
noncomputable def cT:xC:=⟨λi=>fX[i]?,λi=>gu[i]?,nu⟩
section
open PySem
structure kv where
 fX:List (aq×Nat)
 lB:List (aq×Nat)
 q3:List (aq×O)
 mf:List (aq×Nat)
 ri:List (aq×Nat)
structure cA where
 gG:List (aq×j4)
 gi:List (aq×Nat)
 gq:Nat
noncomputable def cA.fr (c:cA)(x:aq):Option Nat:=match c.gG.lookup x with
 |some .local|some .cell|some .free=>c.gi.lookup x
 |_=>D
noncomputable def cA.fC (c:cA)(x:aq):Bool:=c.gG.lookup x==J .globalImplicit
noncomputable def s2:oX->Option l4
 |.Add=>J .bg|.Sub=>J .as|.Mult=>J .gN|.FloorDiv=>J .nj|.Mod=>J .lJ
 |.BitAnd=>J .s0|.BitOr=>J .vv|.LShift=>J .Ec|.RShift=>J .wu|_=>D
noncomputable def yH:qi->Option pb
 |.Eq=>J .cX|.NotEq=>J .eq|.Lt=>J .eY|.LtE=>J .ar|.Gt=>J .gx|.GtE=>J .jt
 |.In=>J .vS|.NotIn=>J .Du|.IsNot=>J .LD|_=>D
section
variable {α β:Type}{x y:Option β}{P:β->Prop}{z:Option α}{k:α->Option β}{b:Bool}
noncomputable def eD (b:Bool)(x:Option β):Option β:=cond b x D
def di (x:Option β)(P:β->Prop):Prop:=∀a,x=J a->P a
def ph {α:Type}(P:α->β->Prop)(a:α)(x:Option β):Prop:=di x (P a)
theorem ib:di (D:Option β) P:=λb a=>nomatch a
theorem gy {a:β}(b:P a):di (J a) P:=λc q=>dr q▸b
theorem cB (b:∀a,z=J a->di (k a) P):di (z.bind k) P:=by
 induction z with
 |none=>exact ib|some a=>exact b a rfl
theorem eu {b:α->β}(c:∀a,z=J a->P (b a)):di (z.map b) P:=by
 induction z with
 |none=>exact ib|some a=>exact gy (c a rfl)
theorem fp (a:b=ag->di x P):di (eD b x) P:=by
 induction b with
 |false=>exact ib|true=>exact a rfl
theorem ow (a:b=ag->di x P)(c:b=ap->di y P):di (cond b x y) P:=by
 induction b with
 |false=>exact c rfl|true=>exact a rfl
theorem mA (b:z=D->di x P)(c:∀a,z=J a->di (k a) P):di (z.elim x k) P:=by
 induction z with
 |none=>exact b rfl|some a=>exact c a rfl
end
section
variable {β:Type}{P:am->β->Prop}{e:am}{d:β}
noncomputable def Dz (e:am)(b:w6->List am->a5->β)(d:β):β:=if a:e.ctorIdx=0 then Expr.BoolOp.elim (motive_1:=λc=>β) e a b else d
theorem MC {b:w6->List am->a5->β}(g:∀a f c,P (.BoolOp a f c) (b a f c))(h:P e d):P e (Dz e b d):=if q:e.ctorIdx=0 then Expr.BoolOp.elim (motive_1:=λe=>P e<|Dz e b d) e q g else hg (congrArg (P e)<|dif_neg q) h
noncomputable def Dy (e:am)(b:am->oX->am->a5->β)(d:β):β:=if a:e.ctorIdx=2 then Expr.BinOp.elim (motive_1:=λc=>β) e a b else d
theorem MB {b:am->oX->am->a5->β}(g:∀a f c d,P (.BinOp a f c d) (b a f c d))(h:P e d):P e (Dy e b d):=if q:e.ctorIdx=2 then Expr.BinOp.elim (motive_1:=λe=>P e<|Dy e b d) e q g else hg (congrArg (P e)<|dif_neg q) h
noncomputable def DL (e:am)(b:UnaryOp->am->a5->β)(d:β):β:=if a:e.ctorIdx=3 then Expr.UnaryOp.elim (motive_1:=λc=>β) e a b else d
theorem MQ {b:UnaryOp->am->a5->β}(g:∀a f c,P (.UnaryOp a f c) (b a f c))(h:P e d):P e (DL e b d):=if q:e.ctorIdx=3 then Expr.UnaryOp.elim (motive_1:=λe=>P e<|DL e b d) e q g else hg (congrArg (P e)<|dif_neg q) h
noncomputable def DG (e:am)(b:am->am->am->a5->β)(d:β):β:=if a:e.ctorIdx=5 then Expr.IfExp.elim (motive_1:=λc=>β) e a b else d
theorem MO {b:am->am->am->a5->β}(g:∀a f c d,P (.IfExp a f c d) (b a f c d))(h:P e d):P e (DG e b d):=if q:e.ctorIdx=5 then Expr.IfExp.elim (motive_1:=λe=>P e<|DG e b d) e q g else hg (congrArg (P e)<|dif_neg q) h
noncomputable def DC (e:am)(b:List (Option am)->List am->a5->β)(d:β):β:=if a:e.ctorIdx=6 then Expr.Dict.elim (motive_1:=λc=>β) e a b else d
theorem MF {b:List (Option am)->List am->a5->β}(g:∀a f c,P (.Dict a f c) (b a f c))(h:P e d):P e (DC e b d):=if q:e.ctorIdx=6 then Expr.Dict.elim (motive_1:=λe=>P e<|DC e b d) e q g else hg (congrArg (P e)<|dif_neg q) h
noncomputable def zs (e:am)(b:am->List qj->g1->a5->β)(d:β):β:=if a:e.ctorIdx=8 then Expr.ListComp.elim (motive_1:=λc=>β) e a b else d
theorem DH {b:am->List qj->g1->a5->β}(g:∀a f c d,P (.ListComp a f c d) (b a f c d))(h:P e d):P e (zs e b d):=if q:e.ctorIdx=8 then Expr.ListComp.elim (motive_1:=λe=>P e<|zs e b d) e q g else hg (congrArg (P e)<|dif_neg q) h
noncomputable def DA (e:am)(b:am->List qi->List am->a5->β)(d:β):β:=if a:e.ctorIdx=15 then Expr.Compare.elim (motive_1:=λc=>β) e a b else d
theorem MD {b:am->List qi->List am->a5->β}(g:∀a f c d,P (.Compare a f c d) (b a f c d))(h:P e d):P e (DA e b d):=if q:e.ctorIdx=15 then Expr.Compare.elim (motive_1:=λe=>P e<|DA e b d) e q g else hg (congrArg (P e)<|dif_neg q) h
noncomputable def ts (e:am)(b:am->List am->List Keyword->a5->β)(d:β):β:=if a:e.ctorIdx=16 then Expr.Call.elim (motive_1:=λc=>β) e a b else d
theorem v4 {b:am->List am->List Keyword->a5->β}(g:∀a f c d,P (.Call a f c d) (b a f c d))(h:P e d):P e (ts e b d):=if q:e.ctorIdx=16 then Expr.Call.elim (motive_1:=λe=>P e<|ts e b d) e q g else hg (congrArg (P e)<|dif_neg q) h
noncomputable def zp (e:am)(b:uu->Nat->a5->β)(d:β):β:=if a:e.ctorIdx=19 then Expr.Constant.elim (motive_1:=λc=>β) e a b else d
theorem DB {b:uu->Nat->a5->β}(g:∀a f c,P (.Constant a f c) (b a f c))(h:P e d):P e (zp e b d):=if q:e.ctorIdx=19 then Expr.Constant.elim (motive_1:=λe=>P e<|zp e b d) e q g else hg (congrArg (P e)<|dif_neg q) h
noncomputable def v3 (e:am)(b:am->aq->a5->β)(d:β):β:=if a:e.ctorIdx=20 then Expr.Attribute.elim (motive_1:=λc=>β) e a b else d
theorem zo {b:am->aq->a5->β}(g:∀a f c,P (.Attribute a f c) (b a f c))(h:P e d):P e (v3 e b d):=if q:e.ctorIdx=20 then Expr.Attribute.elim (motive_1:=λe=>P e<|v3 e b d) e q g else hg (congrArg (P e)<|dif_neg q) h
noncomputable def zt (e:am)(b:am->am->a5->β)(d:β):β:=if a:e.ctorIdx=21 then Expr.Subscript.elim (motive_1:=λc=>β) e a b else d
theorem DK {b:am->am->a5->β}(g:∀a f c,P (.Subscript a f c) (b a f c))(h:P e d):P e (zt e b d):=if q:e.ctorIdx=21 then Expr.Subscript.elim (motive_1:=λe=>P e<|zt e b d) e q g else hg (congrArg (P e)<|dif_neg q) h
noncomputable def tv (e:am)(b:aq->a5->β)(d:β):β:=if a:e.ctorIdx=23 then Expr.Name.elim (motive_1:=λc=>β) e a b else d
theorem v7 {b:aq->a5->β}(f:∀a c,P (.Name a c) (b a c))(g:P e d):P e (tv e b d):=if q:e.ctorIdx=23 then Expr.Name.elim (motive_1:=λe=>P e<|tv e b d) e q f else hg (congrArg (P e)<|dif_neg q) g
noncomputable def DI (e:am)(b:List am->a5->β)(d:β):β:=if a:e.ctorIdx=24 then Expr.List.elim (motive_1:=λc=>β) e a b else d
theorem MP {b:List am->a5->β}(f:∀a c,P (.List a c) (b a c))(g:P e d):P e (DI e b d):=if q:e.ctorIdx=24 then Expr.List.elim (motive_1:=λe=>P e<|DI e b d) e q f else hg (congrArg (P e)<|dif_neg q) g
noncomputable def tw (e:am)(b:List am->Nat->a5->β)(d:β):β:=if a:e.ctorIdx=25 then Expr.Tuple.elim (motive_1:=λc=>β) e a b else d
theorem zu {b:List am->Nat->a5->β}(g:∀a f c,P (.Tuple a f c) (b a f c))(h:P e d):P e (tw e b d):=if q:e.ctorIdx=25 then Expr.Tuple.elim (motive_1:=λe=>P e<|tw e b d) e q g else hg (congrArg (P e)<|dif_neg q) h
noncomputable def DJ (e:am)(b:Option am->Option am->Option am->a5->β)(d:β):β:=if a:e.ctorIdx=26 then Expr.Slice.elim (motive_1:=λc=>β) e a b else d
theorem ZL {b:Option am->Option am->Option am->a5->β}(g:∀a f c d,P (.Slice a f c d) (b a f c d))(h:P e d):P e (DJ e b d):=if q:e.ctorIdx=26 then Expr.Slice.elim (motive_1:=λe=>P e<|DJ e b d) e q g else hg (congrArg (P e)<|dif_neg q) h
end
section
variable {β:Type}{P:dC->β->Prop}{e:dC}{d:β}
noncomputable def D7 (e:dC)(b:Option am->a5->β)(d:β):β:=if a:e.ctorIdx=3 then Stmt.Return.elim (motive_2:=λc=>β) e a b else d
theorem acN {b:Option am->a5->β}(f:∀a c,P (.Return a c) (b a c))(g:P e d):P e (D7 e b d):=if q:e.ctorIdx=3 then Stmt.Return.elim (motive_2:=λe=>P e<|D7 e b d) e q f else hg (congrArg (P e)<|dif_neg q) g
noncomputable def zU (e:dC)(b:List am->am->a5->β)(d:β):β:=if a:e.ctorIdx=5 then Stmt.Assign.elim (motive_2:=λc=>β) e a b else d
theorem NA {b:List am->am->a5->β}(g:∀a f c,P (.Assign a f c) (b a f c))(h:P e d):P e (zU e b d):=if q:e.ctorIdx=5 then Stmt.Assign.elim (motive_2:=λe=>P e<|zU e b d) e q g else hg (congrArg (P e)<|dif_neg q) h
noncomputable def D3 (e:dC)(b:am->oX->am->a5->β)(d:β):β:=if a:e.ctorIdx=7 then Stmt.AugAssign.elim (motive_2:=λc=>β) e a b else d
theorem acJ {b:am->oX->am->a5->β}(g:∀a f c d,P (.AugAssign a f c d) (b a f c d))(h:P e d):P e (D3 e b d):=if q:e.ctorIdx=7 then Stmt.AugAssign.elim (motive_2:=λe=>P e<|D3 e b d) e q g else hg (congrArg (P e)<|dif_neg q) h
noncomputable def D5 (e:dC)(b:am->am->List dC->List dC->a5->β)(d:β):β:=if a:e.ctorIdx=9 then Stmt.For.elim (motive_2:=λc=>β) e a b else d
theorem acL {b:am->am->List dC->List dC->a5->β}(g:∀a f c d e,P (.For a f c d e) (b a f c d e))(h:P e d):P e (D5 e b d):=if q:e.ctorIdx=9 then Stmt.For.elim (motive_2:=λe=>P e<|D5 e b d) e q g else hg (congrArg (P e)<|dif_neg q) h
noncomputable def Ea (e:dC)(b:am->List dC->List dC->a5->β)(d:β):β:=if a:e.ctorIdx=11 then Stmt.While.elim (motive_2:=λc=>β) e a b else d
theorem acO {b:am->List dC->List dC->a5->β}(g:∀a f c d,P (.While a f c d) (b a f c d))(h:P e d):P e (Ea e b d):=if q:e.ctorIdx=11 then Stmt.While.elim (motive_2:=λe=>P e<|Ea e b d) e q g else hg (congrArg (P e)<|dif_neg q) h
noncomputable def zW (e:dC)(b:am->List dC->List dC->a5->β)(d:β):β:=if a:e.ctorIdx=12 then Stmt.If.elim (motive_2:=λc=>β) e a b else d
theorem NB {b:am->List dC->List dC->a5->β}(g:∀a f c d,P (.If a f c d) (b a f c d))(h:P e d):P e (zW e b d):=if q:e.ctorIdx=12 then Stmt.If.elim (motive_2:=λe=>P e<|zW e b d) e q g else hg (congrArg (P e)<|dif_neg q) h
noncomputable def D6 (e:dC)(b:Option am->Option am->a5->β)(d:β):β:=if a:e.ctorIdx=16 then Stmt.Raise.elim (motive_2:=λc=>β) e a b else d
theorem acM {b:Option am->Option am->a5->β}(g:∀a f c,P (.Raise a f c) (b a f c))(h:P e d):P e (D6 e b d):=if q:e.ctorIdx=16 then Stmt.Raise.elim (motive_2:=λe=>P e<|D6 e b d) e q g else hg (congrArg (P e)<|dif_neg q) h
noncomputable def D4 (e:dC)(b:am->a5->β)(d:β):β:=if a:e.ctorIdx=24 then Stmt.Expr.elim (motive_2:=λc=>β) e a b else d
theorem acK {b:am->a5->β}(f:∀a c,P (.Expr a c) (b a c))(g:P e d):P e (D4 e b d):=if q:e.ctorIdx=24 then Stmt.Expr.elim (motive_2:=λe=>P e<|D4 e b d) e q f else hg (congrArg (P e)<|dif_neg q) g
end
noncomputable def ne (a:am):Option aq:=tv a (λx b=>J x) D
noncomputable def B2 (a:am):Option (Option am×Option am):=DJ a (λc b d e=>eD d.isNone<|J (c,b)) D
noncomputable def yo (a:uu):Option aq:=if b:a.ctorIdx=5 then Const.str.elim (motive:=λc=>Option aq) a b J else D
noncomputable def C7 (a:am):Bool:=zp a (λb c c=>yo b==J "big") ap
noncomputable def sS (b:aX):Option Int:=aX.casesOn (motive_1:=λa=>Option Int) b (λa=>D) tg (λa a=>D) (λa a a=>D) (λa a a=>D) (λa a=>D) (λa a=>D) (λa=>D) (λa a a=>D) (λa a=>D) (λa a a=>D) (λa=>D) (λa=>D) D (λa a=>D) (λa a=>D) (λa a=>D) (λa a=>D) (λa a=>D) (λa a a=>D) (λa a a=>D) (λa a=>D) (λa=>D) (λa a a=>D) (λa=>D)
noncomputable def yU (a:List qj):Option (aq×am):=(iR a).bind λq=>eD (q.ifs.isEmpty&&q.is_async==0) ((ne q.target).map λx=>(x,q.iter))
theorem oa {b:am}{x:aq}:ne b=J x->∃a,b=.Name x a:=v7 (P:=λb d=>d=J x->∃a,b=.Name x a) (λe a c=>⟨a,congrArg (Expr.Name · a)<|dr c⟩) λc=>nomatch c
theorem HJ {c:am}{q:Option am×Option am}:B2 c=J q->∃b,c=.Slice q.1 q.2 D b:=ZL (P:=λc e=>e=J q->∃b,c=.Slice q.1 q.2 D b) (λd d f b=>FG f (λa=>⟨b,by exact aY (dr a ..)<|rfl⟩) λd a=>nomatch a) λa=>nomatch a
theorem SS {a:uu}{c:aq}(b:yo a=J c):a=.str c:=if q:a.ctorIdx=5 then Const.str.elim (motive:=λa=>yo a=J c->a=.str c) a q (λd b=>congrArg Const.str<|dr b) b else nomatch(dif_neg q:yo a=D).symm.trans b
theorem gO {c:Type}{i:c}{a:Prop}(b:D=J i):a:=nomatch b
theorem yn {b:aX}{i:Int}:sS b=J i->b=.ab (.I i):=aX.casesOn (motive_1:=λb=>sS b=J i->b=.ab (.I i)) b (λa=>gO) (λa c=>congrArg aX.ab<|vR c) (λa a=>gO) (λa a a=>gO) (λa a a=>gO) (λa a=>gO) (λa a=>gO) (λa=>gO) (λa a a=>gO) (λa a=>gO) (λa a a=>gO) (λa=>gO) (λa=>gO) gO (λa a=>gO) (λa a=>gO) (λa a=>gO) (λa a=>gO) (λa a=>gO) (λa a a=>gO) (λa a a=>gO) (λa a=>gO) (λa=>gO) (λa a a=>gO) (λa=>gO)
theorem LB {b:am}:C7 b=ag->∃a pos,b=.Constant (.str "big") a pos:=DB (P:=λb d=>d=ag->∃a pos,b=.Constant (.str "big") a pos) (λe a pos c=>⟨a,pos,by exact SS (beq_iff_eq.mp c)<|>rfl⟩) λc=>nomatch c
theorem Lj {d:Type}{a:Bool}{x:Option d}{c:d}:eD a x=J c->a=ag/\x=J c:=match a with
 |true=>λb=>⟨rfl,b⟩|false=>λb=>nomatch b
theorem Xj {e:List qj}{q:aq×am}(b:yU e=J q):∃c,e=[⟨.Name q.1 c,q.2,[],0⟩]:=by refine aU (lm.mp b) λl h b=>?_;obtain⟨m,n,g,a⟩:=l;refine bW (Lj b) λi b=>aU (fw.mp b) λx d f=>?_;clear b;subst f;exact aW (oa d) λc d=>bW (lg.mp i) λj k=>⟨c,by exact V (mC h ..)<|V (show m=.Name x c from d)<|V (show g=[]from jZ.mp j)<|V (show a=0 from beq_iff_eq.mp k)<|rfl⟩
theorem Lk {b:List qj}{q:aq×am}(c:yU b=J q){a:Prop}(d:∀e,b=[⟨.Name q.1 e,q.2,[],0⟩]->a):a:=aW (Xj c) d
noncomputable def CT:List (aq×lt):=[("len",.aH),("bytes",.aA),("bytearray",.yA),("max",.vX),("min",.vY),("sum",.rv),("sorted",.pW),("list",.jS),("int",.I)]
noncomputable def CS (x:aq):Option lt:=CT.lookup x
noncomputable def IA:List ((aq×Nat)×kk):=[(("append",1),.eA),(("extend",1),.yQ),(("reverse",0),.wl),(("pop",0),.zL),(("pop",1),.yL),(("get",2),.hv),(("join",1),.np)]
theorem zf {c f:Type} [BEq c] [LawfulBEq c]{e:c}{a:f}:∀{l:List (c×f)},l.lookup e=J a->(e,a)∈l
 |[],b=>nomatch b|(g,v)::h,b=>by
  rw[jD]at b;cases d:e==g with
  |true=>rw[d]at b;refine V (beq_iff_eq.mp d ..)<|aY (dr b ..)<|?_;exact .head _|false=>rw[d]at b;exact .tail _ (zf b)
noncomputable def Iz (x:aq)(a:Nat):Option kk:=IA.lookup (x,a)
noncomputable def Nh (l c:aX):Option aX:=(sS l).bind λa=>(sS c).bind λb=>eD (dk (0<=a/\a<=16/\0<=b/\b<=64)) (J<|.ab<|.I<|a^b.toNat)
noncomputable def Mm (b:aX):Option aX:=(sS b).map λa=>.ab (.I (-a))
noncomputable def lG (c:cA)(a:g1)(x:aq):cA:={gG:=a.names,gi:=(x,c.gq)::c.gi,gq:=c.gq+1}
noncomputable def mi (c:cA)(b:g1)(x:aq):Bool:=b.kind==.function&&!b.isGenerator&&!b.isCoroutine&&b.names.all (λa=>(a.2==.local&&(a.1==".0"||a.1==x))||(a.2==.free&&a.1 !=x&&(c.gG.lookup a.1==J .cell)&&(c.gi.lookup a.1).isSome)||a.2==.globalImplicit)&&b.names.lookup x==J .local&&(c.gi.lookup (".0":aq)).isNone&&c.gi.all (λy=>dk (y.2<c.gq))&&x !=".0"&&x !="__debug__"&&(b.names.map (·.1)).eraseDups.length==b.names.length
noncomputable def LL (d:g1)(x:aq)(b:am):Bool:=ts b (λc a ks e=>ne c==J "int"&&((iR a).bind ne==J x)&&ks.isEmpty&&d.names.lookup ("int":aq)==J .globalImplicit) ap
noncomputable def nD (b:am->Option aX):List am->Option iF
 |[]=>J .L|c::d=>(b c).bind λa=>(nD b d).map (.Y a)
noncomputable def tK (b:am->Option aX)(d:aX->aX->aX):List am->Option aX
 |[]=>D|c::e=>cond e.isEmpty (b c) ((b c).bind λa=>(tK b d e).map<|d a)
noncomputable def tL (b:am->Option aX):Option am->Option aX
 |none=>J (.ab .bE)|some a=>b a
noncomputable def IW:uu->Option aX
 |.none=>J (.ab .bE)|.bool a=>J (.ab<|.bs a)|.int i=>J (.ab<|.I i)|.bytes a=>eD a.isEmpty (J<|.ab<|.aA [])|_=>D
noncomputable def NL (d:kv)(x:aq)(c:List am)(b:am->Option aX):Option aX:=(d.fX.lookup x).elim ((d.lB.lookup x).elim ((iR c).elim ((nH c).bind λq=>(b q.1).bind λf=>(b q.2).bind λe=>cond (x=="max") (J<|.i6 f e)<|eD (x=="min")<|J<|.vZ f e) λa=>(CS x).bind λg=>(b a).map<|.bt g) λi=>(nD b c).map<|.dP i) λi=>(nD b c).map (.aN i)
noncomputable def NK (f:kv)(e:am)(x:aq)(b:List am)(a:am->Option aX):Option aX:=(Iz x b.length).elim ((f.ri.lookup x).bind λd=>(a e).bind λc=>(nD a b).map<|.be c d) λd=>(a e).bind λc=>(nD a b).map (.eC d c)
noncomputable def Np (c:cA)(b:am):Option (List am):=ts b (λd a ks e=>eD (ne d==J "range"&&c.fC "range"&&ks.isEmpty)<|J a) D
noncomputable def aaK (b:am->Option aX):List am->Option l5
 |[]=>D|a::c=>(b a).bind λx=>cond c.isEmpty (J<|.hC x) ((iR c).elim ((nH c).bind λq=>(b q.1).bind λy=>(b q.2).map<|.wn x y) λd=>(b d).map<|.zP x)
noncomputable def y7 (c:cA)(b:am->Option aX)(a:am):Option l5:=(Np c a).elim ((b a).map .fu) (aaK b)
noncomputable def Mq (a:kv)(c:cA)(x:aq):Option aX:=eD (x !="__debug__"&&x !="__classdict__") ((c.fr x).elim (eD (c.fC x)<|(a.q3.lookup x).map .ab) λi=>J<|.X i)
noncomputable def HQ (f:kv)(c:cA)(d:am->Option aX)(b:List am)(pos:a5)(h:am):Option aX:=v3 h (λe x g=>eD (g.endLine==pos.line&&dk (b.length<30))<|cond (x=="to_bytes") ((nH b).bind λq=>eD (C7 q.2)<|(d e).bind λa=>(d q.1).bind λj=>(sS j).bind λj=>eD (dk (0<=j))<|J<|.ry a j.toNat)<|cond (x=="from_bytes") ((ne e).bind λi=>(nH b).bind λq=>eD (C7 q.2&&i=="int"&&c.fC "int")<|(d q.1).map .zv)<|NK f e x b d) D
noncomputable def NY (j:kv)(b:cA->am->Option aX)(c:cA)(d:am):Option aX:=tv d (λx e=>Mq j c x)<|zp d (λz e e=>IW z)<|v3 d (λg a e=>(b c g).bind λd=>(j.mf.lookup a).map<|.aK d)<|Dy d (λl f m e=>(b c l).bind λa=>(b c m).bind λh=>cond (f==.Pow) (Nh a h)<|(s2 f).map λg=>.an g a h)<|DL d (λf x e=>(b c x).bind λa=>cond (f==.Not) (J<|.gP a)<|eD (f==.USub)<|Mm a)<|DA d (λl A C e=>(iR A).bind λf=>(iR C).bind λm=>(b c l).bind λa=>(b c m).bind λh=>(yH f).map λg=>.a7 g a h)<|Dz d (λf p e=>tK (b c) (cond (f==.And) .hG .hd) p)<|DG d (λo a h e=>(b c o).bind λo=>(b c a).bind λa=>(b c h).map<|.iN o a)<|zt d (λg i e=>(b c g).bind λa=>(B2 i).elim ((b c i).map<|.as a) λq=>(tL (b c) q.1).bind λl=>(tL (b c) q.2).map<|.eF a l)<|tw d (λk e e=>eD (dk (k.length<30))<|(nD (b c) k).map .ce)<|DI d (λk e=>(nD (b c) k).map .ah)<|DC d (λks p e=>eD (ks.isEmpty&&p.isEmpty)<|J .vC)<|ts d (λt r ks pos=>eD ks.isEmpty<|(ne t).elim (HQ j c (b c) r pos t) λx=>eD (c.fC x&&x !="range"&&x !="super")<|NL j x r<|b c)<|zs d (λs y n e=>(yU y).bind λq=>eD (mi c n q.1)<|cond (LL n q.1 s) ((b c q.2).map .oo)<|(b (lG c n q.1) s).bind λd=>(y7 c (b c) q.2).map<|.jr d c.gq) D
noncomputable def mz (a:Nat):Bool:=[0,2,3,5,6,8,15,16,19,20,21,23,24,25].contains a
noncomputable def fE (a:kv):Nat->cA->am->Option aX
 |0=>λc c=>D|b+1=>NY a (fE a b)
noncomputable def tp (b:am):Bool:=zs b (λa a a a=>ap) ag
noncomputable def EL (a:am):Bool:=tw a (λb c c=>!(b.all<|QM 8)) (tp a)
noncomputable def Da (b:am):Bool:=ts b (λa a a a=>ag) ap
noncomputable def jV (c:cA):List am->Option (List Nat)
 |[]=>J []|b::a=>(ne b).bind λx=>eD (x !="__debug__") ((c.fr x).bind λi=>(jV c a).map (i::·))
noncomputable def Od (n:kv)(c:cA)(b:am->Option aX)(v e:am):Option na:=tv e (λx f=>(c.fr x).bind λi=>(b v).map<|.aE i)<|tw e (λm f f=>(jV c m).bind λd=>(b v).bind λh=>eD (d.eraseDups.length==d.length&&EL v)<|J<|.e0 d h)<|zt e (λk i f=>eD (tp v)<|(b v).bind λg=>(b k).bind λa=>(B2 i).elim ((b i).map λi=>.as a i g) λq=>(tL b q.1).bind λl=>(tL b q.2).map λj=>.eF a l j g) D
noncomputable def oA (b:dC->Option na):List dC->Option b2
 |[]=>J .L|d::c=>(b d).bind λa=>(oA b c).map (.Y a)
noncomputable def K3 (c:cA)(d:l5)(b:b2)(e:am):Option na:=tv e (λx f=>eD (x !="__debug__")<|(c.fr x).map λi=>.bD ap [i] d b)<|tw e (λg f f=>(jV c g).bind λa=>eD (a.eraseDups.length==a.length)<|J<|.bD ag a d b) D
noncomputable def NZ (m:kv)(c:cA)(g:am->Option aX)(j:dC->Option na)(e:dC):Option na:=zU e (λo v d=>(iR o).bind<|Od m c g v)<|D3 e (λb l v d=>(ne b).bind λx=>(c.fr x).bind λi=>eD (l==.Add||l==.RShift)<|(s2 l).bind λh=>(g v).map<|.od i h)<|D4 e (λv d=>eD (Da v)<|(g v).map .bX)<|zW e (λb a f d=>(g b).bind λb=>(oA j a).bind λa=>(oA j f).map<|.bJ b a)<|Ea e (λb f h d=>eD h.isEmpty<|(g b).bind λb=>(oA j f).map<|.iA b)<|D5 e (λb k f h d=>eD h.isEmpty<|(y7 c g k).bind λk=>(oA j f).bind λf=>K3 c k f b)<|D7 e (λn d=>(tL g n).map .aI)<|D6 e (λd d d=>J .f7) D
noncomputable def ww (a:kv)(c:cA):Nat->dC->Option na
 |0=>λd=>D|b+1=>NZ a c (fE a b c) (ww a c b)
noncomputable def wv (a:kv)(c:cA)(b:Nat):List dC->Option b2:=oA (ww a c b)
noncomputable def SR (c:cA)(b:am):Option aq:=v3 b (λd a f=>(ne d).bind λe=>eD (c.fr e==J 0)<|J a) D
noncomputable def oB (b:kv)(c:cA)(e:am->Option aX)(f:dC):Option (Nat×aX):=zU f (λh v j=>(iR h).bind λg=>(SR c g).bind λa=>(b.mf.lookup a).bind λi=>(e v).map λd=>(i,d)) D
noncomputable def NJ (e:kv)(c:cA)(b:am->Option aX)(a:dC):Option (Option aX×Nat×aX):=zW a (λd f g h=>eD g.isEmpty<|(iR f).bind λa=>(b d).bind λd=>(oB e c b a).map λq=>(J d,q)) ((oB e c b a).map λq=>(D,q))
noncomputable def nE (b:kv)(c:cA)(d:Nat):List dC->Option (List<|Option aX×Nat×aX)
 |[]=>J []|f::e=>(NJ b c (fE b d c) f).bind λa=>(nE b c d e).map (a::·)
noncomputable def Db (a:j4):Bool:=a==.local||a==.cell
noncomputable def i7 (a:g1):cA:={gG:=a.names,gi:=((a.names.filter<|λx=>Db x.2).map (·.1)).zipIdx,gq:=(a.names.filter<|λx=>Db x.2).length}
end
section
open PySem PySem.W PySem.Calls PyProof.Rows
variable{d a8:Value->Shared->Prop}{o d8 e8:Heap}{H:O->w->Prop}{W m8 n8:Nat}{e j8 k8:List Value}{g r8:List O}{t A8 B8:Expr}{N x8:List Expr}{z u8:Result->Shared->Prop}{G S8 T8 U8:aX}{K G8 H8:Shared}{r J8:Addr}{R:List (Nat×O)}{Q:List (Int×Value)}{n:Model}{f:Unit->Shared->Prop}{F p9:Prop}{M V8:List Nat}{P:Option Value->Shared->Prop}{b:List DictEntry}{j y9:Value}{E:PySem.Flow->Shared->Prop}{l s9:String}{y H9:Scope}{i:Value×List Value->Shared->Prop}{S T9:Tok}{C E9:w->Prop}{x B9:FuncData}{q c':Int}{c Z9:Obj}{a W9:List UInt8}{m N9:w->(O->w->Prop)->Prop}{p Q9:Str->Option NameKind}{Z:Pos}{s:w}{A l' m':List Stmt}{f':Option (Array UInt8)->Shared->Prop}{i':PySem.Env}{o':Array Value}{r':List (Int×Int)}
noncomputable def cd:kv where
 fX:=[(aR "put_varint",0),(aR "get_varint",1),(aR "signed",2),(aR "two_at",3),(aR "four_at",4),(aR "put_two",5),(aR "put_four",6),(aR "four_octets",7),(aR "is_leaf",8),(aR "is_rows",9),(aR "head_size",10),(aR "max_local",11),(aR "min_local",12),(aR "local_size",13),(aR "read_cell",14),(aR "cost",15),(aR "total",16),(aR "base_of",17),(aR "capacity",18),(aR "child_of",19),(aR "with_child",20),(aR "leaf_rowid",21),(aR "read_content",22),(aR "fits",23),(aR "write_content",24),(aR "is_thin",25),(aR "first_ends",26),(aR "starts_of",27),(aR "evened",28),(aR "shared_out",29),(aR "window",30),(aR "gathered",31),(aR "made_contents",32),(aR "made_middles",33),(aR "numbers_for",34),(aR "share_neighbours",35),(aR "settle_root",36),(aR "balance",37),(aR "put_raw",38),(aR "settle",39),(aR "number_at",40),(aR "four",41),(aR "chain_length",42),(aR "write_chain",43),(aR "look_at_link",44),(aR "read_chain",45),(aR "chain_of_size",46),(aR "free_chain",47),(aR "free_rest",48),(aR "payload_of",49),(aR "made_cell",50),(aR "first_place",51),(aR "find_rowid",52),(aR "insert_row",53),(aR "delete_row",54),(aR "_law_pool",55),(aR "_law_take",56),(aR "_law_rowid",57),(aR "_law_record",58),(aR "_law_changed",59),(aR "_law_leaves",60),(aR "law",61),(aR "is_leaf_node_view",8),(aR "is_rows_node_view",9)]
 lB:=[(aR "Cell",0),(aR "Node",1),(aR "Content",2),(aR "Trees",3),(aR "PageStore",4)]
 q3:=[(aR "HEADER_SIZE",.I 32),(aR "WORD",.I 18446744073709551616),(aR "INNER_KEYS",.I 2),(aR "INNER_ROWS",.I 5),(aR "LEAF_KEYS",.I 10),(aR "LEAF_ROWS",.I 13),(aR "KINDS",.ce [.I 2,.I 5,.I 10,.I 13]),(aR "LEAST_CELL",.I 4),(aR "POINTER",.I 2),(aR "NEIGHBOURS",.I 3),(aR "MOST_FRAGMENTS",.I 57),(aR "CHAIN_HEAD",.I 4),(aR "MOST_DEPTH",.I 50)]
 mf:=[(aR "child",0),(aR "rowid",1),(aR "size",2),(aR "local",3),(aR "overflow",4),(aR "data",5),(aR "page",6),(aR "usable",7),(aR "base",8),(aR "kind",9),(aR "raws",10),(aR "right",11),(aR "pager",12),(aR "free",13),(aR "changes",14),(aR "page_size",15),(aR "pages",16),(aR "spare",17)]
 ri:=[(aR "rest",0),(aR "octets",1),(aR "kind",2),(aR "is_leaf",3),(aR "is_rows",4),(aR "count",5),(aR "pointers",6),(aR "content",7),(aR "fragments",8),(aR "right",9),(aR "place",10),(aR "cell",11),(aR "raw",12),(aR "raws",13),(aR "rowid",14),(aR "child",15),(aR "children",16),(aR "blocks",17),(aR "set_right",18),(aR "clear",19),(aR "gap",20),(aR "set_blocks",21),(aR "room",22),(aR "is_sparse",23),(aR "take_block",24),(aR "allocate",25),(aR "put_all",26),(aR "insert",27),(aR "remove",28),(aR "give_back",29),(aR "usable",30),(aR "node",31),(aR "new_node",32),(aR "save",33),(aR "touch",34),(aR "deeper",35),(aR "page_count",36),(aR "read_page",37),(aR "write_page",38),(aR "extend",39),(aR "take",40),(aR "give",41)]
noncomputable def ep (a:Nat):aq:=((cd.mf[a]?).map (·.1)).getD ""
structure bj where
 cT:ln
 c2:gC
 d1:aT
 dF:jI
 mu:aq->Option af
 ze:aq->Option af
 d4:Nat->bm
 iK:Nat->bm
variable{h:bj}
noncomputable def hH (c:Nat):List Nat:=((gu[c]?).map λa=>a.kZ.map (·.2.1)).getD []
abbrev bi:=bm->Prop
variable{k v9:bi}
abbrev eB (a:List UInt8):gr:={cls:=.type "bytearray",data:=.bytearray a.toArray 0}
def z5 (d:gr):Prop:=∃a c,d.data=.dict a c/\∃b∈a.toList,∃x e,b.key=.str x e
def kq (a:gr):Prop:=a.cls=.type "tuple"\/(∃C,a.cls=.ref C)\/z5 a
inductive dz {c d:Type} (b:c->d->Prop):List c->List d->Prop
 |L:dz b [] []
 |Y {a:c} {e:d} {l:List c} {f:List d}:b a e->dz b l f->dz b (a::l) (e::f)
def oC {b:Type}(a:b->Prop)(e:List b->Prop)(f:List b):Prop:=∃d c,f=d::c/\a d/\e c
def tY (g:bi)(e:aT)(d:List af->Prop)(v:af):Prop:=∃a b c f,v=.ref a/\¬g a/\e.get? a=J b/\b.cls=.type "tuple"/\b.data=.seq c.toArray f/\c.length<=b5/\d c
def tW (g:bj)(f:bi)(e:aT)(c:Nat)(i:List (Nat×O))(h:List f4->Prop)(v:af):Prop:=∃a b d j,v=.ref a/\¬f a/\¬f b/\e.get? a=J (ka (g.d4 c) b)/\e.get? b=J (j6 d j)/\d≠[]/\i.all (λx=>(hH c).contains x.1)=ag/\h d
def tX (c:bj)(d:List af->Prop)(v:af):Prop:=∃a b e,v=.ref a/\c.d1.get? a=J (g2 b.toArray e)/\b.length<=4*b5/\d b
def Af (c:bj)(b:Nat)(d:af->Prop)(a:f4):Prop:=(∃e,a.key=.str (ep b) e)/\a.hash=rZ c.c2.params (ep b)/\d a.val
def aM (e:bj)(h:bi)(g:aT)(v:af)(x:O):Prop:=O.rec (motive_1:=λd=>af->Prop) (motive_2:=λd=>List af->Prop) (motive_3:=λd=>List f4->Prop) (motive_4:=λd=>f4->Prop) (λv=>v=.none) (λb v=>v=.bool b) (λi v=>∃f,v=.int i f) (λb v=>∃f,v=.bytes b.toArray f/\b.length<=4*b5) (λd b v=>tY h g b v) (λc k b v=>tW e h g c k b v) (λa v=>v=.ref a) (λa v=>v=.ref a) (λa v=>v=.ref a) (λd b v=>tX e b v) (λl=>l=[]) (λd d a b=>oC a b) (λl=>l=[]) (λd d a b=>oC a b) (λm d b j=>Af e m b j) x v
def BG (e:bj)(h:bi)(g:aT)(v:List af)(x:List O):Prop:=O.rec_1 (motive_1:=λd=>af->Prop) (motive_2:=λd=>List af->Prop) (motive_3:=λd=>List f4->Prop) (motive_4:=λd=>f4->Prop) (λv=>v=.none) (λb v=>v=.bool b) (λi v=>∃f,v=.int i f) (λb v=>∃f,v=.bytes b.toArray f/\b.length<=4*b5) (λd b v=>tY h g b v) (λc k b v=>tW e h g c k b v) (λa v=>v=.ref a) (λa v=>v=.ref a) (λa v=>v=.ref a) (λd b v=>tX e b v) (λl=>l=[]) (λd d a b=>oC a b) (λl=>l=[]) (λd d a b=>oC a b) (λm d b j=>Af e m b j) x v
def qz (e:bj)(h:bi)(g:aT)(v:List f4)(x:List (Nat×O)):Prop:=O.rec_2 (motive_1:=λd=>af->Prop) (motive_2:=λd=>List af->Prop) (motive_3:=λd=>List f4->Prop) (motive_4:=λd=>f4->Prop) (λv=>v=.none) (λb v=>v=.bool b) (λi v=>∃f,v=.int i f) (λb v=>∃f,v=.bytes b.toArray f/\b.length<=4*b5) (λd b v=>tY h g b v) (λc k b v=>tW e h g c k b v) (λa v=>v=.ref a) (λa v=>v=.ref a) (λa v=>v=.ref a) (λd b v=>tX e b v) (λl=>l=[]) (λd d a b=>oC a b) (λl=>l=[]) (λd d a b=>oC a b) (λm d b j=>Af e m b j) x v
def uQ (a:bj)(e:bi)(d:aT)(c:f4)(b:Nat×O):Prop:=Af a b.1 (λv=>aM a e d v b.2) c
def Rt (c:bj)(e:bi)(d:aT)(a:Int×af)(b:Int×O):Prop:=a.1=b.1/\aM c e d a.2 b.2
abbrev dc (a:bj)(c:bi)(b:aT):List af->List O->Prop:=dz (aM a c b)
abbrev ik (a:bj)(c:bi)(b:aT):List f4->List (Nat×O)->Prop:=dz (uQ a c b)
abbrev hn (a:bj)(c:bi)(b:aT):List (Int×af)->List (Int×O)->Prop:=dz (Rt a c b)
section
variable {Z:bj}{p:bi}{h:aT}
theorem dz.rl {a c:Type}{b:a->c->Prop}{l:List a}(q:dz b l []):l=[]:=by cases q;rfl
theorem dz.q2 {g c:Type}{b:g->c->Prop}{l:List g}{d:c}{e:List c}(q:dz b l (d::e)):∃a f,l=a::f/\b a d/\dz b f e:=by cases q;exact⟨_,_,rfl,by assumption,by assumption⟩
theorem tV {d:Type}{a e:d->Prop}{f g:List d->Prop}{h:List d}(k:∀c,a c->e c)(i:∀b,f b->g b)(q:oC a f h):oC e g h:=em q λc b j x y=>⟨c,b,j,k c x,i b y⟩
theorem Ae {g c:Type}{b:g->c->Prop}{l:List g}{d:c}{e:List c}:oC (λa=>b a d) (λf=>dz b f e) l↔dz b l (d::e):=⟨λq=>em q λi f h x y=>h▸.Y x y,dz.q2⟩
def kr (p d:bi)(h c:aT):Prop:=∀a b,¬p a->h.get? a=J b->kq b->¬d a/\c.get? a=J b
theorem kr.cf:kr p p h h:=λa a c b a=>⟨c,b⟩
section
variable {aG:bi}{cQ:aT}{v:af}{b jJ:List af->Prop}{d f5:List f4->Prop}{c:Nat}{GR:List (Nat×O)}
theorem EO (o:kr p aG h cQ)(i:∀e,b e->jJ e)(q:tY p h b v):tY aG cQ jJ v:=tt q λa d f r g j k c l m n=>bW (o a d j k<|.inl c) λs t=>⟨a,d,f,r,g,s,t,c,l,m,i f n⟩
theorem EM (j:kr p aG h cQ)(A:∀b e,d b->b≠[]->z5 (j6 b e))(i:∀k,d k->f5 k)(q:tW Z p h c GR d v):tW Z aG cQ c GR f5 v:=zr q λa d b e l m n o r f s g=>bW (j a _ m o<|.inr<|.inl ⟨_,rfl⟩) λt x=>bW (j d _ n r<|.inr<|.inr<|A b e g f) λy z=>⟨a,d,b,e,l,t,y,x,z,f,s,i b g⟩
theorem EN (i:∀c,b c->jJ c)(q:tX Z b v):tX Z jJ v:=k1 q λa d j e f g h=>⟨a,d,j,e,f,g,i d h⟩
end
theorem x7 {x:List O}:∀{v:List af},BG Z p h v x↔dc Z p h v x:=by
 induction x with
 |nil=>exactλ{v}=>⟨λd=>(show v=[]from d)▸.L,dz.rl⟩|cons x e c=>exact⟨λq=>Ae.mp<|tV (λb q=>q) (λb=>c.mp) q,λq=>tV (a:=λv=>aM Z p h v x) (λb q=>q) (λb=>c.mpr)<|Ae.mpr q⟩
theorem BA {x:List (Nat×O)}:∀{v:List f4},qz Z p h v x↔ik Z p h v x:=by
 induction x with
 |nil=>exactλ{v}=>⟨λd=>(show v=[]from d)▸.L,dz.rl⟩|cons x e c=>exact⟨λq=>Ae.mp<|tV (λb q=>q) (λb=>c.mp) q,λq=>tV (a:=λv=>uQ Z p h v x) (λb q=>q) (λb=>c.mpr)<|Ae.mpr q⟩
theorem ik.vT (c:ik Z p h b R)(d:b≠[]):z5 (j6 b W):=by
 cases c with
 |L=>exact absurd rfl d|Y a=>exact aW a.1 λe a=>⟨_,_,rfl,_,List.mem_cons_self ..,_,e,a⟩
theorem qz.vT (a:List f4)(c:Nat)(b:qz Z p h a R)(d:a≠[]):z5 (j6 a c):=ik.vT (BA.mp b) d
theorem aM.bE:aM Z p h .none .bE:=rfl
theorem aM.bs (a:Bool):aM Z p h (.bool a) (.bs a):=rfl
theorem aM.I (i:Int)(a:fy):aM Z p h (.int i a) (.I i):=⟨a,rfl⟩
theorem aM.aA (a:List UInt8)(b:fy)(l:a.length<=4*b5):aM Z p h (.bytes a.toArray b) (.aA a):=⟨b,rfl,l⟩
theorem aM.ce {a:bm}{d:gr}{c:List af}{e:List O}{n:Nat}(f:¬p a)(g:h.get? a=J d)(i:d.cls=.type "tuple")(j:d.data=.seq c.toArray n)(k:c.length<=b5)(l:dc Z p h c e):aM Z p h (.ref a) (.ce e):=EO (b:=λc=>dc Z p h c e) .cf (λm=>x7.mpr) ⟨a,d,c,n,rfl,f,g,i,j,k,l⟩
theorem aM.gd {a d:bm}{b:List f4}{f c:Nat}{e:List (Nat×O)}(i:¬p a)(j:¬p d)(k:h.get? a=J (ka (Z.d4 c) d))(l:h.get? d=J (j6 b f))(m:b≠[])(n:e.all (λx=>(hH c).contains x.1)=ag)(o:ik Z p h b e):aM Z p h (.ref a) (.gd c e):=EM (d:=λb=>ik Z p h b e) .cf (λg g=>ik.vT) (λg=>BA.mpr) ⟨a,d,b,f,rfl,i,j,k,l,m,n,o⟩
theorem aM.ah (a:bm):aM Z p h (.ref a) (.ah a):=rfl
theorem aM.br (a:bm):aM Z p h (.ref a) (.br a):=rfl
theorem aM.fB (a:bm):aM Z p h (.ref a) (.fB a):=rfl
theorem aM.fP {a:bm}{c:List af}{d:List O}{n:Nat}(e:Z.d1.get? a=J (g2 c.toArray n))(f:c.length<=4*b5)(g:dc Z p h c d):aM Z p h (.ref a) (.fP d):=EN (b:=λc=>dc Z p h c d) (λi=>x7.mpr) ⟨a,c,n,rfl,e,f,g⟩
theorem t0 {v:af}{a:Bool}(q:aM Z p h v (.bs a)):v=.bool a:=q
theorem afA {v:af}{i:Int}(q:aM Z p h v (.I i)):∃a,v=.int i a:=q
theorem wB {v:af}{i:Int}(q:aM Z p h v (.I i))(a:∀b,v=.int i b->F):F:=aW (afA q) a
theorem afx {v:af}{i:List UInt8}(q:aM Z p h v (.aA i)):∃a,v=.bytes i.toArray a/\i.length<=4*b5:=q
theorem ER {v:af}{i:List UInt8}(q:aM Z p h v (.aA i))(a:∀b,v=.bytes i.toArray b->i.length<=4*b5->F):F:=aU (afx q) a
theorem afB {v:af}(q:aM Z p h v .bE):v=.none:=q
theorem Ai {v:af}{a:Nat}(q:aM Z p h v (.ah a)):v=.ref a:=q
theorem afw {v:af}{a:Nat}(q:aM Z p h v (.br a)):v=.ref a:=q
theorem afy {v:af}{a:Nat}(q:aM Z p h v (.fB a)):v=.ref a:=q
section
variable {v:af}{x:O}{G:af->Prop}
@[elab_as_elim] theorem fc {i:Int}(a:x=.I i)(q:aM Z p h v x)(c:∀b,G (.int i b)):G v:=by subst a;exact wB q λb a=>a▸c b
@[elab_as_elim] theorem lc {i:List UInt8}(a:x=.aA i)(q:aM Z p h v x)(c:∀b,i.length<=4*b5->G (.bytes i.toArray b)):G v:=by subst a;exact ER q λb a l=>a▸c b l
@[elab_as_elim] theorem Ah {i:Bool}(a:x=.bs i)(q:aM Z p h v x)(b:G (.bool i)):G v:=by subst a;exact(t0 q).symm▸b
@[elab_as_elim] theorem Ag (a:x=.bE)(q:aM Z p h v x)(b:G .none):G v:=by subst a;exact(afB q).symm▸b
@[elab_as_elim] theorem kL {i:Nat}(a:x=.ah i)(q:aM Z p h v x)(b:G (.ref i)):G v:=by subst a;exact(Ai q).symm▸b
@[elab_as_elim] theorem afq {i:Nat}(a:x=.br i)(q:aM Z p h v x)(b:G (.ref i)):G v:=by subst a;exact(afw q).symm▸b
@[elab_as_elim] theorem tZ {i:Nat}(a:x=.fB i)(q:aM Z p h v x)(b:G (.ref i)):G v:=by subst a;exact(afy q).symm▸b
end
theorem wC {v:af}(q:aM Z p h v (.ce g)):tY p h (λa=>dc Z p h a g) v:=EO .cf (λb=>x7.mp) q
theorem ES {v:af}{c:Nat}(q:aM Z p h v (.gd c R)):tW Z p h c R (λa=>ik Z p h a R) v:=EM .cf qz.vT (λb=>BA.mp) q
theorem Om {v:af}(q:aM Z p h v (.fP g)):tX Z (λa=>dc Z p h a g) v:=EN (λb=>x7.mp) q
end
section
variable {α β:Type}{R GP:α->β->Prop}{l:List α}{m:List β}
theorem dz.bb (d:∀a b,R a b->GP a b)(q:dz R l m):dz GP l m:=by
 induction q with
 |L=>exact .L|Y a _ c=>exact .Y (d _ _ a) c
theorem dz.eE (q:dz R l m):l.length=m.length:=by
 induction q with
 |L=>rfl|Y _ _ a=>exact congrArg (·+1) a
theorem dz.ju (q:dz R l m):∀{j:Nat} {x:β},m[j]?=J x->∃v,l[j]?=J v/\R v x:=by
 induction q with
 |L=>exactλb=>nomatch b|@Y a c l m e q d=>exactλ{j} x b=>ey (motive:=λj=>(c::m)[j]?=J x->∃v,(a::l)[j]?=J v/\R v x) j (λb=>⟨a,rfl,dr b▸e⟩) (λj b=>d (j:=j) b) b
theorem dz.eA {b:List α}{c:List β}(q:dz R l m)(e:dz R b c):dz R (l++b) (m++c):=by
 induction q with
 |L=>exact e|Y a _ d=>exact .Y a d
theorem dz.pY (q:dz R l m):∀b,dz R (l.take b) (m.take b):=by
 induction q with
 |L=>exactλb=>by exact PL<|>PL<|>.L
 |Y a _ c=>exactλb=>ey b .L λb=>.Y a (c b)
theorem dz.Ky (q:dz R l m):∀b,dz R (l.drop b) (m.drop b):=by
 induction q with
 |L=>exactλb=>by exact Fd<|>Fd<|>.L
 |Y a q c=>exactλb=>ey b (.Y a q) λb=>c b
theorem dz.oz {c:α}{y:β}(e:R c y)(q:dz R l m):∀b,dz R (l.set b c) (m.set b y):=by
 induction q with
 |L=>exactλf=>.L|Y a q d=>exactλb=>ey b (.Y e q) λb=>.Y a (d b)
theorem dz.Nv (q:dz R l m):dz R l.reverse m.reverse:=by
 induction q with
 |L=>exact .L|Y a _ b=>exact qc<|>qc<|>b.eA (.Y a .L)
theorem dz.dp (q:dz R l m)(b a:Nat):dz R (dp l b a) (dp m b a):=(q.pY a).Ky b
theorem dz.ff {b:β}(q:dz R l [b]):∃a,l=[a]/\R a b:=em q.q2 λa d c x y=>⟨a,y.rl▸c,x⟩
theorem dz.hf {b c:β}(q:dz R l [b,c]):∃a d,l=[a,d]/\R a b/\R d c:=em q.q2 λa g e x y=>aU y.ff λd f y=>⟨a,d,f▸e,x,y⟩
end
section
variable {Z:bj}{p aG:bi}{h cQ:aT}
theorem aM.d7 (f:kr p aG h cQ){v:af}{x:O}:aM Z p h v x->aM Z aG cQ v x:=O.rec (motive_1:=λx=>∀v,aM Z p h v x->aM Z aG cQ v x) (motive_2:=λx=>∀v,BG Z p h v x->BG Z aG cQ v x) (motive_3:=λx=>∀v,qz Z p h v x->qz Z aG cQ v x) (motive_4:=λx=>∀e,uQ Z p h e x->uQ Z aG cQ e x) (λa q=>q) (λa a q=>q) (λa a q=>q) (λa a q=>q) (λa b a q=>EO f b q) (λa a b a q=>EM f qz.vT b q) (λa a q=>q) (λa a q=>q) (λa a q=>q) (λa b a q=>EN b q) (λa q=>q) (λa a c d a q=>tV c d q) (λa q=>q) (λa a c d a q=>tV c d q) (λa a b a q=>⟨q.1,q.2.1,b _ q.2.2⟩) x v
theorem dc.d7 (a:kr p aG h cQ){v x}(q:dc Z p h v x):dc Z aG cQ v x:=q.bb λb b=>aM.d7 a
theorem ik.d7 (a:kr p aG h cQ){v x}(q:ik Z p h v x):ik Z aG cQ v x:=q.bb λb b q=>⟨q.1,q.2.1,aM.d7 a q.2.2⟩
theorem hn.d7 (a:kr p aG h cQ){v x}(q:hn Z p h v x):hn Z aG cQ v x:=q.bb λb b q=>⟨q.1,aM.d7 a q.2⟩
theorem hn.Y {c:Int}{v:af}{x:O}{b:List (Int×af)}{d:List (Int×O)}(a:aM Z p h v x)(q:hn Z p h b d):hn Z p h ((c,v)::b) ((c,x)::d):=dz.Y ⟨rfl,a⟩ q
end
abbrev kp (a:bj):=intKind a.cT a.c2
def uY (c:bj)(e:bi)(d:aT)(a:Nat)(x:List O):Prop:=c.d1.get? a=D/\¬e a/\∃b f,d.get? a=J (g2 b.toArray f)/\b.length<=4*b5/\dc c e d b x
def uW (b:bj)(d:bi)(c:aT)(a:Nat)(x:List UInt8):Prop:=b.d1.get? a=D/\¬d a/\c.get? a=J (eB x)/\x.length<=4*b5
def uX (b:bj)(e:bi)(c:aT)(a:Nat)(x:List (Int×O)):Prop:=b.d1.get? a=D/\¬e a/\x.length<=4*b5/\∃d,c.DictOf (kp b) a d/\hn b e c d x
structure a3 (b:bj) (e:bi) (d:w) (c:aT):Prop where
 fs:∀a f,b.d1.get? a=J f->c.get? a=J f
 U:∀a x,d.U a=J x->uY b e c a x
 a4:∀a x,d.a4 a=J x->uW b e c a x
 aQ:∀a x,d.aQ a=J x->uX b e c a x
theorem GS {a c}(x:o.DictOf (kp h) a c)(g:∀b,o.get? a=J b->d8.get? a=J b):d8.DictOf (kp h) a c:=kF x λb e d f i=>⟨b,e,d,g b f,i⟩
section
variable {Z:bj}{p aG:bi}{h cQ:aT}{a:Nat}
theorem uY.d7 {x:List O}(d:kr p aG h cQ)(c:∀b,¬p a->h.get? a=J b->¬aG a/\cQ.get? a=J b)(q:uY Z p h a x):uY Z aG cQ a x:=hA q λf g l e i j k=>bW (c _ g i) λm n=>⟨f,m,l,e,n,j,k.d7 d⟩
theorem uW.d7 {x:List UInt8}(c:∀b,¬p a->h.get? a=J b->¬aG a/\cQ.get? a=J b)(q:uW Z p h a x):uW Z aG cQ a x:=ou q λd e f g=>bW (c _ e f) λi j=>⟨d,i,j,g⟩
theorem uX.d7 {x:List (Int×O)}(j:kr p aG h cQ)(d:∀b,¬p a->h.get? a=J b->¬aG a/\cQ.get? a=J b)(q:uX Z p h a x):uX Z aG cQ a x:=my q λl e m k f n=>⟨l,kF f λc c c i c=>(d _ e i).1,m,k,GS f λb g=>(d b e g).2,n.d7 j⟩
theorem a3.d7 {g:w}(e:a3 Z p g h)(i:∀a b,Z.d1.get? a=J b->h.get? a=J b->cQ.get? a=J b)(d:∀a b,¬p a->h.get? a=J b->¬aG a/\cQ.get? a=J b):a3 Z aG g cQ:=⟨λa b c=>i a b c<|e.fs a b c,λa x c=>(e.U a x c).d7 (λa b f c j=>d a b f c)<|d a,λa x c=>(e.a4 a x c).d7<|d a,λa x c=>(e.aQ a x c).d7 (λa b f c j=>d a b f c)<|d a⟩
end
theorem rs {f:Type}{e:Nat->Option f}{a b:Nat}{x y:f}(d:(if b=a then J x else e b)=J y):(b=a/\x=y)\/(b≠a/\e b=J y):=by
 by_cases c:b=a
 ·rw[if_pos c]at d;exact .inl ⟨c,dr d⟩
 ·rw[if_neg c]at d;exact .inr ⟨c,d⟩
def hZ (e:bi)(c d:aT):Prop:=∀a b,e a->c.get? a=J b->d.get? a=J b
def e3 (f:bj)(e:bi)(c d:aT):Prop:=∀a b,¬e a->kq b->c.get? a=J b->d.get? a=J b
def cV (c d:aT):Prop:=∀a b,c.get? a=J b->d.get? a=J b
theorem e3.eR (q:e3 h k o d8){v x}(a:aM h k o v x):aM h k d8 v x:=a.d7 λa d b c i=>⟨b,q a d b i c⟩
theorem e3.le (q:e3 h k o d8){v x}(a:dc h k o v x):dc h k d8 v x:=a.d7 λa d b c i=>⟨b,q a d b i c⟩
theorem e3.Va (q:e3 h k o d8){v x}(a:hn h k o v x):hn h k d8 v x:=a.d7 λa d b c i=>⟨b,q a d b i c⟩
theorem e3.Lb (q:e3 h k o d8){v x}(a:ik h k o v x):ik h k d8 v x:=a.d7 λa d b c i=>⟨b,q a d b i c⟩
theorem e3.cf:e3 h k o o:=λa a a a b=>b
theorem e3.ak (a:e3 h k o d8)(d:e3 h k d8 e8):e3 h k o e8:=λx c b i e=>d x c b i (a x c b i e)
theorem hZ.cf:hZ k o o:=λa a a b=>b
theorem hZ.ak (a:hZ k o d8)(c:hZ k d8 e8):hZ k o e8:=λx b q d=>c x b q (a x b q d)
theorem cV.d2 (b:cV o d8):e3 h k o d8:=λa d e e c=>b a d c
theorem cV.ca (b:cV o d8):hZ k o d8:=λa d e c=>b a d c
theorem cV.hB (a:aT)(b:gr):cV a (a.push b):=λd d c=>oV b c
theorem cV.ak (a:cV o d8)(c:cV d8 e8):cV o e8:=λx b d=>c x b (a x b d)
theorem cV.cf:cV o o:=λb b a=>a
theorem e3.Mf (q:e3 h k o d8):kr k k o d8:=λa d b c i=>⟨b,q a d b i c⟩
theorem a3.gv (d:a3 h k s o)(c:cV o d8):a3 h k s d8:=d.d7 (λa b g=>c a b) λa b f e=>⟨f,c a b e⟩
theorem a3.Md (e:a3 h k s o)(f:∀a c,¬k a->o.get? a=J c->¬v9 a):a3 h v9 s o:=e.d7 (λd d d b=>b) λa c g b=>⟨f a c g b,b⟩
theorem a3.nr (d:a3 h v9 s o)(e:∀a,k a->v9 a):a3 h k s o:=d.d7 (λc c c b=>b) λa g f b=>⟨λq=>f<|e a q,b⟩
theorem rm {c:Type}{a:Option c}(b:∀x,a=J x->False):a=D:=Option.eq_none_iff_forall_ne_some.mpr b
theorem a3.La (c:a3 h k s o){a:bm}(e:o.get? a=D):s.U a=.none:=rm λx q=>hA (c.U a x q) λb b b b d b=>nomatch e.symm.trans d
theorem a3.K7 (c:a3 h k s o){a:bm}(e:o.get? a=D):s.a4 a=.none:=rm λx q=>ou (c.a4 a x q) λb b d b=>nomatch e.symm.trans d
theorem a3.WX (c:a3 h k s o){a:bm}(e:o.get? a=D):s.aQ a=.none:=rm λx q=>my (c.aQ a x q) λb b b g f b=>kF f λb b b d b=>nomatch e.symm.trans d
theorem hJ (a:aT):a.get? a.objs.size=D:=rm λb q=>eI _ (nQ q)
theorem a3.nF (b:a3 h k s o){a:bm}(c:o.get? a=D):h.d1.get? a=D:=rm λd q=>nomatch c.symm.trans (b.fs a d q)
def pf (d:bi)(b:aT):Prop:=∀a,d a->∃c,b.get? a=J c
theorem pf.vK (l:pf k o):¬k o.objs.size:=λq=>by exact aW (l _ q) λb a=>nomatch(hJ o).symm.trans a
theorem pf.bb (l:pf k o)(c:hZ k o d8):pf k d8:=λa q=>aW (l a q) λb d=>⟨b,c a b q d⟩
abbrev b6:af->al->Prop:=λa a=>False
noncomputable def jq:j3->Bool
 |.builtin a _=>Qc.contains a||["bytearray.__contains__","bytearray.__mod__","bytearray.__rmod__","_struct.pack_into.held","bytearray.find.held"].contains a|_=>ap
def mZ (l:List (j3×a5)):Prop:=∀x∈l,jq x.1=ap
theorem mZ.Y {c:j3}{d:a5}{l:List (j3×a5)}(a:jq c=ap)(b:mZ l):mZ ((c,d)::l):=λx q=>by
 rcases dE.mp q with rfl|q
 ·exact a
 ·exact b x q
def B {d:Type}(f:fx)(e:cn)(k:cM d)(g:d->al->Prop)(i:al):Prop:=∀b h,b.In e->jq b.code=ap->mZ b.below->r0 f b k (λa c j=>g a j) (λc c c=>False) h i
def dD (d:fx)(b:cn)(c:j3)(e:jH->al->Prop)(g:al):Prop:=∀a f,a.code=c->a.Below b->mZ a.below->wpCode d a e f g
def qF (a:af->al->Prop):jH->al->Prop
 |.ok (.ret v),b=>a v b|_,_=>False
section
variable {α β:Type}{M:fx}{A:cn}{s:al}
theorem aB {m:cM α}{c:α->cM β}{b:β->al->Prop}(e:aS M A m (λa=>aS M A (c a) b d) d s):aS M A (m>>=c) b d s:=wpAny_bind e
theorem B.bk {c:cM α}{b:α->al->Prop}(d:aS M A c b b6 s):B M A c b s:=λg e a f f=>d g e a
theorem B.bb {b:cM α}{e f:α->al->Prop}(k:B M A b e s)(l:∀a h,e a h->f a h):B M A b f s:=λi g a j c=>uw M i b (λx d s=>l x s) (λd d d x=>x) g s (k i g a j c)
theorem B.cp {a:α}{c:α->al->Prop}(d:c a s):B M A (cr a) c s:=λb b b b b=>d
theorem B.aD {d:cM α}{h:α->cM β}{f:β->al->Prop}(k:B M A d (λa=>B M A (h a) f) s):B M A (d>>=h) f s:=λe i a g c=>by exact r1<|>uw M e d (λx l m b=>b e l a g c) (λj j j b=>b) i s (k e i a g c)
theorem B.b7 {b:cM β}{a:β->al->Prop}(c:B M A b a s):B M A (ij Z>>=λd=>b) a s:=B.aD (B.bk<|Ro c)
theorem B.d5 {d:cM α}{b:α->al->Prop}(g:B M A d b s):B M A (kf e d) b s:=λi h a f c=>by exact Sem.wp_holding<|>g i h a f c
theorem B.tA {b:cM af}(g:B M A b d s):B M A (mU e b) d s:=λi h a f c=>by exact Sem.wp_operate<|>g i h a f c
theorem B.ox {t:cM α}{j:af->cM Unit}{e:α->al->Prop}(i:B M A t e s):B M A (t.onRaise j) e s:=λg f a h c=>by exact Sem.wp_onRaise<|>uw M g t (λb b b d=>d) (λb b b d=>d.elim) f s (i g f a h c)
theorem B.cX {b u:cM α}{a:α->al->Prop}(c:b=u)(d:B M A u a s):B M A b a s:=c▸d
theorem B.iN {c:Prop} [Decidable c]{a d:cM α}{b:α->al->Prop}(e:if c then B M A a b s else B M A d b s):B M A (if c then a else d) b s:=by split<;>simp_all-iota
theorem B.tH {c:j3}(m:A.handled=D)(i:dD M A c (λd k=>match d with|.ok h=>E h k|.error _=>False) s):B M A (run c D) E s:=λl b a f j=>by
 refine Sem.wp_run<|>?_;have e:=a.enter c D b (by intro x;cases x);have g:A.mark D=A:=by cases A;simp_all-iota [Around.mark]
 rw[g]at e;refine GM (λd s q=>?_) (i (l.enter c D b) b rfl e<|mZ.Y f j);cases d<;>exact q
theorem B.Nx {c:j3}(d:A.handled=D)(b:dD M A c (λe f=>match e with|.ok a=>E a f|.error _=>False) s):B M A (Q1 c i') E s:=by delta Q1;exact B.ox (B.tH d b)
theorem B.Ny {c:j3}(g:dD M A c (qF d) s):B M A (runValue c) d s:=λj b a e h=>by
 refine Sem.wp_runValue<|>GM (λi s q=>?_) (g (j.enter c D b) b rfl (a.enter c D b (by intro x;cases x))<|mZ.Y e h);rcases i with k|f
 ·exact q
 ·cases f<;>exact q
theorem B.aN {pos:List af}(a:dD M A (.call j ⟨pos,[]⟩) (qF d) s):B M A (dL j pos) d s:=B.Ny a
theorem dD.bb {c:j3}(f:dD M A c z s)(g:∀b s,z b s->u8 b s):dD M A c u8 s:=λi h a d e=>GM g (f i h a d e)
def uR (M:fx)(A:cn)(a:jH->al->Prop):qk->al->Prop
 |.done b,s=>a (.ok b) s|.again c,s=>c.quiet=ag/\dD M A c a s
theorem dD.jY {c:j3}(l:jq c=ap)(k:B M (A.under c) (M.den c) (uR M A z) s):dD M A c z s:=λd h b e g=>by
 rw[wpCode_iff_wp,b];refine uw M d _ (λj m o a=>?_) (λi i i a=>a.elim) h s (k d h (b▸e.in) (b▸l) g);induction j with
 |done n=>exact a|again f=>exact⟨a.1,a.2 (d.goto f) m rfl (e.goto f) g⟩
end
section
variable {Z:bj}{A:cn}{s:al}
abbrev aL (Z:bj):fx:=fh Z.cT Z.c2
theorem dD.Le {body:List dC}(c:B (aL Z) (A.deeper i') (lX body i') (λa b=>z (.ok<|.ret (match a with|.ret v=>v|_=>.none)) b) s):dD (aL Z) A (.func body i') z s:=by refine dD.jY rfl ?_;show B _ (A.deeper i') (do point;match<-(lX body i').onRaise (leaving i')with|.ret v=>ret v|_=>ret .none) _ _;refine B.aD (B.bk<|xm<|B.aD<|B.ox<|c.bb λa b d=>?_);cases a<;>exact B.cp d
theorem dD.Lf {a:bm}{args:nP}{body:List dC}(E:A.depth<Bk)(t:s.heap.get? a=J Z9)(p:Z9.data=.func x)(o:x.scope.isCoroutine=ap)(r:x.scope.isGenerator=ap)(l:x.body=.stmts body)(n:s.heap.CodeRec x.code x.qualname)(h:aS (aL Z) A.in1 (bindArgs x args) (λf k=>aS (aL Z) A.in1 (QY x.scope x.globals x.closure f (x.qualname++".<locals>.") (J a) x.code D x.builtins) (λg d=>d.heap.NoLimit/\dD (aL Z) A (.func body g) z d) b6 k) b6 s):dD (aL Z) A (.call (.ref a) args) z s:=by refine dD.jY rfl ?_;show B _ A.in1 (Gq (.ref a) args) _ _;refine B.bk (aB<|nS t ?_);refine kG n λc G K H i y q C=>V p<|?_;show aS _ _ (QH a x args) _ _ _;delta QH;rw[i]at h;refine V o<|V r<|V l<|V i<|aB (m:=field (.ref c) 1) (sa y q C<|aB<|ck ?_);exact aB (qt h (λf k F=>aB<|qt F (λg d j=>aB<|wpAny_enterFrame j.1 E<|ck<|aC rfl j.2) λe e b=>b) λe e b=>b)
theorem dD.afH {j body i a}(k:Nat->al->Prop)(q:∀d s,k d s->B (aL Z) A (mT j a<|c5 j a) (λl g=>
 if l then B (aL Z) A (lX body a) (λb c=>match b with
  |.next=>∃h,h<d/\k h c
  |.ret v=>z (.ok<|.ret v) c|_=>False) g else B (aL Z) A (lX i a) (λb c=>z (.ok b) c) g) s)(d:Nat)(m:k d s):dD (aL Z) A (.whileLoop j body i a) z s:=by
 induction d using AZ generalizing s with
 |ind d p=>
  refine dD.jY rfl ?_;show B _ A ((whileTurn j body i a).onRaise (λx=>do Bj x a;GD x)) _ _;refine B.ox ?_;delta whileTurn;refine B.aD ((q d s m).bb λl g e=>?_);induction l with
  |false=>have e:B (aL Z) A (lX i a) (λb c=>z (.ok b) c) g:=e;exact B.aD (e.bb λb c f=>B.cp f)|true=>
   have e:B (aL Z) A (lX body a) _ g:=e;refine B.aD (e.bb λb c f=>?_);induction b with
   |next=>refine aU f λh o n=>?_;exact B.cp ⟨rfl,p h o n⟩
   |cont=>exact f.elim|brk=>exact f.elim|ret v=>exact B.cp f
theorem dD.TL {stmts:List dC}(c:B (aL Z) A (lX stmts i') (λa b=>z (.ok a) b) s):dD (aL Z) A (.block stmts i') z s:=by refine dD.jY rfl ?_;show B _ _ (do return Fin.done (<-(lX stmts i').onRaise (λx=>do Bj x i';GD x))) _ _;exact B.aD (B.ox<|c.bb λa b d=>B.cp d)
end
noncomputable def s1:List (aq×af):=[("len",.builtin "len"),("range",.type "range"),("bytes",.type "bytes"),("bytearray",.type "bytearray"),("max",.builtin "max"),("min",.builtin "min"),("sum",.builtin "sum"),("sorted",.builtin "sorted"),("list",.type "list"),("int",.type "int")]
noncomputable def rk (a:Nat):aq:=((cd.ri[a]?).map (·.1)).getD ""
def GY (b:bj)(v:af)(x:O):Prop:=∀e c,(∀a d,b.d1.get? a=J d->c.get? a=J d)->(∀a,e a->b.d1.get? a=D)->aM b e c v x
structure hp (a:bj):Prop where
 i3:a.d1.Ns kQ a.mu
 b0:a.d1.Ns oZ a.ze
 q3:∀x v,cd.q3.lookup x=J v->∃val,a.mu x=J val/\GY a val v
 TF:∀x v,s1.lookup x=J v->a.mu x=D/\a.ze x=J v
 fX:∀x i,cd.fX.lookup x=J i->a.mu x=J (.ref<|a.iK i)
 lB:∀x i,cd.lB.lookup x=J i->a.mu x=J (.ref<|a.d4 i)
 zh:(a.d1.get? qq).isSome=ag
 Mv:a.d1.NoLimit
 ti:a.dF.In a.d1
structure eW (c:bj) (b:bi) (d:aT):Prop where
 cS:pf b d
 iq:∀a,b a->c.d1.get? a=D
theorem eW.bb (l:eW h k o)(a:hZ k o d8):eW h k d8:=⟨l.cS.bb a,l.iq⟩
structure dZ (g:bj) (e:bi) (c:cA) (b:dw) (k:bp) (d:aT):Prop where
 ee:b.scope.kind=.function
 nv:∀x f,c.gG.lookup x=J f->b.kindOf x=J f\/(f=.free/\b.kindOf x=J .cell)
 fC:b.globals=kQ
 s3:b.builtins=oZ
 iP:∃h,d.Ns b.locals h/\∀x i v,c.gG.lookup x=J .local->c.gi.lookup x=J i->k.b7 i=J v->∃val,h x=J val/\aM g e d val v
 lz:∀x i,(c.gG.lookup x=J .cell\/c.gG.lookup x=J .free)->c.gi.lookup x=J i->∃a j,b.cells.lookup x=J a/\d.IsCell a j/\
  ∀v,k.b7 i=J v->∃val,j=J val/\aM g e d val v
 pT:e b.locals
 tC:∀x a,b.cells.lookup x=J a->e a
 inj:∀x y i,c.gi.lookup x=J i->c.gi.lookup y=J i->x=y
noncomputable def hP (b:dw):bi:=λa=>a=b.locals\/∃x,b.cells.lookup x=J a
section
variable {Z:bj}{p aG:bi}{c:cA}{S:dw}{ρ bV:bp}{h cQ:aT}
theorem dZ.zF (d:dZ Z p c S ρ h){a:bm}(q:hP S a):p a:=q.elim (λb=>b▸d.pT) λq=>aW q λx b=>d.tC x a b
theorem MY (d:r≠S.locals)(c:∀y a,S.cells.lookup y=J a->a≠r){a:bm}(q:hP S a):a≠r:=q.elim (λb=>b▸d.symm) λq=>aW q λy b=>c y a b
theorem dZ.Me (b:dZ Z p c S ρ h)(n:∀a,hP S a->aG a)(d:∀a e,hP S a->h.get? a=J e->cQ.get? a=J e)(o:∀v x,aM Z p h v x->aM Z aG cQ v x)(l:∀i v,bV.b7 i=J v->ρ.b7 i=J v):dZ Z aG c S bV cQ:=⟨b.ee,b.nv,b.fC,b.s3,aU b.iP λC q k=>kF q λe t s j f=>⟨C,⟨e,t,s,d _ _ (.inl rfl) j,f⟩,λx i v a r g=>aU (k x i v a r<|l i v g) λval d f=>⟨val,d,o val v f⟩⟩,λx i z A=>em (b.lz x i z A) λa E m q k=>aU q λe j y=>⟨a,E,m,⟨e,d _ _ (.inr ⟨x,m⟩) j,y⟩,λv g=>aU (k v<|l i v g) λval d f=>⟨val,d,o val v f⟩⟩,n _<|.inl rfl,λx a q=>n _<|.inr ⟨x,q⟩,b.inj⟩
theorem dZ.d7 (b:dZ Z p c S ρ h)(g:∀a,p a->aG a)(e:∀a d,hP S a->h.get? a=J d->cQ.get? a=J d)(j:∀v x,aM Z p h v x->aM Z aG cQ v x)(f:∀i v,bV.b7 i=J v->ρ.b7 i=J v):dZ Z aG c S bV cQ:=b.Me (λa q=>g a<|b.zF q) e j f
theorem dZ.jz (a:dZ Z p c S ρ h){x:aq}(b:c.gG.lookup x=J .local):S.kindOf x=J .local:=(a.nv x _ b).elim id λq=>nomatch q.1
theorem dZ.IL (a:dZ Z p c S ρ h){x:aq}(b:c.gG.lookup x=J .cell):S.kindOf x=J .cell:=(a.nv x _ b).elim id λq=>q.2
theorem Em {x:aq}{i:Nat}(a:c.fr x=J i):c.gi.lookup x=J i/\(c.gG.lookup x=J .local\/c.gG.lookup x=J .cell\/c.gG.lookup x=J .free):=by
 delta cA.fr at a;cases q:c.gG.lookup x with
 |none=>rw[q]at a;cases a
 |some b=>
  rw[q]at a;cases b;case«local»=>exact⟨a,.inl rfl⟩
  case cell=>exact⟨a,.inr<|.inl rfl⟩
  case free=>exact⟨a,.inr<|.inr rfl⟩
  all_goals cases a
theorem dZ.ca (d:dZ Z p c S ρ h)(e:hZ p h cQ)(q:e3 Z p h cQ):dZ Z p c S ρ cQ:=d.d7 (λb q=>q) (λa f g=>e a f<|d.zF g) (λb b=>q.eR) λb b q=>q
end
structure dG (d:bj) (c:bi) (a b:al):Prop where
 cX:∃e f,b={a with heap:=e,toks:=f}
 ca:hZ c a.heap b.heap
 d2:e3 d c a.heap b.heap
theorem dG.cf {b:bj}{c:bi}{a:al}:dG b c a a:=⟨⟨a.heap,a.toks,rfl⟩,.cf,.cf⟩
theorem dG.ak (a:dG h k K G8)(b:dG h k G8 H8):dG h k K H8:=by refine fZ a.cX λf g c=>?_;subst c;refine fZ b.cX λd e c=>?_;subst c;exact⟨⟨d,e,rfl⟩,a.ca.ak b.ca,a.d2.ak b.d2⟩
theorem dG.gv {cQ:aT}{cx:Nat}(a:cV K.heap cQ):dG h k K {K with heap:=cQ,toks:=cx}:=⟨⟨cQ,cx,rfl⟩,a.ca,a.d2⟩
theorem dG.wz {cx:Nat}:dG h k K {K with toks:=cx}:=dG.gv (cQ:=K.heap) .cf
structure dh (a:bj) (b:bi) (c:cA) (e:dw) (g:bp) (f:w) (d:al):Prop where
 bK:a3 a b f d.heap
 bD:dZ a b c e g d.heap
 cS:eW a b d.heap
theorem dh.dV {c:cA}{e:bp}{d:w}(a:dh h k c i' e s K)(b:dG h k K G8)(f:a3 h k d G8.heap):dh h k c i' e d G8:=⟨f,a.bD.ca b.ca b.d2,a.cS.bb b.ca⟩
def c1 (a:bj)(b:bi)(e:O->w->Prop)(f:al)(v:af)(c:al):Prop:=∃d x,dG a b f c/\a3 a b d c.heap/\aM a b c.heap v x/\e x d
def RB (a:bj)(b:bi)(e:List O->w->Prop)(f:al)(v:List af)(c:al):Prop:=∃d x,dG a b f c/\a3 a b d c.heap/\dc a b c.heap v x/\e x d
def l6 (a:bj)(c:bi)(e:Bool->w->Prop)(g:al)(f:Bool)(d:al):Prop:=∃b,dG a c g d/\a3 a c b d.heap/\e f b
theorem c1.fL {v:af}(f:dG h k K G8)(q:c1 h k H G8 v H8):c1 h k H K v H8:=fb q λe x a b c d=>⟨e,x,f.ak a,b,c,d⟩
theorem l6.fL {b:Bool->w->Prop}{v:Bool}(f:dG h k K G8)(q:l6 h k b G8 v H8):l6 h k b K v H8:=eP q λe a c d=>⟨e,f.ak a,c,d⟩
theorem gt {h:Type}{b:cn}{g:cM h}{c e:h->al->Prop}(i:aS n b g c b6 K)(q:∀a f,c a f->e a f):aS n b g e d K:=qt i q λj j x=>x.elim
structure gE (b:Nat) (a:cn):Prop where
 jv:a.handled=D
 yK:a.depth+2*b+4<Bk
 EK:a.units+12*b+100<kd
def b4 (a:bj)(h:cn)(g:bi)(c:cA)(e:dw)(k:bp)(j:am)(i:w->(O->w->Prop)->Prop):Prop:=∀(b:al) (f:w) (d:O->w->Prop),dh a g c e k f b->i f d->B (aL a) h (c5 j e) (c1 a g d b) b
def jN (a:bj)(i:cn)(g:bi)(c:cA)(b:dw)(k:bp)(h:am)(j:w->(O->w->Prop)->Prop):Prop:=∀(d:al) (f:w) (e:Bool->w->Prop),dh a g c b k f d->j f (el e)->B (aL a) i (mT h b<|c5 h b) (l6 a g e d) d
def ho (a:bj)(j:cn)(h:bi)(c:cA)(e:dw)(m:bp)(f:List am)(k:w->(List O->w->Prop)->Prop):Prop:=∀(b:al) (g:w) (d:List O->w->Prop) (pos:a5),dh a h c e m g b->k g d->B (aL a) j (l0<|kc pos<|eJ f e) (λi l=>i.length=f.length/\RB a h d b i l) b
section
variable {Z:bj}{A:cn}{p:bi}{c:cA}{S:dw}{ρ:bp}{C:cG}
theorem fO {v:af}{x:O}(a:a3 Z p s K.heap)(b:aM Z p K.heap v x)(q:H x s):c1 Z p H K v {K with toks:=W}:=⟨s,x,.wz,a,b,q⟩
theorem lL {v:af}{x:O}(a:a3 Z p s K.heap)(b:aM Z p K.heap v x)(q:H x s):c1 Z p H K v K:=⟨s,x,.cf,a,b,q⟩
theorem CO {x:aq}{i:Nat}{v:O}(n:c.gG.lookup x=J .free->(x==("__classdict__":aq))=ap)(a:dh Z p c S ρ s K)(j:c.fr x=J i)(l:ρ.b7 i=J v)(g:∀val,aM Z p K.heap val v->d val K):aS (aL Z) A (loadName S x) d b6 K:=by refine bW (Em j) λj b=>b.elim (λb=>aU a.bD.iP λt o h=>aU (h x i v b j l) λval e f=>Rg a.bD.ee (a.bD.jz b) o e<|g _ f) λb=>em (a.bD.lz x i b j) λr y e k h=>aU (h v l) λval m f=>?_;clear h;subst m;exact b.elim (λb=>Rf a.bD.ee (a.bD.IL b) e k<|g _ f) λb=>(a.bD.nv x _ b).elim (λq=>wpAny_loadName_free a.bD.ee q e k (g _ f)<|n b) λq=>Rf a.bD.ee q.2 e k (g _ f)
theorem VY {x:aq}{pos:a5}{i:Nat}(e:(x==("__debug__":aq))=ap)(d:(x==("__classdict__":aq))=ap)(g:c.fr x=J i):b4 Z A p c S ρ (.Name x pos) (ao C (.X i) ρ):=λl k j a b=>gg b λv f b=>B.bk (GF (CO (λm=>d) a g f λval h=>lL a.bK h b) e)
theorem CZ {x:aq}(a:dZ Z p c S ρ o)(d:c.fC x=ag):S.kindOf x=J .globalImplicit:=by
 have q:c.gG.lookup x=J .globalImplicit:=by simpa [cA.fC]using d
 exact(a.nv x _ q).elim id λb=>nomatch b.1
theorem VU {x:aq}{pos:a5}{v:O}(b:hp Z)(f:(x==("__debug__":aq))=ap)(g:c.fC x=ag)(h:cd.q3.lookup x=J v):b4 Z A p c S ρ (.Name x pos) (ao C (.ab v) ρ):=by intro j l k a e;refine aU (b.q3 x v h) λval d i=>B.bk (FP a.bD.ee (CZ a.bD g) ?_ f);exact Qo (mg:=Z.mu) (by exact V (a.bD.fC ..)<|b.i3.keeps a.bK.fs) d (lL a.bK (i p j.heap a.bK.fs a.cS.iq) e)
theorem Co {x:aq}{pos:a5}{f:af}(b:hp Z)(a:dh Z p c S ρ s K)(i:(x==("__debug__":aq))=ap)(j:c.fC x=ag)(k:s1.lookup x=J f)(h:d f K):aS (fh Z.cT Z.c2) A (c5 (.Name x pos) S) d b6 K:=by refine bW (b.TF x f k) λe g=>FP a.bD.ee (CZ a.bD j) ?_ i;exact loadGlobal_builtin (mg:=Z.mu) (mb:=Z.ze) (by exact V (a.bD.fC ..)<|b.i3.keeps a.bK.fs) e (by exact V (a.bD.s3 ..)<|b.b0.keeps a.bK.fs) g h
theorem VS {pos:a5}:b4 Z A p c S ρ (.Constant .none W pos) (ao C (.ab .bE) ρ):=λf e d a b=>by exact B.cp (lL a.bK .bE b)
theorem VO {b:Bool}{pos:a5}:b4 Z A p c S ρ (.Constant (.bool b) W pos) (ao C (.ab<|.bs b) ρ):=λg f e a d=>by exact B.cp (lL a.bK (.bs b) d)
theorem VQ {i:Int}{pos:a5}:b4 Z A p c S ρ (.Constant (.int i) W pos) (ao C (.ab<|.I i) ρ):=λf e d a b=>by exact B.bk (wpAny_Constant_int<|fO a.bK (.I i _) b)
theorem VP {pos:a5}:b4 Z A p c S ρ (.Constant (.bytes []) W pos) (ao C (.ab<|.aA []) ρ):=λf e d a b=>by refine B.bk ?_;show aS _ _ (mkTextBytes<|([]:List UInt8).toArray) _ _ _;exact aB (wpAny_fresh<|ck<|fO a.bK (.aA [] _<|dB _) b)
theorem vH {l k:am}{h:O->O->w->Prop}{Q:af->af->al->Prop}(r:b4 Z A p c S ρ l m)(t:b4 Z A p c S ρ k N9)(a:dh Z p c S ρ s K)(z:m s λx s=>N9 s λy s=>h x y s)(C:∀v b x y j d,dG Z p K d->dh Z p c S ρ j d->aM Z p d.heap v x->aM Z p d.heap b y->h x y j->Q v b d):B (aL Z) A (c5 l S) (λv=>B (aL Z) A (c5 k S)<|λb f=>Q v b f) K:=by refine(r K s _ a z).bb λv P e=>fb e λE x n o M G=>?_;have i:=a.dV n o;exact(t P E _ i G).bb λb f e=>fb e λF y g q N H=>C v b x y F f (n.ak g) (i.dV g q) (g.d2.eR M) N H
end
section
variable {Z:bj}{A:cn}{p:bi}{s:al}{m:w}
theorem a3.Mo (d:a3 Z p m o)(l:eW Z p o)(f:cV o d8){a:bm}(j:o.get? a=D)(n:¬p a)(i:d8.get? a=J (g2 e.toArray W))(r:dc Z p o e g)(k:e.length<=4*b5):a3 Z p (m.a1 a g) d8:=by have b:=d.gv f;exact⟨b.fs,λh x q=>(rs q).elim (λc=>c.1▸c.2▸⟨d.nF j,n,e,W,i,k,f.d2.le r⟩) λc=>b.U h x c.2,b.a4,b.aQ⟩
theorem a3.Mn (d:a3 Z p m o)(l:eW Z p o)(e:cV o d8)(f:d8.get? o.objs.size=J (eB W9))(g:W9.length<=4*b5):a3 Z p (m.gh o.objs.size W9) d8:=by have b:=d.gv e;exact⟨b.fs,b.U,λa x q=>(rs q).elim (λc=>c.1▸c.2▸⟨d.nF<|hJ o,l.cS.vK,f,g⟩) λc=>b.a4 a x c.2,b.aQ⟩
theorem a3.hc (a:a3 Z p m o)(l:eW Z p o)(c:dc Z p o e g)(b:e.length<=4*b5):a3 Z p (m.a1 o.objs.size g) (o.push<|g2 e.toArray 0):=a.Mo l (cV.hB o _) (hJ o) l.cS.vK (ii _ rfl) c b
theorem Zz:¬kq (g2 o' W):=by
 rintro(a|⟨C,a⟩|⟨c,W,a,_⟩)
 ·injection a with b;exact absurd b (~~~_)
 ·cases a
 ·cases a
theorem Zy:¬kq (eB a):=by
 rintro(b|⟨C,b⟩|⟨d,e,b,_⟩)
 ·injection b with c;exact absurd c (~~~_)
 ·cases b
 ·cases b
theorem vi {a:bm}(d:hj a o d8):je a o d8:=λb _ e c=>(d.2 b e).trans c
theorem acT {a:bm}(g:je a o d8)(f:o.get? a=J c)(e:¬kq c):e3 Z p o d8:=λd x _ i b=>g d x (λq=>e<|dr (f.symm.trans<|q▸b)▸i) b
theorem acS {a:bm}(f:je a o d8)(e:¬p a):hZ p o d8:=λb x q d=>f b x (λc=>e<|c▸q) d
section
variable {h cQ:aT}{a:Nat}
theorem Ml (q:Z.d1.get? a=D)(d:Z.d1.get? W=J c):W≠a:=λb=>by subst b;exact nomatch q.symm.trans d
theorem a3.oz (g:a3 Z p m h)(t:Z.d1.get? a=D)(x:¬p a)(z:h.get? a=J c)(s:¬kq c)(i:je a h cQ){j:w}(o:∀b y,j.U b=J y->(b≠a/\m.U b=J y)\/(e3 Z p h cQ->uY Z p cQ b y))(l:∀b y,j.a4 b=J y->(b≠a/\m.a4 b=J y)\/(e3 Z p h cQ->uW Z p cQ b y))(n:∀b y,j.aQ b=J y->(b≠a/\m.aQ b=J y)\/(e3 Z p h cQ->uX Z p cQ b y)):a3 Z p j cQ/\hZ p h cQ/\e3 Z p h cQ:=by have e:e3 Z p h cQ:=acT i z s;have k:∀b,b≠a->∀c,¬p b->h.get? b=J c->¬p b/\cQ.get? b=J c:=λb r c q d=>⟨q,i b c r d⟩;exact⟨⟨λb c d=>i b c (Ml t d)<|g.fs b c d,λb y d=>(o b y d).elim (λq=>(g.U b y q.2).d7 e.Mf<|k b q.1) λf=>f e,λb y d=>(l b y d).elim (λq=>(g.a4 b y q.2).d7<|k b q.1) λf=>f e,λb y d=>(n b y d).elim (λq=>(g.aQ b y q.2).d7 e.Mf<|k b q.1) λf=>f e⟩,acS i x,e⟩
theorem to (f:h.get? a=J c)(i:∀d b,c≠g2 d b){R:a3 Z p m h}{y:List O}(q:m.U W=J y):W≠a:=λe=>hA (R.U W y q) λ_ _ d b g _ _=>i _ _ (dr<|f.symm.trans<|e▸g)
theorem Dq (d:h.get? a=J c)(f:∀W,c≠eB W){R:a3 Z p m h}{y:List UInt8}(q:m.a4 W=J y):W≠a:=λb=>ou (R.a4 W y q) λ_ _ e _=>f _ (dr<|d.symm.trans<|b▸e)
theorem Mj (f:h.get? a=J c)(k:∀b j,c.data≠.dict b j){R:a3 Z p m h}{y:List (Int×O)}(q:m.aQ W=J y):W≠a:=λe=>my (R.aQ W y q) λ_ _ _ n d _=>k1 d λo b l g _ i _=>k _ _ (dr (f.symm.trans<|e▸g)▸i)
theorem a3.a1 (R:a3 Z p m h){j x:List O}(n:m.U a=J j)(r:je a h cQ)(q:cQ.get? a=J (g2 e.toArray W))(s:dc Z p h e x)(o:e.length<=4*b5):a3 Z p (m.a1 a x) cQ/\hZ p h cQ/\e3 Z p h cQ:=hA (R.U a j n) λg i z t d _ _=>R.oz g i d Zz r (λf y b=>(rs b).elim (λc=>.inr λk=>c.1▸c.2▸⟨g,i,e,W,q,o,k.le s⟩) .inl) (λf y b=>.inl ⟨Dq (R:=R) d (λ_ l=>nomatch congrArg rY l) b,b⟩) λf y b=>.inl ⟨Mj (R:=R) d (λ_ _=>nofun) b,b⟩
theorem a3.gh (R:a3 Z p m h){i x:List UInt8}(k:m.a4 a=J i)(o:je a h cQ)(n:cQ.get? a=J (eB x))(l:x.length<=4*b5):a3 Z p (m.gh a x) cQ/\hZ p h cQ/\e3 Z p h cQ:=ou (R.a4 a i k) λf g d _=>R.oz f g d Zy o (λe y b=>.inl ⟨to (R:=R) d (λ_ _ j=>nomatch congrArg rY j) b,b⟩) (λe y b=>(rs b).elim (λc=>.inr λ_=>c.1▸c.2▸⟨f,g,n,l⟩) .inl) λe y b=>.inl ⟨Mj (R:=R) d (λ_ _=>nofun) b,b⟩
end
theorem Xo {a:Nat}{b:List O->Prop}(c:gF m a b):∃x,m.U a=J x/\b x:=zE c
theorem kE {a:Nat}{b:List O->Prop}(c:gF m a b)(d:∀x,m.U a=J x->b x->F):F:=aU (Xo c) d
theorem Xl {a:Nat}{b:List UInt8->Prop}(c:nm m a b):∃x,m.a4 a=J x/\b x:=zE c
theorem Xk {a:Nat}{b:List UInt8->Prop}(c:nm m a b)(d:∀x,m.a4 a=J x->b x->F):F:=aU (Xl c) d
theorem Xn {a:Nat}{b:List (Int×O)->Prop}(c:ml m a b):∃x,m.aQ a=J x/\b x:=zE c
theorem td {a:Nat}{b:List (Int×O)->Prop}(c:ml m a b)(d:∀x,m.aQ a=J x->b x->F):F:=aU (Xn c) d
theorem k0 (a:W<=4*b5):W<=GB:=by refine lZ<|>?_;delta b5 at a;exact ai 0x5b48395ea85fc56e315d7c6 a
theorem vV (a:W<=b5):W<=GB:=by refine lZ<|>?_;delta b5 at a;exact ai 0x42631273632e610a52714 a
theorem nt (a:W<=b5):W<=4*b5:=by delta b5 at a⊢;exact ai 0x2da41caaa2815d10a52714 a
theorem DS (a:a3 Z p m s.heap)(l:eW Z p s.heap)(c:dc Z p s.heap e g)(b:hc m g H):c1 Z p H s (.ref s.heap.objs.size) {s with heap:=s.heap.push (g2 e.toArray 0)}:=by have d:e.length<=b5:=c.eE<|>b.1;exact⟨_,_,dG.gv (cx:=s.toks)<|cV.hB _ _,a.hc l c<|nt d,.ah _,b.2 _<|a.La<|hJ _⟩
theorem Iv {a:Int}(c:jQ a):a.natAbs<2^64:=by
 induction a with
 |ofNat d=>exact cz.mp c.2|negSucc d=>exact cz.mp (Int.lt_of_neg_lt_neg (a:=((d+1:Nat):Int)) (b:=((2^64:Nat):Int)) c.1)
theorem Iw {a:Int}(b:jQ a):Builtin.Int.intBits a<=64:=intBits_le_64 (iU (~~~_) b.1) (Ax b.2<|~~~_)
theorem Zc {a c:Int}(b:jQ a\/jQ c):IntMulOk a c:=by
 delta IntMulOk;rintro q;simp-iota only[ek]at q;rcases b with b|b
 ·have:=Iw b;exact absurd (of_decide_eq_true q.1.1) (kO.mpr this)
 ·have:=Iw b;exact absurd (of_decide_eq_true q.1.2) (kO.mpr this)
theorem Iu (x:Int):xa x=-x-1:=rfl
theorem TG {a b:Int}(c:0<=a)(d:0<=b):FO a b=((a.toNat&&&b.toNat:Nat):Int):=by delta FO;exact decide_eq_true c<|>decide_eq_true d<|>rfl
theorem TH {a b:Int}(d:0<=a)(e:0<=b):Ql a b=((a.toNat|||b.toNat:Nat):Int):=by
 delta Ql FO;refine decide_eq_false (show¬0<=xa a from iV.mpr<|O0<|OU d)<|>decide_eq_false (show¬0<=xa b from iV.mpr<|O0<|OU e)<|>?_;have c:∀x:Int,xa (xa x)=x:=λx=>by exact Iu<|>Iu<|>Fa<|>OY<|>At<|>wJ<|>rfl
 simp only[c]
theorem No {a b:Int}(c:0<b)(e:jQ b):A5 a b=ap:=by delta A5;simp-iota only[OF];left;apply decide_eq_false;have g:b.natAbs<2^64:=Iv e;have f:b.natAbs≠0:=Int.natAbs_ne_zero.mpr (oH c);have:b.natAbs.log2<64:=(Nat.log2_lt f).mpr g;have d:(b==0)=ap:=beq_eq_false_iff_ne.mpr (oH c);refine d<|>?_;simp-iota only[wG,if_false];exactλh=>ac 0x67952f6316d46703f4b17a3c38e9efdca023fdfa1165b this h (lU _ _)
theorem afr {x:O}{v:af}{c:Int->Prop}(d:aM Z p o v x)(q:ge x c):∃i b,v=.int i b/\c i:=iQ q λi a q=>by subst a;exact wB d λb a=>⟨i,b,a,q⟩
theorem EP {x:O}{v:af}{a:Int->Prop}(c:aM Z p o v x)(q:ge x a)(b:∀i d,v=.int i d->a i->F):F:=ia (afr c q) b
theorem aft {x y:O}{v c:af}{b:Int->Int->Prop}(f:aM Z p o v x)(g:aM Z p o c y)(q:gS x y b):∃i a j u,v=.int i a/\c=.int j u/\b i j:=EP f q λi a e q=>EP g q λj u d q=>⟨i,a,j,u,e,d,q⟩
theorem afs {x y:O}{v b:af}{a:Int->Int->Prop}(d:aM Z p o v x)(e:aM Z p o b y)(q:gS x y a)(c:∀i f j u,v=.int i f->b=.int j u->a i j->F):F:=ZH (aft d e q) c
theorem Z2 {C:l4}{g:oX}{x y:O}{v z:af}(R:s2 g=J C)(c:a3 Z p m s.heap)(l:eW Z p s.heap)(o:aM Z p s.heap v x)(r:aM Z p s.heap z y)(b:oe C x y m H):aS (fh Z.cT Z.c2) A (xf g v z) (c1 Z p H s) b6 s:=by
 have f:∀{n:Int->Int->Prop},gS x y n->(∀i h j u,n i j->aS (fh Z.cT Z.c2) A (xf g (.int i h)<|.int j u) (c1 Z p H s) b6 s)->aS (fh Z.cT Z.c2) A (xf g v z) (c1 Z p H s) b6 s:=λq G=>afs o r q λi h j u d e q=>by exact d<|>e<|>G i h j u q
 cases g<;>cases R;case Add=>
  refine nz b (λa d q=>EP r q λk u e q=>?_) (λa d q=>we q λk e q=>?_) (λa d q=>k3 q λk e q=>?_) cF cF cF cF
  ·subst d;exact wB o λh d=>d<|>e<|>add_int (fO c (.I _ _) q)
  ·subst d e;refine ER o λh d S=>ER r λu e T=>?_;have t:=q.1;exact d<|>e<|>KBy.add_bytes (by simp-iota only[f2];delta b5 at t;exact ac 0x1dbfeb39ba1e4bb6e94a4037c t) λb9 n=>AD<|>fO c (.aA _ _<|by exact a2<|>nt t) q.2
  ·subst d e;refine Ai o<|>Ai r<|>kE q λb' K N=>kE N λc8 M b=>hA (c.U _ _ K) λ_ _ a9 b8 E S W=>hA (c.U _ _ M) λ_ _ a' n F T a8=>?_;have q:=W.eA a8;have Q:a9.length+a'.length<=b5:=aY (a2 ..)<|V (q.eE ..)<|b.1;refine P.add_list E F ?_ (by simp-iota only[f2];exact vV Q);exact AD<|>DS c l q b
 case Sub=>exact f b λ_ _ _ _ b=>sub_int (fO c (.I _ _) b)
 case Mult=>exact f b λ_ _ _ _ b=>mul_int (fO c (.I _ _) b.2) (Zc b.1)
 case Mod=>exact f b λ_ _ k _ b=>mod_int' (oH b.1)<|Int.fmod_eq_emod_of_nonneg _ (kM b.1)<|>fO c (.I _ _) b.2
 case FloorDiv=>refine f b λ_ _ k _ b=>floordiv_int (oH b.1.1) ?_ (.inl<|No b.1.1 b.1.2);exact E5 _ (kM b.1.1)<|>fO c (.I _ _) b.2
 case LShift=>exact f b λ_ _ _ _ b=>lshift_int_small b.1.1 (fU b.1.2.1<|~~~_) (Iv b.1.2.2) (fO c (.I _ _) b.2)
 case RShift=>exact f b λ_ _ _ _ b=>rshift_int b.1.1<|E5 _ (~~~kM (OW<|~~~_))<|>fO c (.I _ _) b.2
 case BitOr=>exact f b λ_ _ _ _ b=>or_int<|TH b.1.1 b.1.2<|>fO c (.I _ _) b.2
 case BitAnd=>exact f b λ_ _ _ _ b=>and_int<|TG b.1.1 b.1.2<|>fO c (.I _ _) b.2
end
section
open PySem.SeqAt
section
variable {Z:bj}{A:cn}{p:bi}{s:al}{m:w}
theorem Vz {a c:List UInt8}{e u:fy}(d:a=c):EqAt A s (.bytes a.toArray e) (.bytes c.toArray u) ag:=λcT h f g b=>by subst d;delta eqBool;refine mW<|wpAny_ite_split (λ_=>aB<|l2<|ck b) (λ_=>?_);refine aB (m:=richCompare .Eq _ _) ?_;show aS _ _ (nR .Eq _ _) _ _ _;exact eq_bytes<|beq_self_eq_true<|>uH b
theorem VA {i j:Int}{a u:fy}(b:i=j):EqAt A s (.int i a) (.int j u) ag:=by subst b;have:=EqAt.int_int (A:=A) (s:=s) i a i u;rwa [beq_self_eq_true]at this
section
variable {h:aT}{v:af}{x:O}{a:Nat}{G:af->Prop}
@[elab_as_elim] theorem pR {e:List O->Prop}(g:a3 Z p m h)(i:x=.ah a)(o:aM Z p h v x)(q:gF m a e)(k:∀c b d,m.U a=J c->h.get? a=J (g2 b.toArray d)->b.length<=4*b5->dc Z p h b c->e c->G (.ref a)):G v:=kL i o (kE q λc f q=>hA (g.U _ _ f) λ_ _ b d j l n=>k c b d f j l n q)
@[elab_as_elim] theorem tr {c:List UInt8->Prop}(e:a3 Z p m h)(f:x=.br a)(k:aM Z p h v x)(q:nm m a c)(i:∀b,m.a4 a=J b->h.get? a=J (eB b)->b.length<=4*b5->c b->G (.ref a)):G v:=afq f k (Xk q λb d q=>ou (e.a4 _ _ d) λ_ _ g j=>i b d g j q)
@[elab_as_elim] theorem ME {d:List (Int×O)->Prop}(f:a3 Z p m h)(g:x=.fB a)(n:aM Z p h v x)(q:ml m a d)(j:∀b c,m.aQ a=J b->Z.d1.get? a=D->h.DictOf (kp Z) a c->hn Z p h c b->d b->G (.ref a)):G v:=tZ g n (td q λb e q=>my (f.aQ _ _ e) λk _ _ c i l=>j b c e k i l q)
@[elab_as_elim] theorem Aj {d:List O}(c:x=.ce d)(m:aM Z p h v x)(j:∀a b,IsTup h a b.toArray->b.length<=b5->dc Z p h b d->G (.ref a)):G v:=by subst c;exact tt (wC m) λa l b k c _ i e f g q=>c▸j a b ⟨l,i,e,k,f⟩ g q
@[elab_as_elim] theorem On {e:List O}(f:a3 Z p m h)(c:x=.fP e)(j:aM Z p h v x)(i:∀a b d,h.get? a=J (g2 b.toArray d)->b.length<=4*b5->dc Z p h b e->G (.ref a)):G v:=by subst c;exact k1 (Om j) λa b d c g l q=>c▸i a b d (f.fs _ _ g) l q
end
theorem SP {x:O}(b:(sU<|x::g).isSome=ag):(∃i c,x=.ce [.I i,.aA c])/\(sU g).isSome=ag:=aW (rV.mp b) λ_ b=>vl b λa s h j _=>⟨aU (lm.mp h) λq d b=>aU (lm.mp b) λi e b=>aU (fw.mp b) λc f _=>⟨i,c,by exact Oi d<|>vR e<|>ID f<|>rfl⟩,rV.mpr ⟨s,j⟩⟩
theorem y6 {a:bm}(f:o.get? a=J c)(b:c.cls=.type "tuple")(d:c.data=.seq e.toArray W):IsTup o a e.toArray:=⟨c,f,b,W,d⟩
theorem aaP {i:Int}{v d:af}(M:aM Z p s.heap v (.ce [.I i,.aA W9]))(c:aM Z p s.heap d (.ce [.I i,.aA W9]))(K:A.units+10<kd):EqAt A s v d ag:=by
 refine tt (wC M) λa Q S N m _ F t C _ G=>tt (wC c) λf R T P n _ b z E _ H=>em G.hf λx y o g h=>em H.hf λW a8 q k l=>?_;subst m n o q;by_cases e:a=f
 ·clear b c;subst e;exact EqAt.same _
 ·refine EqAt.of_refs e<|RcAt.tuples (A:=A) (s:=s) (e:=λ_=>ag) (y6 F t C) (y6 b z E) (~~~ac 1645303997 K) λj r _=>?_;exact match j,r with
   |0,_=>fc rfl g λ_=>fc rfl k λ_=>VA rfl|1,_=>lc rfl h λ_ _=>lc rfl l λ_ _=>Vz rfl
theorem aaQ (y:A.units+10<kd):∀{c d:List af},(sU g).isSome=ag->dc Z p s.heap c g->dc Z p s.heap d g->∀j (b:j<c.length) (f:j<d.length),EqAt A s c[j] d[j] ag:=by
 induction g with
 |nil=>exactλ_ e _ j b=>absurd (e.eE▸b) (oS _)|cons x F z=>intro c d r e C j;refine em e.q2 λv G m a k=>em C.q2 λH K n h l=>bW (SP r) λq t=>fZ q λi E o=>?_;subst m n o;exact ey j (λ_ _=>aaP a h y) λj b f=>z t k l j (w0 b) (w0 f)
def Bz (Z:bj)(A:cn)(s:al)(v c:af)(b:Bool):Prop:=(∀a:af->al->Prop,a (.bool b) s->aS (fh Z.cT Z.c2) A (nR .Eq v c) a b6 s)/\(∀a:af->al->Prop,a (.bool<|!b) s->aS (fh Z.cT Z.c2) A (nR .NotEq v c) a b6 s)
theorem LV {a c:Nat}(g:s.heap.IsList a j8.toArray)(h:s.heap.IsList c k8.toArray)(i:j8.length=k8.length)(b:A.units+20<kd)(f:∀j (l:j<j8.length) (m:j<k8.length),EqAt A.in1 s j8[j] k8[j] ag):Bz Z A s (.ref a) (.ref c) ag:=by have d:(ih j8.toArray.size).all (λ_=>ag)=ag:=f0.mpr λ_ _=>rfl;have b:A.units+1<kd:=ac 0x9d2332549bd b;have b:=uq b;exact⟨λk q=>RcAt.lists (e:=λ_=>ag) g h i b f _ _ _ _<|d.symm▸q,λk q=>RcNeAt.lists (e:=λ_=>ag) g h i b f _ _ _ _<|d.symm▸q⟩
theorem VB {x y:O}{v F:af}{r:Bool->Prop}(t:a3 Z p m s.heap)(n:aM Z p s.heap v x)(o:aM Z p s.heap F y)(e:A.units+20<kd)(b:yF x y m r):∃c,r c/\Bz Z A s v F c:=by
 refine zD b (λ_ b=>b.elim) (λa d b=>qY b λc g b=>Ah d n<|Ah g o ⟨_,b,λf q=>RcAt.bool_bool a c _ _ _ _ q,λf q=>RcNeAt.bool_bool a c _ _ _ _ q⟩) zn (λa d b=>iQ b λc g b=>fc d n λb9=>fc g o λu=>⟨_,b,λf q=>eq_int q,λf q=>ne_int q⟩) cF (λa d b=>k3 b λc g b=>kE b λa8 z b=>kE b λa9 M b=>?_)
 ·refine kL d n (kL g o<|hA (t.U _ _ z) λ_ _ E T H a' h=>hA (t.U _ _ M) λ_ _ G S K b8 l=>?_);have i:s.heap.IsList a E.toArray:=⟨_,H,rfl,T,rfl⟩;have k:s.heap.IsList c G.toArray:=⟨_,K,rfl,S,rfl⟩;have R:A.in1.units+10<kd:=by show A.units+1+10<kd;exact ac 0x9b99070aa549bd e
  induction a9 using cj with
  |nil=>
   induction a8 using cj with
   |nil=>exact⟨ag,b,LV i k (h.eE.trans l.eE.symm) e λj N _=>absurd (h.eE▸N)<|oS _⟩|cons x W=>
    have C:(E.toArray.size !=G.toArray.size)=ag:=by refine f2<|>f2<|>h.eE<|>l.eE<|>?_;rfl
    have e:=uq (eo (jc (show 1<=20 by decide) _) e);exact⟨ap,b,λf q=>RcAt.lists_lengths i k C e _ _ _ _ q,λf q=>RcNeAt.lists_lengths i k C e _ _ _ _ q⟩
  |cons y W=>refine gR b λd Q P=>?_;clear z b;subst d;exact⟨ag,P,LV i k (h.eE.trans l.eE.symm) e<|aaQ R Q h l⟩
theorem KI {x y:O}{v b:af}{K:Bool->Prop}(c:a3 Z p m s.heap)(g:aM Z p s.heap v x)(h:aM Z p s.heap b y)(e:A.units+20<kd)(d:yF x y m K)(f:∀a,K a->Bz Z A s v b a->F):F:=aU (VB c g h e d) f
theorem rf:∀{d:List af},dc Z p o d g->∀{b:List Int},io g=J b->us d b:=by
 induction g with
 |nil=>exactλq b c=>q.rl▸dr c▸.nil|cons x n l=>exactλq b c=>em q.q2 λv s f a e=>vl c λi m h j k=>f▸k▸fc (vR h) a λr=>IntsAre.cons _ _ (l e j)
theorem G5 (b:List Int)(c:Int):b.any (·==c)=b.contains c:=by
 induction b with
 |nil=>rfl|cons i e d=>
  refine AB<|>List.contains_cons<|>d<|>?_;by_cases a:i=c
  ·clear d;subst a;rfl
  ·exact beq_eq_false_iff_ne.mpr a<|>beq_eq_false_iff_ne.mpr (qf a)<|>rfl
theorem yM {b:List (Int×O)}(f:hn Z p o Q b)(a:Int):(∃val v,Bq Q a=J val/\hv b a=J v/\aM Z p o val v)\/(Bq Q a=D/\hv b a=.none):=by
 induction f with
 |L=>exact .inr ⟨rfl,rfl⟩|@Y d g l m q f e=>
  unfold Bq hv at e⊢;refine V (Pj ..)<|V (Pj ..)<|aY (q.1 ..)<|?_;by_cases c:d.1=a
  ·exact V (decide_eq_true c ..)<|V (beq_iff_eq.mpr c ..)<|.inl ⟨d.2,g.2,rfl,rfl,q.2⟩
  ·exact V (decide_eq_false c ..)<|V (beq_eq_false_iff_ne.mpr c ..)<|e
theorem U0 (a:List (Int×O))(b:Int):(hv a b).isSome=a.any (·.1==b):=by delta hv;exact Option.isSome_map<|>List.isSome_find?<|>rfl
theorem Vb {c:List (Int×O)}(d:hn Z p o Q c):(Bq Q q).isSome=c.any (·.1==q):=by refine aY (U0 ..)<|?_;rcases yM d q with⟨_,_,a,b,_⟩|⟨a,b⟩<;>rw[a,b]<;>rfl
def GT (Z:bj)(A:cn)(s:al)(v d:af)(c:Bool):Prop:=(∀a:af->al->Prop,(∀b,a (.bool c) {s with toks:=b})->aS (fh Z.cT Z.c2) A (nR .In v d) a b6 s)/\(∀a:af->al->Prop,(∀b,a (.bool<|!c) {s with toks:=b})->aS (fh Z.cT Z.c2) A (nR .NotIn v d) a b6 s)
theorem XK {x y:O}{v N:af}{l:Bool->Prop}(n:a3 Z p m s.heap)(Q:aM Z p s.heap v x)(h:aM Z p s.heap N y)(G:(Z.d1.get? qq).isSome=ag)(b:yZ x y m l):∃o,l o/\GT Z A s v N o:=by
 refine iQ b λk c b=>fc c Q λR=>nz b cF cF (λa f b=>?_) cF (λa f b=>?_) (λS f b=>?_) cF
 ·refine kL f h (kE b λS i b=>gg b λj c b=>hA (n.U _ _ i) λ_ _ M K d a8 g=>?_);have C:s.heap.IsList a M.toArray:=⟨_,d,rfl,K,rfl⟩;exact⟨_,G5 j k▸b,λe q=>in_list_ints C (rf g c)<|q s.toks,λe q=>notin_list_ints C (rf g c)<|q s.toks⟩
 ·refine tZ f h (td b λT i b=>my (n.aQ _ _ i) λP _ _ W d g=>?_);have z:(kp Z).is k (.int k R)=ag:=beq_self_eq_true k;have H:(a==qq)=ap:=beq_eq_false_iff_ne.mpr λc=>by rw[<-c,P]at G;cases G
  exact⟨_,Vb g▸b,λe q=>wpAny_in_of (k:=k) z H d.mapOf<|q _,λe q=>wpAny_notIn_of (k:=k) z H d.mapOf<|q _⟩
 ·refine gg b λj c b=>tt (wC<|f▸h) λa a9 M K d _ E r t _ F=>?_;clear h;subst d;exact⟨_,G5 j k▸b,λe q=>in_tuple_ints (y6 E r t) (rf F c)<|q s.toks,λe q=>notin_tuple_ints (y6 E r t) (rf F c)<|q s.toks⟩
theorem Lv {x y:O}{v b:af}{K:Bool->Prop}(c:a3 Z p m s.heap)(g:aM Z p s.heap v x)(h:aM Z p s.heap b y)(e:(Z.d1.get? qq).isSome=ag)(d:yZ x y m K)(f:∀a,K a->GT Z A s v b a->F):F:=aU (XK c g h e d) f
end
end
section
open PySem.Builtin
namespace c7
theorem tM:mQ "bytearray" "__getitem__" "bytearray.__getitem__":=.of (owner:="bytearray") (n:="__getitem__") (by refine ji<|>jh<|>?_;kernel_rfl) (by decide+kernel) (by decide+kernel) (by decide+kernel) (by first|exact .inl (by decide+kernel)|exact .inr<|by decide+kernel) (by refine o3<|>?_;kernel_rfl)
theorem z2:mQ "bytearray" "__setitem__" "bytearray.__setitem__":=.of (owner:="bytearray") (n:="__setitem__") (by refine ji<|>jh<|>?_;kernel_rfl) (by decide+kernel) (by decide+kernel) (by decide+kernel) (by first|exact .inl (by decide+kernel)|exact .inr<|by decide+kernel) (by refine o3<|>?_;kernel_rfl)
theorem NT:mQ "bytearray" "__len__" "bytearray.__len__":=.of (owner:="bytearray") (n:="__len__") (by refine ji<|>jh<|>?_;kernel_rfl) (by decide+kernel) (by decide+kernel) (by decide+kernel) (by first|exact .inl (by decide+kernel)|exact .inr<|by decide+kernel) (by refine o3<|>?_;kernel_rfl)
theorem El:mQ "bytearray" "__init__" "bytearray.__init__":=.of (owner:="bytearray") (n:="__init__") (by refine ji<|>jh<|>?_;kernel_rfl) (by decide+kernel) (by decide+kernel) (by decide+kernel) (by first|exact .inl (by decide+kernel)|exact .inr<|by decide+kernel) (by refine o3<|>?_;kernel_rfl)
theorem KB:kP iZ "bytearray.__getitem__"=J Builtin.«bytearray.__getitem__»:=by first|exact xi (by kernel_rfl)|exact a (by kernel_rfl)
theorem KC:kP iZ "bytearray.__setitem__"=J Builtin.«bytearray.__setitem__»:=by first|exact xi (by kernel_rfl)|exact a (by kernel_rfl)
theorem Vu:kP iZ "bytearray.__len__"=J Builtin.«bytearray.__len__»:=by first|exact xi (by kernel_rfl)|exact a (by kernel_rfl)
theorem Vs:kP iZ "bytearray.__init__"=J Builtin.«bytearray.__init__»:=by first|exact xi (by kernel_rfl)|exact a (by kernel_rfl)
theorem Vv:kP iZ "bytearray.__new__"=J Builtin.«list.__new__»:=entryFor_alias (id':="list.__new__") (by kernel_rfl) (by first|rfl|decide+kernel|(delta String.splitOn;simp+decide [String.splitOnAux])) (by decide+kernel) (by kernel_rfl)
theorem G7 (a b:af):mS "bytearray.__getitem__" ⟨[a,b],[]⟩:=by delta mS;kernel_rfl
theorem Hb (a b c:af):mS "bytearray.__setitem__" ⟨[a,b,c],[]⟩:=by delta mS;kernel_rfl
theorem RW (a:af):mS "bytearray.__len__" ⟨[a],[]⟩:=by delta mS;kernel_rfl
theorem RU (a b:af):mS "bytearray.__init__" ⟨[a,b],[]⟩:=by delta mS;kernel_rfl
theorem Do:mroOf (.type "bytearray")=cr [.type "bytearray",.type "object"]:=by refine mroOf_type<|>?_;kernel_rfl
theorem YL:l1 (.type "bytearray") "__new__"=cr (J<|.builtin "bytearray.__new__"):=by refine ji<|>jh<|>?_;kernel_rfl
theorem II:TypeCalled "bytearray" "bytearray.__new__" "bytearray.__init__":=⟨by decide+kernel,by decide+kernel,⟨_,_,Do⟩,madeBy_type Do YL<|by decide+kernel,by decide+kernel,by refine o3<|>?_;kernel_rfl,El⟩
theorem afb (a:af):checkTypeCall "bytearray" ⟨[a],[]⟩=cr ():=by kernel_rfl
theorem Zm (a:af):xh "bytearray.__new__" ⟨[.type "bytearray",a],[]⟩=cr ():=by kernel_rfl
theorem Nc:Gy "bytearray.__new__"=ag:=by decide+kernel
theorem z6:Gu (.type "bytearray") (.type "bytearray")=cr ag:=by refine o3<|>?_;kernel_rfl
theorem aD (v:af):Bytes.bindOptional "bytearray.__init__" "bytearray" ["source","encoding","errors"] [v] []=cr [J v,D,D]:=by kernel_rfl
theorem YK:l1 (.type "bytearray") "__release_buffer__"=cr (J<|.builtin "bytearray.__release_buffer__"):=by refine ji<|>jh<|>?_;kernel_rfl
theorem Dk:l1 (.type "bytearray") "__buffer__"=cr (J<|.builtin "bytearray.__buffer__"):=by refine ji<|>jh<|>?_;kernel_rfl
theorem Zv:l1 (.type "bytearray") "__bytes__"=cr D:=by refine ji<|>jh<|>?_;kernel_rfl
theorem Ti:l1 (.type "bytearray") "__index__"=cr D:=by refine ji<|>jh<|>?_;kernel_rfl
theorem IE:l1 (.type "bytes") "__index__"=cr D:=by refine ji<|>jh<|>?_;kernel_rfl
theorem T3:l1 (.type "bytes") "__int__"=cr D:=by refine ji<|>jh<|>?_;kernel_rfl
theorem T2:l1 (.type "bytes") "__float__"=cr D:=by refine ji<|>jh<|>?_;kernel_rfl
theorem TZ:Gu (.type "bytes") (.type "bytearray")=cr ap:=by refine o3<|>?_;kernel_rfl
theorem T1:Gu (.type "bytes") (.type "complex")=cr ap:=by refine o3<|>?_;kernel_rfl
end c7
set_option maxRecDepth 1000000 in
set_option maxHeartbeats 4000000 in
theorem Z7:("bytearray.__new__".splitOn ".__new__").headD ""="bytearray":=by simp+decide [String.splitOn,String.splitOnAux] section
variable {M:fx}{A:cn}{E:af->al->Prop}{s:al}{a:bm}{b:List UInt8}
theorem ha (c:s.heap.get? a=J (eB b)):s.TypeIs (.ref a) "bytearray":=⟨_,c,rfl⟩
theorem Tk (c:s.heap.get? a=J (eB b))(q:f' (J b.toArray) s):aS M A (Qi<|.ref a) f' E s:=by delta Qi;exact aB (nS c<|ck q)
theorem qW {c:Array UInt8->al->Prop}(d:s.heap.get? a=J (eB b))(q:c b.toArray s):aS M A (FM<|.ref a) c E s:=by delta FM;exact aB (Tk d<|ck q)
theorem N6 {a:Int}{b:Option Int->al->Prop}(c:-(2^63)<=a)(d:a<2^63)(q:b (J a) s):aS M A (qh<|.int a S) b E s:=by
 delta qh;refine aB (jj (Bo s a S) FT.lookup ?_);have e:w7 a=ag:=by simp-iota only[w7,ek,decide_eq_true_eq];exact⟨c,d⟩
 show aS M A (if(!w7 a)=ag then _ else cr (J a)) _ E s;exact e<|>ck q
theorem ND (a:0<=q)(b:q<W):Bl q W=J q.toNat:=Q2 a b
theorem Ik {c:Array UInt8->Array UInt8}(d:c b.toArray=W9.toArray)(e:s.heap.get? a=J (eB b)):(s.heap.update a<|FX c).get? a=J (eB W9):=by have:=Qx (FX c) e rfl;refine this<|>?_;show J ({cls:=.type "bytearray",data:=.bytearray (c b.toArray) 0}:gr)=_;exact d<|>rfl
theorem sZ {c:Array UInt8->Array UInt8}{jJ:List UInt8}(g:c b.toArray=jJ.toArray)(d:s.heap.get? a=J (eB b))(h:jJ.length<=4*b5)(q:∀e,hj a s.heap e->e.get? a=J (eB jJ)->f () {s with heap:=e}):aS M A (Bytes.write (.ref a) c) f E s:=by show aS _ _ (Q6 a c) _ _ _;delta Q6;refine aB (nS d ?_);show aS _ _ (update a (FX c)>>=λ_=>lookBehind a) _ _ _;refine aB (wpAny_update d ?_);refine Ri (Ik g d) ?_ (q _ (ql ..)<|Ik g d);show(if jJ.toArray.size>GB then J "bytearray:memory"else D)=D;rw[if_neg];exact f2<|>kO.mpr (k0 h)
end
section
variable {cT:ln}{dy:gC}{A:cn}{E:af->al->Prop}{s:al}{a:bm}{b:List UInt8}
theorem Tg (c:s.heap.get? a=J (eB b))(e:b.length<=4*b5)(q:d (.int b.length<|s.toks+1) {s with toks:=s.toks+1+1}):aS (fh cT dy) A (dL (.builtin "len") [.ref a]) d E s:=by have f:b.length<=4194304:=e;refine Qn kind_len plain_len entry_len (args_len1 _) ?_;delta Builtin.«len»;refine aB (m:=oneArg "len" _) (ck ?_);refine aB (m:=Bh (.ref a)<|aR "__len__") (GH (name:=aR "__len__") (ha c) c7.NT<|qs c7.NT (ha c) c7.Vu ?_<|c7.RW _);show aS _ _ (do retInt (<-FM (.ref a)).size) _ _ s;refine aB (qW c ?_);refine aB (GJ<|ck ⟨_,rfl,?_⟩);refine aB (mW<|ck ?_);refine aB (Re ?_);simp-iota only[f2];show aS _ _ (if((b.length:Nat):Int)<0 then _ else _) _ _ _;refine if_neg (by exactλg=>ai 0x4d67aa7a11693 g)<|>?_;show aS _ _ (if((b.length:Nat):Int)>=2^63 then _ else _) _ _ _;exact if_neg (iV.mpr<|iU (eM.mpr f)<|~~~_)<|>aB (GJ<|ck ⟨_,rfl,q⟩)
theorem Td {c:Int}(e:s.heap.get? a=J (eB b))(f:0<=c)(g:c<b.length)(i:b.length<=4*b5)(q:d (.int (b.getD c.toNat 0).toNat s.toks) {s with toks:=s.toks+1}):aS (fh cT dy) A (o1 (.ref a)<|.int c S) d E s:=by
 refine Rd (ha e) (~~~_) c7.tM (qs c7.tM (ha e) c7.KB ?_<|c7.G7 _ _);have j:b.length<=4194304:=i;show aS _ _ (qh (.int c S)>>=λl=>_) _ _ s;refine aB (N6 (fU (~~~_) f) (mI g<|iU (eM.mpr j)<|~~~_) ?_);dsimp only;refine aB (qW e ?_);have k:c.toNat<b.length:=(uc f).mpr g;have h:((Bl c b.toArray.size).bind (b.toArray[·]?))=J (b.getD c.toNat 0):=by refine f2<|>ND f g<|>?_;simp[k]
 refine h<|>?_;dsimp only;exact aB (GJ<|ck ⟨_,rfl,q⟩)
theorem Tl {d x:Int}{j u:fy}(c:s.heap.get? a=J (eB b))(g:0<=d)(h:d<b.length)(i:b.length<=4*b5)(n:0<=x)(o:x<256)(q:∀e,hj a s.heap e->e.get? a=J (eB<|b.set d.toNat<|qZ x)->f () {s with heap:=e}):aS (fh cT dy) A (mV (.ref a) (.int d j)<|.int x u) f E s:=by have m:b.length<=4194304:=i;delta mV;refine mW (aB<|GL (ha c) (~~~_) ?_);refine aB (GH (name:=aR "__setitem__") (ha c) c7.z2<|qs c7.z2 (ha c) c7.KC ?_<|c7.Hb _ _ _);show aS _ _ (qh (.int d j)>>=λp=>_) _ _ s;refine aB (N6 (fU (~~~_) g) (mI h<|iU (eM.mpr m)<|~~~_) ?_);dsimp only;refine aB ?_;delta Bytes.byteValue;refine aB (dX (a:=x) rfl ?_);refine if_neg (by simp only[wH,decide_eq_true_eq];exactλc=>c.elim (gk.mpr n)<|iV.mpr o)<|>ck ?_;refine aB (qW c ?_);refine f2<|>ND g h<|>?_;dsimp only;refine aB (sZ (jJ:=b.set d.toNat<|qZ x) ?_ c (by exact nJ<|>i) λe k l=>ck ⟨_,rfl,ck<|q e k l⟩);refine PG<|>?_;rfl
end
end
section
open PySem.Builtin
theorem Ui {l:List (j3×a5)}(c:mZ l){a:j3×a5->Bool}(d:∀x,jq x.1=ap->a x=ap):l.any a=ap:=by rw[O3];intro x b;exact V (d x (c x b) ..)<|rD
section
variable {M:fx}{A:cn}{s:al}
theorem B.KS {self:af}{Q:Bool->al->Prop}(h:Q ap s):B M A (Qd self) Q s:=λΓ p hin hb hc=>by
 delta Qd;refine r1<|>?_;show Q (List.any ((Γ.code,p)::Γ.below) _) s;rw[Ui (mZ.Y hb hc) ?_]
 ·exact h
 intro x hb;obtain⟨c,p⟩:=x;cases c;case builtin id args=>
  obtain⟨pos,kw⟩:=args;have hq:=Bool.or_eq_false_iff.mp hb;have n:∀y,(["bytearray.__contains__","bytearray.__mod__","bytearray.__rmod__","_struct.pack_into.held","bytearray.find.held"]:List String).contains y=ag->¬id=y:=λy h e=>Bool.noConfusion ((e▸h).symm.trans hq.2);set_option smartUnfolding false in
  refine(dif_neg<|n "bytearray.__contains__"<|~~~_).trans<|(dif_neg<|n "bytearray.__mod__"<|~~~_).trans<|(dif_neg<|n "bytearray.__rmod__"<|~~~_).trans<|(dif_neg<|n "_struct.pack_into.held"<|~~~_).trans<|(dif_neg<|n "bytearray.find.held"<|~~~_).trans ?_;induction pos using cj with
  |nil=>rfl|cons v r=>exact(congrArg (Bytes.sameRef v self&&·) hq.1).trans (OG _)
 all_goals rfl
end
section
variable {cT:ln}{dy:gC}{A:cn}{E:af->al->Prop}{s:al}{a:bm}{b:List UInt8}
theorem DQ (d:s.heap.get? a=J (eB b)){c:Bool->al->Prop}(q:c ap s):aS (fh cT dy) A (Qh<|.ref a) c E s:=by
 delta Qh FN;have key:∀x:String,x="bytearray"->aS (fh cT dy) A (Gs (.ref a)<|.type x) (λb=>aS (fh cT dy) A (cr<|!b) c E) E s:=λx e=>by exact e<|>xl (ha d) c7.z6 (ck q)
 refine aB (aB<|jj (ha d) c7.YK ?_);dsimp only;exact if_neg (by decide+kernel)<|>key _ (by decide+kernel)
theorem Z6 (d:s.heap.get? a=J (eB b)){c:Bool->al->Prop}(q:c ag s):aS (fh cT dy) A (FN (.ref a) "__buffer__") c E s:=by
 delta FN;have key:∀x:String,x="bytearray"->aS (fh cT dy) A (Gs (.ref a)<|.type x) c E s:=λx e=>by exact e<|>xl (ha d) c7.z6 q
 refine aB (jj (ha d) c7.Dk ?_);dsimp only;exact if_neg (by decide+kernel)<|>key _ (by decide+kernel)
theorem Tc {d:Bool}(c:s.heap.get? a=J (eB b))(q:f' (J b.toArray) s):aS (fh cT dy) A (rX l (.ref a) d) f' E s:=by delta rX;refine aB (jj (ha c) c7.Dk ?_);refine aB (Z6 c ?_);refine if_neg (~~~_)<|>aB (jj (ha c) c7.Dk ?_);dsimp-iota only;refine aB (DQ c ?_);exact if_neg (~~~_)<|>aB (qW c<|ck q)
theorem Cq {x:af}(h:aS (fh cT dy) A.in1.in1 (Builtin.«bytes.__new__» ⟨[.type "bytes",x],[]⟩) (λe c=>∃v,e=.done (.ret v)/\c.TypeIs v "bytes"/\d v c) E s):aS (fh cT dy) A (dL (.type "bytes") [x]) d E s:=by
 refine callType_codes (Q₁:=λobj a=>a.TypeIs obj "bytes"/\d obj a) FR (F.bm_typeCall _) F.entry_object_init ?_ λobj a b=>⟨b.1,F.args_object_init_2 obj _,object_init_meets FR.init.lookup FR.made (~~~_) cT dy A.in1 _ a ⟨b.1,rfl,b.2⟩⟩
 ·refine codeAny_call_builtin F.bm_plain F.bm_entry (dX (F.bm_newCall _)<|qt h (λe c q=>?_) λ_ _ f=>f);refine eP q λv g i j=>?_;clear q;subst g;exact⟨i,j⟩
theorem XX:l1 (.type "int") "__bytes__"=cr D:=by refine ji<|>jh<|>?_;kernel_rfl
theorem T0:l1 (.type "bytes") "__bytes__"=cr (J<|.builtin "bytes.__bytes__"):=by refine ji<|>jh<|>?_;kernel_rfl
theorem T6 {b:Int}(e:0<=b)(g:b<=b5)(q:d (.bytes (dK b.toNat (0:UInt8)).toArray s.toks) {s with toks:=s.toks+1}):aS (fh cT dy) A (dL (.type "bytes") [.int b S]) d E s:=by
 have c:b<=1048576:=g;refine Cq ?_;delta Builtin.«bytes.__new__»;refine aB (dX (a:=ag) rfl ?_);refine g3 rfl<|aB (dX FS ?_);refine g3 rfl<|aB (dX (FQ _) ?_);refine aB (dX (a:=()) rfl ?_);refine aB (dX (a:=()) rfl ?_);refine g3 rfl<|aB (jj (Bo s b S) XX ?_);refine aB (aB<|dX (a:=D) rfl<|ck ?_);refine g3 rfl<|aB (jj (Bo s b S) FT.lookup ?_);refine g3 rfl<|aB (GG<|dX (a:=b) rfl ?_);dsimp-iota only;refine g3 (by simp-iota only[w7,OI,ek,decide_eq_true_eq];exact⟨fU (~~~_) e,iU c<|~~~_⟩)<|if_neg (gk.mpr e)<|>if_neg (gk.mpr<|fU c<|~~~_)<|>g3 (F4<|p2.mpr<|fU c<|~~~_) ?_;refine aB (l2 ?_);refine aB (GI ?_<|by exact Array.size_replicate<|>lZ<|>p2.mpr (fU c<|~~~_));have f:Array.replicate b.toNat (0:UInt8)=(dK b.toNat 0).toArray:=by simp-iota
 exact f<|>ck ⟨_,rfl,jg _ _ _,q⟩
theorem T5 {c:Array UInt8}(q:d (.bytes c S) s):aS (fh cT dy) A (dL (.type "bytes") [.bytes c S]) d E s:=by refine Cq ?_;delta Builtin.«bytes.__new__»;refine aB (dX (a:=ag) rfl ?_);refine g3 rfl<|aB (dX FS ?_);refine g3 rfl<|aB (dX (FQ _) ?_);refine aB (dX (a:=()) rfl ?_);refine aB (dX (a:=()) rfl ?_);refine g3 rfl<|aB (jj (jg s c S) T0 ?_);dsimp-iota only;refine aB (l2 ?_);refine aB (xn (jg s c S) ?_);exact uz (~~~_)<|ck ⟨_,rfl,jg _ _ _,q⟩
theorem T4 (c:s.heap.get? a=J (eB b))(e:b.length<=4*b5)(q:d (.bytes b.toArray s.toks) {s with toks:=s.toks+1}):aS (fh cT dy) A (dL (.type "bytes") [.ref a]) d E s:=by
 refine Cq ?_;delta Builtin.«bytes.__new__»;refine aB (dX (a:=ag) rfl ?_);refine g3 rfl<|aB (dX FS ?_);refine g3 rfl<|aB (dX (FQ _) ?_);refine aB (dX (a:=()) rfl ?_);refine aB (dX (a:=()) rfl ?_);refine g3 rfl<|aB (jj (ha c) c7.Zv ?_);refine aB (aB ?_);show aS _ _ (load a>>=_) _ _ _;refine aB (nS c<|ck<|ck ?_);refine g3 rfl<|aB (jj (ha c) c7.Ti ?_);refine uz rfl ?_;first
  |show aS _ _ (rX "bytes.__new__" (.ref a) ag>>=_) _ _ _|(refine aB ?_;show wpAny _ _ (Bytes.buffer? "bytes.__new__" (.ref a) true>>=_) _ _ _)
 refine aB (Tc c ?_);dsimp only;refine aB (l2 ?_);refine aB (GI ?_<|by exact f2<|>k0 e);exact aB (ck<|ck ⟨_,rfl,jg _ _ _,q⟩)
end
end
section
open PySem.Builtin
section
variable {Z:bj}{A:cn}{s:al}{a:bm}{b:List UInt8}
theorem afO {args:nP}{a:ut}(e:kP iZ l=J a)(f:Gy l=ag)(c:jq (.builtin l args)=ap)(d:B (aL Z) A.in1 (a args) (uR (aL Z) A z) s):dD (aL Z) A (.builtin l args) z s:=by refine dD.jY c<|V (Around.under_plainId f args ..)<|?_;show B _ _ (match kP iZ l with|some b=>b args|none=>Bp<|(GE l "#data").getD l) _ s;exact e<|>d
theorem afP {args:nP}{a:ut}(f:kP iZ l=J a)(b:Gy l=ag)(c:jq (.builtin l args)=ap)(e:aS (aL Z) A.in1 (xh l args) (λ_=>B (aL Z) A.in1 (a args)<|uR (aL Z) A z) b6 s):dD (aL Z) A (.call (.builtin l) args) z s:=by refine dD.jY rfl ?_;show B _ A.in1 (do xh l args;again (.builtin l args)) _ s;refine B.aD (B.bk<|qt e (λ_ h g=>?_) λ_ _ d=>d);exact B.cp ⟨QZ b args,afO f b c g⟩
theorem Ow {name:aq}{a:ut}{ew:List af}(c:mQ l name s9)(i:s.TypeIs j l)(m:kP iZ s9=J a)(g:jq (.builtin s9 ⟨j::ew,[]⟩)=ap)(n:B (aL Z) A.in1 (a ⟨j::ew,[]⟩) (λb f=>∃v,b=.done (.ret v)/\d v f) s)(k:mS s9 ⟨j::ew,[]⟩):B (aL Z) A (dL (.builtin s9)<|j::ew) d s:=by refine B.aN (afP m c.plain g<|c.check _ _ _ _ _ _ _ _ i k<|n.bb λb f e=>?_);refine aU e λv h o=>?_;clear e;subst h;exact o
theorem Os {name:aq}{args:List af}(c:s.TypeIs j l)(a:mQ l name s9)(d:B (aL Z) A (dL (.builtin s9)<|j::args) (λv=>P<|J v) s):B (aL Z) A (Bh j name args) P s:=by delta Bh;refine B.aD (B.bk<|jj c a.lookup ?_);simp only[a.bind];exact B.d5 (B.aD<|B.cp<|B.aD<|d.bb λv e b=>B.cp b)
theorem B.jx {b:Type}{c:Bool}{x y:cM b}{a:b->al->Prop}(e:c=ap)(d:B n A y a s):B n A (if c=ag then x else y) a s:=by subst e;exact d
theorem B.Lr {b:Type}{c:Bool}{x y:cM b}{a:b->al->Prop}(e:c=ag)(d:B n A x a s):B n A (if c=ag then x else y) a s:=by subst e;exact d
theorem KT {c:Nat->al->Prop}(e:s.heap.get? a=J (eB b))(q:c 0 s):aS n A (Qe<|.ref a) c d s:=by delta Qe;exact aB (nS e<|ck q)
theorem Tf {b:Int}(i:s.heap.get? a=J (eB []))(f:0<=b)(m:b<=b5)(q:∀j,hj a s.heap j->j.get? a=J (eB<|dK b.toNat 0)->d .none {s with heap:=j}):B (aL Z) A (Builtin.«bytearray.__init__» ⟨[.ref a,.int b S],[]⟩) (λp y=>∃v,p=.done (.ret v)/\d v y) s:=by
 have e:b<=1048576:=m;delta Builtin.«bytearray.__init__»;refine B.aD (B.bk<|DQ i ?_);refine B.jx rfl<|B.aD (B.bk<|dX (c7.aD _) ?_);refine B.aD (B.bk<|dX (a:=()) rfl ?_);refine B.aD (B.bk<|dX (a:=()) rfl ?_);refine B.aD (B.aD<|B.KS ?_);refine B.bk (aB<|KT i<|ck ?_);refine B.jx rfl<|B.bk<|aB (sZ (jJ:=[]) rfl i (dB _) λt h l=>?_);dsimp only;refine aB (dX (a:=D) rfl ?_);refine g3 rfl<|aB (dX (a:=()) rfl ?_);refine aB (jj (Bo _ b S) FT.lookup ?_);refine uz rfl<|aB (GG<|dX (a:=b) rfl ?_);dsimp only;refine g3 (by simp-iota only[w7,OI,ek,decide_eq_true_eq];exact⟨fU (~~~_) f,iU e<|~~~_⟩)<|if_neg (gk.mpr f)<|>g3 (by simp-iota only[beq_eq_false_iff_ne];exact t7<|iU e<|~~~_) ?_;refine g3 (F4<|p2.mpr<|fU e<|~~~_)<|aB (l2 ?_);by_cases g:b>0
 ·refine if_pos g<|>aB (sZ (jJ:=dK b.toNat 0) (by simp-iota) l (by exact hh<|>p2.mpr (fU e<|~~~_)) λx k r=>?_);exact aB (ck<|ck ⟨_,rfl,q x ⟨k.1.trans h.1,λc n=>(k.2 c n).trans<|h.2 c n⟩ r⟩)
 ·refine if_neg g<|>?_;have o:b=0:=dW (gk.mp g) f;clear f m e g;subst o;exact aB (ck<|ck ⟨_,rfl,q t h l⟩)
theorem Te {c:List UInt8}(e:s.heap.get? a=J (eB []))(b:c.length<=4*b5)(q:∀f,hj a s.heap f->f.get? a=J (eB c)->d .none {s with heap:=f}):B (aL Z) A (Builtin.«bytearray.__init__» ⟨[.ref a,.bytes c.toArray S],[]⟩) (λj n=>∃v,j=.done (.ret v)/\d v n) s:=by
 delta Builtin.«bytearray.__init__»;refine B.aD (B.bk<|DQ e ?_);refine B.jx rfl<|B.aD (B.bk<|dX (c7.aD _) ?_);refine B.aD (B.bk<|dX (a:=()) rfl ?_);refine B.aD (B.bk<|dX (a:=()) rfl ?_);refine B.aD (B.aD<|B.KS ?_);refine B.bk (aB<|KT e<|ck ?_);refine B.jx rfl<|B.bk<|aB (sZ (jJ:=[]) rfl e (dB _) λo g k=>?_);dsimp only;refine aB (dX (a:=D) rfl ?_);refine g3 rfl<|aB (dX (a:=()) rfl ?_);refine aB (jj (jg _ _ S) c7.IE ?_);refine g3 rfl<|aB ?_;have i:rX "bytearray.__init__" (.bytes c.toArray S) ag=cr (J c.toArray):=by delta rX;refine F3 F1<|>F2<|>QE<|>?_;kernel_rfl
 refine dX i ?_;dsimp only;refine aB (l2 ?_);refine aB (sZ (jJ:=c) rfl k b λm h l=>?_);exact aB (ck<|ck ⟨_,rfl,q m ⟨h.1.trans g.1,λc b=>(h.2 c b).trans<|g.2 c b⟩ l⟩)
theorem Th {x:af}{Q:af->al->Prop}(q:Q (.ref s.heap.objs.size) {s with heap:=s.heap.push (eB [])}):codeAny (aL Z) A (.call (.builtin "bytearray.__new__") ⟨[.type "bytearray",x],[]⟩) (wants Q b6) s:=by refine codeAny_of_tree ?_;show aS _ A.in1 (do xh "bytearray.__new__" ⟨[.type "bytearray",x],[]⟩;again (.builtin "bytearray.__new__" ⟨[.type "bytearray",x],[]⟩)) _ _ s;refine aB (dX (c7.Zm x)<|ck ⟨QZ c7.Nc _,codeAny_builtin_stack c7.Vv rfl λg h=>?_⟩);refine Around.under_plainId c7.Nc _<|>?_;have e:=c7.z6;have a:=Z7;obtain⟨d,c,b,i,f⟩:=s;simp only[a];wp_walk;exact q
end
end
section
open PySem.Builtin
section
variable {Z:bj}{A:cn}{s:al}{a:bm}{b:List UInt8}
theorem afR {args:nP}{a:ut}(e:kP iZ l=J a)(f:A.under (.builtin l args)=A.in1)(c:jq (.builtin l args)=ap)(d:B (aL Z) A.in1 (a args) (uR (aL Z) A z) s):dD (aL Z) A (.builtin l args) z s:=by refine dD.jY c<|f<|>?_;show B _ _ (match kP iZ l with|some b=>b args|none=>Bp<|(GE l "#data").getD l) _ s;exact e<|>d
theorem yv (a:String)(args:nP):jq (.builtin a args)=(Qc.contains a||["bytearray.__contains__","bytearray.__mod__","bytearray.__rmod__","_struct.pack_into.held","bytearray.find.held"].contains a):=rfl
theorem To (args:nP):jq (.builtin "bytearray.__init__" args)=ap:=V (yv _ args)<|by decide
theorem Tp (args:nP):jq (.builtin "bytearray.__setitem__" args)=ap:=V (yv _ args)<|by decide
theorem Il (args:nP):jq (.builtin "type.__call__" args)=ap:=V (yv _ args)<|by decide
theorem Ot {x:af}{Q:af->al->Prop}(j:∀d:af->al->Prop,(∀a,Q (.ref s.heap.objs.size) a->d .none a)->B (aL Z) A.in1.in1 (Builtin.«bytearray.__init__» ⟨[.ref s.heap.objs.size,x],[]⟩) (λf a=>∃v,f=.done (.ret v)/\d v a) {s with heap:=s.heap.push (eB [])}):B (aL Z) A (dL (.type "bytearray") [x]) Q s:=by
 refine B.aN (dD.jY rfl ?_);show B _ _ (Gq (.type "bytearray") _) _ _;refine B.cp ⟨Code.quiet_builtin _<|by decide+kernel,?_⟩;refine afR F.entry_type_call (Around.under_plain (weight_type_call_type "bytearray" [x] [])<|units_type_call_type "bytearray" [x] []) (Il _) ?_;delta Builtin.«type.__call__»;dsimp only;refine B.jx (~~~_)<|B.jx c7.II.canCreate<|B.aD (B.bk<|dX (c7.afb x) ?_);refine B.aD (B.bk<|dX c7.Do ?_);refine B.jx rfl<|B.aD (B.bk<|dX c7.II.made ?_);dsimp only;refine B.aD (B.cp ?_);refine B.aD (B.d5<|B.bk<|wpAny_call<|QK (Th (A:=A.in1) (x:=x) (s:=s) (Q:=λv a=>v=.ref s.heap.objs.size/\a={s with heap:=s.heap.push (eB [])}) ⟨rfl,rfl⟩) λk l c=>?_);rcases k with e|g
 ·exact c.elim
 ·cases g<;>try exact c.elim
  obtain⟨rfl,rfl⟩:=c;have i:(s.heap.push<|eB []).get? s.heap.objs.size=J (eB []):=ii _ rfl;have b:=ha (s:={s with heap:=s.heap.push (eB [])}) i;refine B.aD (B.bk<|xl b c7.z6 ?_);refine B.jx rfl<|B.aD (B.d5<|Os b c7.El<|Ow c7.El b c7.Vs (To _) ((j (λv a=>v=.none/\Q (.ref s.heap.objs.size) a) λa q=>⟨rfl,q⟩).bb λf a h=>aU h λv e q=>⟨v,e,?_⟩)<|c7.RU _ _);obtain⟨rfl,q⟩:=q;dsimp only;exact B.jx (~~~_)<|B.cp q
theorem Tj (f:0<=c')(g:c'<=b5)(q:∀a,cV s.heap a->a.objs.size=s.heap.objs.size+1->a.get? s.heap.objs.size=J (eB<|dK c'.toNat 0)->d (.ref s.heap.objs.size) {s with heap:=a}):B (aL Z) A (dL (.type "bytearray") [.int c' S]) d s:=Ot λi h=>Tf (ii _ rfl) f g λa b e=>h _ (q a (λc j q=>(b.2 c<|nO<|nQ q).trans<|oV _ q) (b.1.trans<|FV _ _) e)
theorem Ij {c:List UInt8}(f:c.length<=4*b5)(q:∀a,cV s.heap a->a.objs.size=s.heap.objs.size+1->a.get? s.heap.objs.size=J (eB c)->d (.ref s.heap.objs.size) {s with heap:=a}):B (aL Z) A (dL (.type "bytearray") [.bytes c.toArray S]) d s:=Ot λh g=>Te (ii _ rfl) f λa b e=>g _ (q a (λc i q=>(b.2 c<|nO<|nQ q).trans<|oV _ q) (b.1.trans<|FV _ _) e)
end
section
variable {cT:ln}{dy:gC}{A:cn}{E:af->al->Prop}{s:al}{a:bm}{b:List UInt8}
theorem Ej {e d:Option Int}{c:af×af×af->al->Prop}(f:s.heap.IsSliceOf r j y9 .none)(g:lW j e)(h:lW y9 d)(q:c (Gz e,Gz d,Gz D) s):aS (fh cT dy) A (Qj<|.ref r) c E s:=by
 refine eP f λk b i a=>?_;delta Qj;refine aB (sa (x:=.none) b a rfl ?_);kby_none;refine wpAny_ite (KBy.ite_no (show¬((j5==rawInt 0)=ag)from rD) ?_);refine aB (sa (x:=j) b a rfl ?_);cases g<;>cases h<;>(first
  |(kby_none;(refine aB<|sa (x:=.none) b a rfl ?_);kby_none)|(kby_none;(refine aB<|sa (x:=.int _ _) b a rfl ?_);kby_int)|(kby_int;(refine aB<|sa (x:=.none) b a rfl ?_);kby_none)|(kby_int;(refine aB<|sa (x:=.int _ _) b a rfl ?_);kby_int))<;>exact ck q
theorem Ek {l u e:af}(c:s.heap.IsSliceOf r l u e):s.TypeIs (.ref r) "slice":=eP c λd b a _=>⟨d,b,a⟩
theorem N7 {l u c:af}{a:Option Int->al->Prop}(b:s.heap.IsSliceOf r l u c)(q:a D s):aS n A (qh<|.ref r) a E s:=by delta qh;exact aB (jj (Ek b) slice_no_index<|ck q)
theorem Tn {e c:Option Int}(f:s.heap.get? a=J (eB b))(i:b.length<=4*b5)(g:s.heap.IsSliceOf r j y9 .none)(l:lW j e)(m:lW y9 c)(q:∀h,h.toArray=Bb b.toArray e c->d (.ref s.heap.objs.size) {s with heap:=s.heap.push (eB h)}):aS (fh cT dy) A (o1 (.ref a)<|.ref r) d E s:=by
 refine Rd (ha f) (~~~_) c7.tM (qs c7.tM (ha f) c7.KB ?_<|c7.G7 _ _);show aS _ _ (qh (.ref r)>>=λn=>_) _ _ s;refine aB (N7 g ?_);dsimp-iota only;refine aB (xn (Ek g) ?_);refine g3 (~~~_)<|aB (Ej g l m ?_);refine aB (qW f ?_);refine aB (dX (Q3 e c D b.toArray.size<|by simp-iota) ?_);refine aB ?_;delta Bytes.newBytearray;have k:(Bytes.sliced b.toArray (Bm e c D b.toArray.size).1 (Bm e c D b.toArray.size).2.1 (Bm e c D b.toArray.size).2.2)=Bb b.toArray e c:=rfl;refine k<|>Bs (ck ⟨_,rfl,q (Bb b.toArray e c).toList<|by simp-iota⟩) ?_
 ·have:=KBc.size_picked_le b.toArray e c;rw[f2]at this;exact ba this (k0 i)
end
section
variable {Z:bj}{A:cn}{s:al}{a:bm}{b:List UInt8}
theorem afN {name:aq}(b:s.TypeIs j l)(c:seqItemTypes.contains l=ap)(a:d y9 s):B n A (sequenceKey j y9 name) d s:=B.bk (GL b c a)
theorem Na {b a:Option Int}:Bm b a D W=(((b.elim 0 (gm W):Nat):Int),((a.elim W (gm W):Nat):Int),1):=sliceBounds_plain b a W
theorem Uk (a:Nat)(i:Int):gm a i<=a:=by delta gm;exact p2.mpr (OO.mpr ⟨eH a,OQ _ _⟩)
theorem Tm {e d:Option Int}{c:List UInt8}(g:s.heap.get? a=J (eB b))(E:b.length<=4*b5)(k:s.heap.IsSliceOf r j y9 .none)(p:lW j e)(t:lW y9 d)(F:c.length<=4*b5)(i:(e.elim 0<|gm b.length)+c.length=d.elim b.length (gm b.length))(q:∀h,je a s.heap h->s.heap.objs.size<=h.objs.size->h.get? a=J (eB<|b.take (e.elim 0<|gm b.length)++c++b.drop (d.elim b.length<|gm b.length))->f () {s with heap:=h}):B (aL Z) A (mV (.ref a) (.ref r)<|.bytes c.toArray S) f s:=by
 have W:a<s.heap.objs.size:=nQ g;delta mV;refine B.d5 (B.aD<|afN (ha g) (~~~_) ?_);refine B.aD (Os (ha g) c7.z2<|Ow c7.z2 (ha g) c7.KC (Tp _) ?_<|c7.Hb _ _ _);show B _ _ (qh (.ref r)>>=λx=>_) _ s;refine B.aD (B.bk<|N7 k ?_);dsimp-iota only;refine B.aD (B.bk<|xn (Ek k) ?_);refine B.jx (~~~_)<|B.aD (B.bk<|Ej k p t ?_);refine B.aD (B.bk<|xl (jg _ _ S) c7.TZ ?_);refine B.Lr rfl<|B.aD (B.bk<|aB<|aB<|jj (jg _ _ S) c7.IE ?_);refine ck<|aB (aB<|jj (jg _ _ S) c7.T3<|ck ?_);refine aB (aB<|jj (jg _ _ S) c7.T2<|ck ?_);refine xl (jg _ _ S) c7.T1<|B.aD (B.bk<|dX (a:=D) rfl ?_);refine B.jx rfl<|B.aD (B.bk<|l2 ?_);refine B.aD (Ij F λl m T z=>?_);have Q:l.IsSliceOf r j y9 .none:=aU k λo P x=>⟨o,m _ _ P,x⟩;refine B.aD (B.d5<|B.bk<|Ej (s:={s with heap:=l}) Q p t ?_);refine B.aD (B.bk<|qW z ?_);refine B.aD (B.bk<|qW (s:={s with heap:=l}) (m _ _ g) ?_);refine B.aD (B.bk<|dX (Q3 e d D b.toArray.size<|by simp-iota) ?_);refine f2<|>Na<|>?_;dsimp-iota only;refine B.Lr rfl<|B.aD (B.bk<|l2 ?_);have K:e.elim 0 (gm b.length)<=d.elim b.length (gm b.length):=aj 148809614 i;have H:d.elim b.length (gm b.length)<=b.length:=by cases d<;>simp-iota [Uk]
 have M:max ((e.elim 0 (gm b.length):Nat):Int) ((d.elim b.length (gm b.length):Nat):Int)=((d.elim b.length (gm b.length):Nat):Int):=E6 (eM.mpr K);refine M<|>B.jx (by refine f2<|>?_;simp-iota only[bne_eq_false_iff_eq];exact dW (aj 51494061754 i)<|aj 2272046464187 i) ?_;refine B.bk (aB<|sZ (s:={s with heap:=l}) (jJ:=b.take (e.elim 0<|gm b.length)++c++b.drop (d.elim b.length<|gm b.length)) ?_ (m _ _ g) ?_ λR n C=>ck ⟨_,rfl,?_⟩)
 ·simp-iota;exact PM (by simp-iota)
 ·simp-iota only[a2,e1,gB];exact fJ 0x76a2e400c5378829b99ee2121d6 E i (fG _ _) (ay<|ac 354984 H)
 ·refine B.cp (q R (λy o G N=>(n.2 y G).trans<|m _ _ N) ?_ C)
  ·have:=n.1;dsimp-iota only at this;exact this<|>T<|>ai 93332
end
end
theorem Ul (a:Nat)(i:Int):gm a i<=a:=eM.mp (fU (Av<|clipAt_cast a i)<|OO.mpr ⟨eH a,OQ _ _⟩)
theorem zj {i:Int}(a:0<=i+W):-(W:Int)<=i:=Int.le_of_sub_nonneg (by exact OY<|>a)
theorem tq {i:Int}{j:Nat}(a:hN W i=J j):(0<=i/\i<W/\i.toNat=j)\/(i<0/\0<=i+W/\(i+W).toNat=j):=by
 unfold hN at a;by_cases c:0<=i
 ·by_cases b:i<W
  ·rw[if_pos c,if_pos b]at a;exact .inl ⟨c,b,dr a⟩
  ·rw[if_pos c,if_neg b]at a;cases a
 ·by_cases b:0<=i+W
  ·rw[if_neg c,if_pos b]at a;exact .inr ⟨iV.mp c,b,dr a⟩
  ·rw[if_neg c,if_neg b]at a;cases a
theorem Mw {i:Int}{j:Nat}(b:W<=4*b5)(a:hN W i=J j):-(2^63)<=i/\i<2^63:=by have b:W<=4194304:=b;exact(tq a).elim (λa=>⟨fU (~~~_) a.1,mI a.2.1<|iU (eM.mpr b)<|~~~_⟩) λa=>⟨fU (fU (by decide:(-2^63:Int)<=-((4194304:Nat):Int))<|OT<|eM.mpr b)<|zj a.2.1,mI a.1<|~~~_⟩
theorem Mx {i:Int}{j:Nat}(a:hN W i=J j):Bl i W=J j:=(tq a).elim (λq=>q.2.2▸Q2 q.1 q.2.1) λq=>q.2.2▸seqIndex_neg q.1 (zj q.2.1)
theorem IY {d:Type}(c:List d)(a b:Nat):dp c a b=(c.drop a).take (b-a):=List.drop_take
theorem IZ {d:Type}(a:List d)(c b:Nat):(dp a c b).length<=a.length:=by delta dp;exact gB<|>e1<|>ba (bL _ _) (rS _ _)
section
variable {Z:bj}{A:cn}{p:bi}{s:al}{m:w}{E:af->al->Prop}
theorem aae {v:af}{x:O}{b:Nat->Prop}(d:aM Z p o v x)(a:vG W m8 x b):∃c,lW v c/\b (c.elim m8<|gm W):=(Vr a).elim (λq=>bW q λa q=>Ag a d ⟨D,.none,q⟩) λq=>aU q λi a q=>fc a d λe=>⟨J i,.int i e,q⟩
theorem M1 {v:af}{x:O}{a:Nat->Prop}(e:aM Z p o v x)(c:vG W m8 x a)(d:∀b,lW v b->a (b.elim m8<|gm W)->F):F:=aU (aae e c) d
theorem aaf {v e:af}{x y:O}{d:Nat->Nat->Prop}(h:aM Z p o v x)(i:aM Z p o e y)(a:k6 W x y d):∃c b,lW v c/\lW e b/\d (c.elim 0<|gm W) (b.elim W<|gm W):=M1 h a λc f a=>M1 i a λb g a=>⟨c,b,f,g,a⟩
theorem zI {v d:af}{x y:O}{b:Nat->Nat->Prop}(g:aM Z p o v x)(h:aM Z p o d y)(e:k6 W x y b)(f:∀c a,lW v c->lW d a->b (c.elim 0<|gm W) (a.elim W<|gm W)->F):F:=em (aaf g h e) f
theorem ZC {i:Int}{b:O->Prop}(c:dc Z p o e g)(q:nx g i b):∃j v a,hN e.length i=J j/\e[j]?=J v/\aM Z p o v a/\b a:=gg q λj d q=>gg q λa f q=>aU (c.ju f) λv h k=>⟨j,v,a,c.eE.symm▸d,h,k,q⟩
theorem Mz {i:Int}{a:O->Prop}(d:dc Z p o e g)(q:nx g i a)(c:∀j v b,hN e.length i=J j->e[j]?=J v->aM Z p o v b->a b->F):F:=k1 (ZC d q) c
theorem Xp {a:Nat}{j:Nat}{x:af}(k:s.heap.get? a=J (g2 e.toArray W))(i:e.length<=4*b5)(h:hN e.length c'=J j)(b:e[j]?=J x)(q:d x s):aS (aL Z) A (o1 (.ref a)<|.int c' S) d E s:=by have f:s.heap.IsList a e.toArray:=⟨_,k,rfl,W,rfl⟩;have g:=Mw i h;have b:e.toArray[j]?=J x:=(wP ..).trans b;exact(tq h).elim (λc=>wpAny_getItem_list f c.1 g.2 (c.2.2▸b) q) λc=>wpAny_getItem_list_neg f c.1 (zj c.2.1) g.1 (c.2.2▸b) q
theorem LU {a:Nat}{value d:am}(f:a3 Z p m s.heap)(c:s.heap.get? a=J (g2 e.toArray W))(k:e.length<=4*b5)(q:dc Z p s.heap e g)(b:nx g c' λv=>H v m)(l:uC d ap (.ref a) (.int c' S)=mU [.ref a,.int c' S] (o1 (.ref a)<|.int c' S)):aS (aL Z) A (rW value d (.ref a)<|.int c' S) (c1 Z p H s) b6 s:=Mz q b λj v o h i n b=>qg (s:=s) (show s.TypeIs (.ref a) "list"from⟨_,c,rfl⟩) Q4.lookup (Xp c k h i<|lL f n b) l
theorem M3 (b:a3 Z p m s.heap)(l:eW Z p s.heap)(c:cV s.heap o)(d:o.get? s.heap.objs.size=J (eB a))(f:a.length<=4*b5)(e:v0 m a H):c1 Z p H s (.ref s.heap.objs.size) {s with heap:=o}:=⟨_,_,dG.gv (cx:=s.toks) c,b.Mn l c d f,.br _,e.2 _<|b.K7<|hJ _⟩
theorem aet {x y:O}{v E:af}{value t:am}(f:a3 Z p m s.heap)(o:aM Z p s.heap v x)(a9:aM Z p s.heap E y)(n:∀C i,uC t ap C i=mU [C,i] (o1 C i))(b:wy x y m H):aS (aL Z) A (rW value t v E) (c1 Z p H s) b6 s:=by
 have h:∀{k:Int->Prop},ge y k->(∀i e,k i->aS (aL Z) A (rW value t v<|.int i e) (c1 Z p H s) b6 s)->aS (aL Z) A (rW value t v E) (c1 Z p H s) b6 s:=λq k=>iQ q λi S q=>fc S a9 λe=>k i e q;refine zB b (λN d b=>h b λi e b=>On f d o λa M W l g q=>LU f l g q b<|n _ _) (λN d b=>h b λi e b=>?_) (λa d b=>h b λi e b=>pR f d o b λN M W h l g q b=>LU f l g q b<|n _ _) (λa d b=>h b λi e b=>?_) (λa d b=>h b λi e b=>tr f d o b λP h l g b=>qg (ha l) c7.tM.lookup (Td l b.1.1 b.1.2 g<|fO f (.I _ _) b.2)<|n _ _) (λP d b=>h b λi e b=>lc d o λe g=>qg (jg s _ e) F0.lookup (getItem_bytes (ba g<|~~~_) b.1.1 b.1.2<|fO f (.I _ _) b.2)<|n _ _) λ_ _ b=>b.elim
 ·exact Aj d o λa M F g q=>Mz q b λj v a' r z a8 b=>bW (Mw (nt g) r) λQ R=>qg F.typeIs slot_tuple_getitem.lookup (afY F Q R (Mx r) ((wP ..).trans z)<|lL f a8 b) (n _ _)
 ·refine ME f d o b λb8 b9 _ _ G q b=>gg b λa' K b=>(yM q i).elim (λc=>em c λval b' r z T=>?_) λc=>nomatch K.symm.trans c.2;cases K.symm.trans z;exact qg G.mapOf.typeIs slot_dict_getitem.lookup (wpAny_getItem_of (k:=i) (beq_self_eq_true i) G.mapOf r<|fO f T b) (n _ _)
abbrev z1 (b a:af):gr:={cls:=.type "slice",data:=.fields #[b,a,.none]}
abbrev pU (s:al)(b a:af):al:={s with heap:=s.heap.push (z1 b a)}
theorem NR (a:a3 Z p m o)(l u:af):a3 Z p m (o.push<|z1 l u):=a.gv (cV.hB _ _)
theorem Nb {c b:Option Int}:Bb a.toArray c b=(dp a (c.elim 0<|gm a.length)<|b.elim a.length<|gm a.length).toArray:=KBc.picked_eq<|>f2<|>IY<|>rfl
theorem ad4 {x y S:O}{v d c:af}{value Q:am}(T:a3 Z p m s.heap)(l:eW Z p s.heap)(r:aM Z p s.heap v x)(M:aM Z p s.heap d y)(N:aM Z p s.heap c S)(G:∀K i,uC Q ap K i=mU [i,K] (o1 K i))(b:kJ x y S m H):aS (aL Z) A (rW value Q v<|.ref s.heap.objs.size) (c1 Z p H s) b6 (pU s d c):=by
 have F:=Heap.IsSliceOf.new s.heap d c .none;have z:=cV.hB s.heap (z1 d c);have g:=NR T d c;have P:eW Z p (pU s d c).heap:=l.bb z.ca;have C:dG Z p s (pU s d c):=dG.gv (cx:=s.toks) z;have r:aM Z p (pU s d c).heap v x:=z.d2.eR r;refine zB b cF cF (λa e b=>?_) cF (λa e b=>?_) (λE e b=>?_) cF
 ·refine pR g e r b λc8 t b9 a9 j f q b=>zI M N b λk h n o b=>qg (s:=pU s d c) (show(pU s d c).TypeIs (.ref a) "list"from⟨_,j,rfl⟩) Q4.lookup (wpAny_getItem_list_slice ⟨_,j,rfl,b9,rfl⟩ F n o .none (λb=>nomatch b) ?_<|k0 f) (G _ _);have e:slicePick t.toArray k h D=(dp t (k.elim 0<|gm t.length)<|h.elim t.length<|gm t.length).toArray:=by delta slicePick;refine Na<|>?_;simp-iota only[sliceRange_one,pick_run,f2];exact IY<|>rfl
  exact V (e ..)<|V (q.eE ..)<|c1.fL C (DS g P (q.dp _ _) b)
 ·refine tr g e r b λE a9 j f b=>zI M N b λk h n o b=>qg (ha j) c7.tM.lookup (Tn j f F n o λW e=>?_) (G _ _);have a8:W=dp E _ _:=congrArg OE (e.trans Nb);exact a8▸c1.fL C ⟨_,_,dG.gv (cx:=s.toks)<|cV.hB _ _,g.Mn P (cV.hB _ _) (ii _ rfl)<|ba (IZ _ _ _) f,.br _,b.2 _<|g.K7<|hJ _⟩
 ·refine lc e r λR f=>zI M N b λk h n o b=>?_;have a':=KBc.size_picked_le E.toArray k h;refine qg (jg _ _ R) F0.lookup (getItem_meets (jg _ _ _) (~~~_) F0 FB.entry_bytes_getitem (FB.args_bytes_getitem_2 _ _) (KBc.meets_slice2 _ R _ n o) ⟨F,ba a'<|k0 f,λb' b8=>?_⟩) (G _ _);exact Nb<|>c1.fL C (c1.fL (dG.wz (cx:=b8)) ⟨m,_,.cf,g,.aA _ _<|ba (IZ _ _ _) f,b⟩)
theorem YF {x:O}{v:af}(g:a3 Z p m s.heap)(j:aM Z p s.heap v x)(b:Dh x m H):aS (aL Z) A (dL (.builtin "len") [v]) (c1 Z p H s) b6 s:=by have list:∀{a h f} {i:List O},s.heap.get? a=J (g2 h.toArray f)->h.length<=4*b5->dc Z p s.heap h i->H (.I i.length) m->aS (aL Z) A (dL (.builtin "len") [.ref a]) (c1 Z p H s) b6 s:=λ{a h f i} e c q b=>Calls.call_len_list ⟨_,e,rfl,f,rfl⟩ (cz.mpr<|eo c<|~~~_) (fO g (.I _ _)<|(congrArg (λf:Nat=>H (.I f) m) q.eE).mpr b);refine zB b (λi d b=>On g d j λa h f e c q=>list e c q b) cF (λa d b=>pR g d j b λi h f l e c q b=>list e c q b) cF (λa d b=>tr g d j b λk l e c b=>Tg e c<|fO g (.I _ _) b) (λk d b=>lc d j λn c=>?_) cF;exact len_bytes (ba c<|~~~_) (fO g (.I _ _) b)
theorem LS (a:q<=b5):(dK q.toNat (0:UInt8)).length<=4*b5:=hh<|>nt (p2.mpr a)
theorem T7 {x:O}{v:af}(r:A.handled=D)(e:a3 Z p m s.heap)(f:aM Z p s.heap v x)(b:vx x m H):aS (aL Z) A (dL (.type "bytes") [v]) (c1 Z p H s) b6 s:=by refine zB b cF cF (λa c b=>?_) cF (λa c b=>tr e c f b λl n h d b=>T4 h d<|fO e (.aA _ _ d) b) (λl c b=>lc c f λk d=>T5<|lL e (.aA _ _ d) b) λj c b=>fc c f λk=>T6 b.1.1 b.1.2 (fO e (.aA _ _<|LS b.1.2) b.2);refine pR e c f b λC z j n h d q b=>gg b λt c b=>?_;have i:=rf q c;refine call_bytes_ints ⟨_,h,rfl,j,rfl⟩ i b.1 (k0 d) r λo k y g=>⟨m,_,⟨⟨o,y,rfl⟩,cV.ca g,cV.d2 g⟩,e.gv g,?_,b.2⟩;exact .aA (tx t) _ (by delta tx;exact V (ax ..)<|aY (i.length ..)<|d)
theorem TY {x:O}{v:af}(d:a3 Z p m s.heap)(l:eW Z p s.heap)(f:aM Z p s.heap v x)(a:IC x m H):B (aL Z) A (dL (.type "bytearray") [v]) (c1 Z p H s) s:=nz a (λk b a=>fc b f λh=>Tj a.1.1 a.1.2 λg b i c=>M3 d l b c (LS a.1.2) a.2) (λj b a=>lc b f λh e=>Ij e λg b i c=>M3 d l b c e a) cF cF cF cF cF
end
def pi (a:bj)(c:bi)(e:w->Prop)(f:al)(d:al):Prop:=∃b,dG a c f d/\a3 a c b d.heap/\e b
section
variable {cT:ln}{dy:gC}{A:cn}{E:af->al->Prop}{s:al}
theorem adE {l:bm}{items:Array af}{v:af}{j:Nat}(c:s.heap.get? l=J (g2 items W))(a:hN items.size c'=J j)(m:items.size<2^62)(e:f () {s with heap:=s.heap.update l (jf (·.setIfInBounds j v))}):aS (fh cT dy) A (mV (.ref l) (.int c' S) v) f E s:=by
 have d:s.heap.IsList l items:=⟨_,c,rfl,W,rfl⟩;have k:j<items.size:=(tq a).elim (λq=>q.2.2▸(uc q.1).mpr q.2.1) λq=>q.2.2▸(uc q.2.1).mpr (Ax (Int.add_lt_add_right q.1 _)<|Av<|O1 _);have b:aS (fh cT dy) A.in1 (setSeqItemAt l j v>>=λ_=>ret .none) (λb r=>∃v,b=.done (.ret v)/\aS (fh cT dy) A (cr ()) f E r) E s:=aB (wpAny_setSeqItemAt c rfl<|ck ⟨_,rfl,ck e⟩);delta mV;refine mW (aB<|GL d.typeIs (~~~_) ?_);refine aB (GH (name:=aR "__setitem__") d.typeIs Q5<|qs Q5 d.typeIs entry_list_setitem ?_<|args_list_setitem _ _ _);show aS _ _ (Builtin.List.listSubscript? (.int c' S)>>=_) _ _ s;refine aB (wpAny_listSubscript_int ((tq a).elim (λq=>fitsIndex_of q.1<|mI q.2.1<|mI (cz.mpr m)<|~~~_) λq=>fitsIndex_neg q.1<|fU (fU (by decide:(-2^63:Int)<=-((2^62:Nat):Int))<|OT<|kM<|cz.mpr m)<|zj q.2.1) ?_);have g:=tq a;have h:=Mx a;induction c' with
 |ofNat i=>have o:i=j:=g.elim (λq=>q.2.2) λq=>absurd q.1 (gk.mpr<|eH i);clear e a g h;subst o;show aS _ _ ((seqItemAt l i>>=λp=>cr (p.map (i,·)))>>=_) _ _ s;refine aB (aB<|wpAny_seqItemAt c rfl<|ck ?_);refine OD k<|>?_;exact b|negSucc i=>show aS _ _ ((Builtin.List.listItems (.ref l)>>=λn=>cr ((Bl (Int.negSucc i) n.size).bind λi=>n[i]?.map (i,·)))>>=_) _ _ s;refine aB (aB ?_);show aS _ _ (seqItems? (.ref l)>>=_) _ _ s;refine aB (uG c rfl<|ck<|ck ?_);refine h<|>?_;simp only[Option.bind_some,OD k,A3];exact b
end
section
variable {Z:bj}{A:cn}{p:bi}{s:al}{m:w}
theorem By {a:bm}(f:o.DictOf (kp Z) a Q)(j:o.get? a=J c):¬kq c:=by
 refine DE f λt n m k e g i _=>?_;cases dr (j.symm.trans k);rintro(b|⟨C,b⟩|⟨p,s,b,d,h,x,y,l⟩)
 ·rw[e.1]at b;injection b with d;exact absurd d (~~~_)
 ·exact nomatch e.1.symm.trans b
 ·cases g.symm.trans b;refine aU (i d<|by simpa using h) λr q _=>?_;rw[l]at q;cases q
theorem a3.ja (R:a3 Z p m o){a:bm}{k x:List (Int×O)}(n:m.aQ a=J k)(s:je a o d8)(r:d8.DictOf (kp Z) a Q)(t:hn Z p o Q x)(q:x.length<=4*b5):a3 Z p (m.ja a x) d8/\hZ p o d8/\e3 Z p o d8:=my (R.aQ a k n) λh i G E j H=>k1 (id j) λF A z d C g _=>R.oz h i d (By j d) s (λf y b=>.inl ⟨to (R:=R) d (λ_ _ e=>nomatch g.symm.trans (congrArg rY e)) b,b⟩) (λf y b=>.inl ⟨Dq (R:=R) d (λ_ e=>nomatch g.symm.trans (congrArg rY e)) b,b⟩) λf y b=>(rs b).elim (λc=>.inr λl=>c.1▸c.2▸⟨h,i,q,Q,r,l.Va t⟩) .inl
theorem zM {a:Nat}{l x:List O}{cx:Nat}(c:a3 Z p m s.heap)(f:m.U a=J l)(i:hj a s.heap o)(h:o.get? a=J (g2 e.toArray W))(k:dc Z p s.heap e x)(g:e.length<=4*b5)(q:C (m.a1 a x)):pi Z p C s {s with heap:=o,toks:=cx}:=gR (c.a1 f (vi i) h k g) λd j b=>⟨_,⟨⟨o,cx,rfl⟩,j,b⟩,d,q⟩
theorem aat {a:Nat}{j x:List UInt8}(c:a3 Z p m s.heap)(e:m.a4 a=J j)(h:hj a s.heap o)(g:o.get? a=J (eB x))(f:x.length<=4*b5)(q:C (m.gh a x)):pi Z p C s {s with heap:=o,toks:=W}:=gR (c.gh e (vi h) g f) λd i b=>⟨_,⟨⟨o,W,rfl⟩,i,b⟩,d,q⟩
theorem aau {a:Nat}{k x:List (Int×O)}(c:a3 Z p m s.heap)(e:m.aQ a=J k)(h:hj a s.heap o)(g:o.DictOf (kp Z) a Q)(j:hn Z p s.heap Q x)(f:x.length<=4*b5)(q:C (m.ja a x)):pi Z p C s {s with heap:=o,toks:=W}:=gR (c.ja e (vi h) g j f) λd i b=>⟨_,⟨⟨o,W,rfl⟩,i,b⟩,d,q⟩
section
variable {h:aT}{jK:List (Int×af)}{dM:List (Int×O)}{k:Int}{v:af}{x:O}
theorem Vd (e:hn Z p h jK dM):k∉jK.map (·.1)->hn Z p h (jK.map λb=>if b.1=k then(b.1,v)else b) dM:=by
 induction e with
 |L=>exactλ_=>.L|Y a _ d=>intro c;rw[f1,dE,not_or]at c;exact f1<|>if_neg (qf c.1)<|>dz.Y a (d c.2)
theorem Ve (g:aM Z p h v x)(e:hn Z p h jK dM):(jK.map (·.1)).Nodup->hn Z p h (stored jK k v) (lE dM k x):=by
 induction e with
 |L=>exactλ_=>.Y g .L|@Y i l jK dM a e b=>
  intro d;rw[f1,iY]at d;unfold stored lE;refine V (AB ..)<|V (f1 ..)<|aY (a.1 ..)<|?_;by_cases c:i.1=k
  ·exact V (decide_eq_true c ..)<|V (Bool.true_or ..)<|V (if_pos rfl ..)<|V (if_pos c ..)<|V (if_pos (beq_iff_eq.mpr c) ..)<|V (c ..)<|dz.Y ⟨rfl,g⟩ (Vd e<|c▸d.1)
  ·have b:=b d.2;unfold stored at b;refine V (decide_eq_false c ..)<|V (Bool.false_or ..)<|V (if_neg c ..)<|if_neg (λq=>c<|beq_iff_eq.mp q)<|>?_;by_cases f:jK.any (λj=>dk (j.1=k))=ag
   ·rw[if_pos f]at b⊢;exact dz.Y a b
   ·rw[if_neg f]at b⊢;exact dz.Y a b
theorem Vf (e:hn Z p h jK dM):(jK.map (·.1)).Nodup->hn Z p h (without jK k) (oi dM k):=by
 induction e with
 |L=>exactλ_=>.L|@Y f g jK dM a e b=>
  intro d;rw[f1,iY]at d;have b:=b d.2;unfold without oi;refine aY (a.1 ..)<|?_;by_cases c:f.1=k
  ·exact V (uf (by simp-iota [c]) ..)<|V (if_pos (beq_iff_eq.mpr c) ..)<|V (show jK.filter _=jK from without_of_not_mem jK k<|c▸d.1)<|e
  ·exact wM (by simp-iota [c])<|>if_neg (λq=>c<|beq_iff_eq.mp q)<|>dz.Y a b
end
theorem Vh (a:List (Int×O))(b:Int)(v:O):(lE a b v).length<=a.length+1:=by
 induction a with
 |nil=>exact cL 1|cons d f e=>
  unfold lE;by_cases c:(d.1==b)=ag
  ·exact V (if_pos c ..)<|kN _
  ·exact V (if_neg c ..)<|jd e
theorem UR (a:List (Int×O))(b:Int):(oi a b).length<=a.length:=by
 induction a with
 |nil=>exact cL 0|cons d f e=>
  unfold oi;by_cases c:(d.1==b)=ag
  ·exact V (if_pos c ..)<|kN _
  ·exact V (if_neg c ..)<|jd e
theorem adJ {x y F:O}{v E u:af}(e:a3 Z p m s.heap)(t:aM Z p s.heap v x)(b9:aM Z p s.heap E y)(z:aM Z p s.heap u F)(b:z7 x y F m C):aS (aL Z) A (mV v E u) (λ_ l=>pi Z p C s l) b6 s:=by
 have d:∀{k:Int->Prop},ge y k->(∀i f,k i->aS (aL Z) A (mV v (.int i f) u) (λ_ l=>pi Z p C s l) b6 s)->aS (aL Z) A (mV v E u) (λ_ l=>pi Z p C s l) b6 s:=λq k=>iQ q λi o q=>fc o b9 λf=>k i f q;refine nz b cF cF (λa g b=>d b λi f b=>?_) (λa g b=>d b λi f b=>iQ b λc o b=>fc o z λu=>tr e g t b λc8 d n h b=>ou b.1 λN P Q R=>Tl n N P h Q R λM r T=>aat e d r T (by exact nJ<|>h) b.2) (λa g b=>d b λi f b=>?_) cF cF
 ·refine pR e g t b λc9 b' a' d n h q b=>gg b λj W b=>?_;have H:=uv (show IsL s.heap a b'.toArray a' from n) (·.setIfInBounds j u);rw[PG]at H;exact adE n ((congrArg (hN · i) q.eE).trans W) (eo h<|~~~_) (zM e d (ql ..) H (q.oz z j) (by exact nJ<|>h) b)
 ·refine ME e g t b λK a9 d _ G q b=>?_;have a8:(a9.map (·.1)).Nodup:=zq G λ_ _ _ _ _ _ _ _ b8=>b8;exact wpAny_setItem_pairs (k:=i) (beq_self_eq_true i) G (λM S r=>aau e d r S (Ve z q a8) (nt<|ba (Vh K i F) b.1) b.2) (by exact V (q.eE ..)<|vV<|gY b.1)
end
section
variable {Z:bj}{A:cn}{p:bi}{s:al}{m:w}
theorem rp {cx:Nat}{v:af}{x:O}(b:a3 Z p m s.heap)(a:cV s.heap o)(c:aM Z p s.heap v x)(q:H x m):c1 Z p H s v {s with heap:=o,toks:=cx}:=⟨m,x,dG.gv (cx:=cx) a,b.gv a,a.d2.eR c,q⟩
theorem X1 {d:List Int}(c:us e d):∃a,e.toArray=intItems a/\d=a.toList.map (·.1):=aW c.allInts.items λa b=>⟨a,b,by exact aY (c.numsOf ..)<|aY (nums_intItems ..)<|aY (b ..)<|rfl⟩
@[elab_as_elim] theorem C6 {x:O}{v:af}{g:List Int->Prop}{f:af->Prop}(h:a3 Z p m s.heap)(o:aM Z p s.heap v x)(b:y2 x m g)(k:∀a d c,s.heap.IsList a (intItems d)->c=d.toList.map (·.1)->g c->f (.ref a)):f v:=k3 b λa e b=>pR h e o b λt r n _ l _ q b=>gg b λc e b=>aU (X1<|rf q e) λd i j=>k a d c (i▸⟨_,l,rfl,n,rfl⟩) j b
theorem aey {x:O}{v:af}(e:A.handled=D)(c:a3 Z p m s.heap)(h:aM Z p s.heap v x)(b:bt .rv x m H):aS (aL Z) A (dL (.builtin "sum") [v]) (c1 Z p H s) b6 s:=C6 c h b λa i k g d b=>sum_intListG e (xs:=i) g λj n l f=>V (preSum_eq ..)<|aY (d ..)<|PM (by rw[d,ax];exact fv t4)<|>rp c f (.I _ _) b
theorem NI {b:Array (Int×fy)}(a:q∈b.toList.map (·.1)):0<b.size:=aY (t4 ..)<|aU (eS.mp a) λ_ a _=>List.length_pos_of_mem a
theorem M7 {a:Array (Int×fy)}{j:Nat}(c:0<a.size)(b:j<=a.size-1):numAt a j∈a.toList.map (·.1):=numAt_eq<|>getD_mem (by exact ax<|>t4<|>eo b (A2 c FE))
theorem M6 {a:Array (Int×fy)}{P:Int->Prop}(e:∀j,j<=a.size-1->P (numAt a j))(d:q∈a.toList.map (·.1)):P q:=aU (mem_getD d) λj b c=>c▸numAt_eq a j▸e j (Nat.le_sub_one_of_lt (by rw[ax,t4]at b;exact b))
theorem YY {x:O}{v:af}(n:A.handled=D)(f:a3 Z p m s.heap)(y:aM Z p s.heap v x)(b:bt .vX x m H):aS (aL Z) A (dL (.builtin "max") [v]) (c1 Z p H s) b6 s:=by refine C6 f y b λa d C r j b=>gg b λe o b=>bW (List.max?_eq_some_iff.mp o) λc g=>?_;rw[j]at c g;have h:=NI c;exact max_intList n (xs:=d) r h λv z F t q=>aW (QP t) λE i=>bW (argBest_gt (numAt d)<|d.size-1) λk l=>i<|>dW (g _<|M7 h k) (M6 (P:=λe=>e<=_) l c)<|>rp f q (.I _ _) b
theorem Y4 {x:O}{v:af}(n:A.handled=D)(f:a3 Z p m s.heap)(y:aM Z p s.heap v x)(b:bt .vY x m H):aS (aL Z) A (dL (.builtin "min") [v]) (c1 Z p H s) b6 s:=by refine C6 f y b λa d C r j b=>gg b λe o b=>bW (List.min?_eq_some_iff.mp o) λc g=>?_;rw[j]at c g;have h:=NI c;exact min_intList n (xs:=d) r h λv z F t q=>aW (QP t) λE i=>bW (argBest_lt (numAt d)<|d.size-1) λk l=>i<|>dW (M6 (P:=λe=>_<=e) l c) (g _<|M7 h k)<|>rp f q (.I _ _) b
theorem YX {i j:Int}{v e:af}(f:A.handled=D)(b:a3 Z p m s.heap)(g:aM Z p s.heap v (.I i))(h:aM Z p s.heap e (.I j))(a:H (.I (if i<j then j else i)) m):aS (aL Z) A (dL (.builtin "max") [v,e]) (c1 Z p H s) b6 s:=fc rfl g λl=>fc rfl h λu=>PySem.max_two_ints f λk n d=>by
 by_cases c:i<j
 ·rw[if_pos c]at a⊢;exact rp b d (.I _ _) a
 ·rw[if_neg c]at a⊢;exact rp b d (.I _ _) a
theorem Y3 {i j:Int}{v e:af}(f:A.handled=D)(b:a3 Z p m s.heap)(g:aM Z p s.heap v (.I i))(h:aM Z p s.heap e (.I j))(a:H (.I (if j<i then j else i)) m):aS (aL Z) A (dL (.builtin "min") [v,e]) (c1 Z p H s) b6 s:=fc rfl g λl=>fc rfl h λu=>PySem.min_two_ints f λk n d=>by
 by_cases c:j<i
 ·rw[if_pos c]at a⊢;exact rp b d (.I _ _) a
 ·rw[if_neg c]at a⊢;exact rp b d (.I _ _) a
theorem pf.WW (l:pf p o){a:bm}(c:o.get? a=D):¬p a:=λq=>by refine aW (l _ q) λd b=>?_;rw[c]at b;cases b
theorem DT {cx:Nat}{a:bm}{en:List af}{n:Nat}(c:a3 Z p m s.heap)(l:eW Z p s.heap)(d:cV s.heap o)(b:s.heap.get? a=D)(h:o.get? a=J (g2 en.toArray n))(f:dc Z p s.heap en g)(e:hc m g H):c1 Z p H s (.ref a) {s with heap:=o,toks:=cx}:=by have i:en.length<=b5:=f.eE<|>e.1;exact⟨_,_,dG.gv (cx:=cx) d,c.Mo l d b (l.cS.WW b) h f<|nt i,.ah _,e.2 _<|c.La b⟩
theorem YH {x:O}{v:af}(c:a3 Z p m s.heap)(l:eW Z p s.heap)(i:aM Z p s.heap v x)(b:bt .jS x m H):aS (aL Z) A (dL (.type "list") [v]) (c1 Z p H s) b6 s:=k3 b λa d b=>pR c d i b λr o n _ h g q b=>call_list_seq a (T:="list") (.inl rfl) h rfl rfl (λk j f e=>DT (cx:=s.toks) c l f (hJ _) e q b) (k0 g)
theorem XY {x:O}{v:af}(c:a3 Z p m s.heap)(d:aM Z p s.heap v x)(a:bt .I x m H):aS (aL Z) A (dL (.type "int") [v]) (c1 Z p H s) b6 s:=zD a (λ_ a=>a.elim) (λe b a=>Ah b d<|call_int_bool<|fO c (.I _ _) a) zn (λi b a=>fc b d λf=>call_int_int<|lL c (.I _ _) a) cF cF
theorem X2 {a:List Int}(q:us e a):dc Z p o e (a.map O.I):=by
 induction q with
 |nil=>exact .L|cons c d o b=>exact .Y (.I c d) b
theorem aea {x:O}{v:af}{a:Nat}{b:List Int}(d:a3 Z p m s.heap)(l:eW Z p s.heap)(F:aM Z p s.heap v x)(E:x=.ah a)(k:m.U a=J g)(i:io g=J b)(e:b.length<64/\∀c:List Int,c.Perm b->c.Pairwise (·<=·)->hc m (c.map .I) H):aS (aL Z) A (dL (.builtin "sorted") [v]) (c1 Z p H s) b6 s:=by refine kL E F (hA (d.U _ _ k) λ_ _ en n C K q=>?_);have f:=rf q i;refine sorted_ints ⟨_,C,rfl,n,rfl⟩ f (by exact f.length<|>e.1) λh M r t y=>aW (Qa s.heap en h) λj o=>DT (cx:=s.toks) (en:=h.toList) d l (λG N z=>Qb z) (P7 _ 1) (n:=j) ?_ (X2 r) (e.2 _ t y);simpa using o
end
section
variable {Z:bj}{A:cn}{p:bi}{s:al}{m:w}
theorem Ls (a:Int)(b:fy):(kp Z).is a (.int a b)=ag:=beq_self_eq_true a
theorem BB {s b:al}(e:pi Z p (λm=>H .bE m) s b):c1 Z p H s .none b:=eP e λf a d c=>⟨f,.bE,a,d,.bE,c⟩
theorem Zs {a:bm}(b:s.heap.get? a=J (g2 o' W)):s.heap.NoDictAt (.ref a):=⟨_,b,rfl⟩
theorem Xt {a:bm}{name:aq}{d:cM Bool}(b:s.heap.get? a=J (g2 o' W))(slot:mQ "list" name l)(c:qr (.builtin l)=cr (.type "method_descriptor"))(q:i (.builtin l,[.ref a]) s):aS (aL Z) A (lY (.ref a) name d) i b6 s:=getMethod_list_of slot c ⟨_,b,rfl,W,rfl⟩ (Zs b) q
theorem RS {a:Nat}{u:af}{i:O}(c:a3 Z p m s.heap)(d:m.U a=J g)(o:aM Z p s.heap u i)(n:g.length<b5)(j:H .bE (m.a1 a<|g++[i])):aS (aL Z) A (dL (.builtin "list.append") [.ref a,u]) (c1 Z p H s) b6 s:=by refine hA (c.U _ _ d) λ_ _ h f b l q=>?_;have k:s.TypeIs (.ref a) "list":=⟨_,b,rfl⟩;refine xg FU k Qq (Qp _ _) (QS a h.toArray f u<|by exact f2<|>k0 l) ⟨b,?_⟩;have e:=uv (show IsL s.heap a h.toArray f from b) (·.push u);rw[PE]at e;refine BB (zM (cx:=s.toks) c d (ql ..) e (q.eA<|.Y o .L) ?_ j);exact V (a2 ..)<|V (q.eE ..)<|nt n
theorem aaI {a:Nat}(c:a3 Z p m s.heap)(d:m.U a=J g)(j:H .bE (m.a1 a g.reverse)):aS (aL Z) A (dL (.builtin "list.reverse") [.ref a]) (c1 Z p H s) b6 s:=by refine hA (c.U _ _ d) λ_ _ i h b e q=>?_;have k:s.TypeIs (.ref a) "list":=⟨_,b,rfl⟩;refine xg Qv k F.entry_list_reverse (F.args_list_reverse_1 _) (AutoSeq1.list_reverse_list_0 a i.toArray h<|by exact f2<|>k0 e) ⟨b,?_⟩;have f:=uv (show IsL s.heap a i.toArray h from b) (·.reverse);rw[List.reverse_toArray]at f;exact BB (zM (cx:=s.toks) c d (ql ..) f q.Nv (by exact jb<|>e) j)
theorem dc.U7 {a b}(q:dc Z p o a b):dc Z p o a.dropLast b.dropLast:=V (ue ..)<|V (ue ..)<|V (q.eE ..)<|q.pY _
theorem aan {a:Nat}{e:O}(h:a3 Z p m s.heap)(i:m.U a=J g)(l:g.getLast?=J e)(x:H e (m.a1 a g.dropLast)):aS (aL Z) A (dL (.builtin "list.pop") [.ref a]) (c1 Z p H s) b6 s:=by
 refine hA (h.U _ _ i) λ_ _ b n d j q=>?_;have y:s.TypeIs (.ref a) "list":=⟨_,d,rfl⟩;rw[Fm]at l;refine aU (q.ju l) λv c r=>?_;rw[<-q.eE]at c;refine xg Qu y F.entry_list_pop (F.args_list_pop_1 _) (MeetsSeq.list_pop_last a b.toArray n v (by simpa using c)<|by exact f2<|>k0 j) ⟨d,?_⟩;have k:=uv (show IsL s.heap a b.toArray n from d) (λg=>g.eraseIdxIfInBounds<|b.toArray.size-1);have t:b.toArray.eraseIdxIfInBounds (b.toArray.size-1)=b.dropLast.toArray:=by refine f2<|>?_;have z:b.length-1<b.length:=(dv.mp c).1;rw[Array.eraseIdxIfInBounds];refine dif_pos (by simpa using z)<|>?_;simp-iota [ue]
 rw[t]at k;exact gR (h.a1 i (vi (ql ..)) k q.U7<|by exact qa<|>ba (bL _ _) j) λo C f=>⟨_,e,⟨⟨_,s.toks,rfl⟩,C,f⟩,o,f.eR r,x⟩
theorem Wx {a c:Nat}(b:a3 Z p m s.heap)(i:m.U a=J g)(n:m.U c=J r8)(y:g.length+r8.length<=b5)(o:H .bE (m.a1 a<|g++r8)):aS (aL Z) A (dL (.builtin "list.extend") [.ref a,.ref c]) (c1 Z p H s) b6 s:=by
 refine hA (b.U _ _ i) λ_ _ f k d t q=>hA (b.U _ _ n) λ_ _ h z x C l=>?_;have r:s.TypeIs (.ref a) "list":=⟨_,d,rfl⟩;have e:f.length+h.length<=b5:=V (q.eE ..)<|l.eE<|>y;refine xg Qt r F.entry_list_extend (F.args_list_extend_2 _ _) (AutoSeq1.list_extend_list_list_0 a f.toArray k c h.toArray z ?_ (by exact f2<|>k0 t)<|f2<|>f2<|>lZ<|>ba e (~~~_)) ⟨d,x,?_⟩
 ·simp-iota only[f2];delta Builtin.List.listTooLong;refine lZ<|>?_;simp-iota only[ek,decide_eq_true_eq,not_and];exactλ_=>kO.mpr (ba e<|~~~_)
 ·have j:=uv (show IsL s.heap a f.toArray k from d) (·++h.toArray);rw[AD]at j;exact BB (zM (cx:=s.toks) b i (ql ..) j (q.eA l) (by exact a2<|>nt e) o)
theorem U1 {a:Nat}{e:List (Int×O)}{k:Int}{u:af}{d:O}(b:a3 Z p m s.heap)(g:(Z.d1.get? qq).isSome=ag)(n:m.aQ a=J e)(x:aM Z p s.heap u d)(o:H ((hv e k).getD d) m):aS (aL Z) A (dL (.builtin "dict.get") [.ref a,.int k S,u]) (c1 Z p H s) b6 s:=by
 refine my (b.aQ _ _ n) λt _ _ y f q=>?_;have r:(a==qq)=ap:=beq_eq_false_iff_ne.mpr λh=>by rw[<-h,t]at g;cases g
 refine QI Qr f.typeIs F.entry_dict_get (F.args_dict_get_3 _ _ _) (meets_dict_get_default (kp Z) (k:=k) a (Ls k S) r u) ⟨_,f.mapOf,?_⟩;refine fO b ((yM q k).elim (λc=>em c λval z i j l=>i<|>j<|>l) λc=>?_) o
 ·exact V (c.1 ..)<|V (c.2 ..)<|x
theorem U6 {a:Nat}{b:List (Int×O)}{k:Int}{e:O}(g:a3 Z p m s.heap)(h:m.aQ a=J b)(j:hv b k=J e)(x:H e (m.ja a<|oi b k)):aS (aL Z) A (dL (.builtin "dict.pop") [.ref a,.int k S]) (c1 Z p H s) b6 s:=by
 refine my (g.aQ _ _ h) λM _ i l d q=>?_;have C:(l.map (·.1)).Nodup:=zq d λ_ _ _ _ _ _ _ _ K=>K;refine(yM q k).elim (λc=>em c λval N o r t=>?_) λc=>nomatch j.symm.trans c.2
 ·cases dr (j.symm.trans r);refine QI Qs d.typeIs F.entry_dict_pop (F.args_dict_pop_2 _ _) (meets_dict_pop_there (kp Z) (k:=k) a (Ls k S) [] (.inl rfl) rfl) ⟨l,val,d,by refine V (q.eE ..)<|?_;exact k0 i,o,λy z E=>?_⟩;exact gR (g.ja h (vi E) z (Vf q C)<|ba (UR _ _) i) λn G f=>⟨_,e,⟨⟨y,_,rfl⟩,G,f⟩,n,f.eR t,x⟩
theorem Xs {a:bm}{name:aq}{d:cM Bool}(b:s.heap.DictOf (kp Z) a Q)(slot:mQ "dict" name l)(c:qr (.builtin l)=cr (.type "method_descriptor"))(q:i (.builtin l,[.ref a]) s):aS (aL Z) A (lY (.ref a) name d) i b6 s:=getMethod_builtin b.typeIs F.plainAttrs_dict slot c b.mapOf.noDict q
theorem Ta {a:Array UInt8}{c:List UInt8}(d:KBw.bInts a=c.map λx=>((x.toNat:Nat):Int)):a=c.toArray:=by have key:∀{x y:List UInt8},x.map (λc=>((c.toNat:Nat):Int))=y.map (λc=>((c.toNat:Nat):Int))->x=y:=λ{x y} b=>List.map_inj_right (λ_ _ b=>UInt8.toNat_inj.mp<|iW.mp b)|>.mp b;exact aY (key (x:=a.toList) (y:=c) d ..)<|rfl
theorem aeW (a:Nat):∀b:Nat,(bY a b).map (λx=>((x.toNat:Nat):Int))=(KTBy.little a (b:Int)).reverse:=by
 induction a with
 |zero=>exactλ_=>rfl|succ a c=>intro b;unfold bY;rw[cD,c (b/256),KTBy.little];simp-iota
theorem Rw (a b:Nat):(bY a b).length=a:=by induction a generalizing b with
 |zero=>rfl|succ a c=>unfold bY;refine a2<|>c<|>?_;rfl
theorem aeY {g u v:fy}(d:a3 Z p m s.heap)(a:0<=q)(c:W<=8)(f:q<256^W)(e:H (.aA<|bY W q.toNat) m):aS (aL Z) A (dL (.builtin "int.to_bytes") [.int q g,.int (W:Int) u,.str (aR "big") v]) (c1 Z p H s) b6 s:=by refine KTBy.to_big c rfl a f λh j i b _=>?_;rw[(ie a).symm,<-aeW]at b;exact Ta b<|>fO d (.aA _ _<|by exact Rw<|>ba c (~~~_)) e
theorem ZR (a:List UInt8):KFB.value (KBw.bInts a.toArray)=(zw a:Nat):=by delta KFB.value zw;exact V (show KBw.bInts a.toArray=a.map λc=>((c.toNat:Nat):Int)from rfl)<|(KFB.fold_cast a 0).symm
theorem WY {x:bm}{f u:fy}(b:a3 Z p m s.heap)(e:KFB.StandsAt x s.heap)(d:a.length<=8)(c:H (.I<|zw a) m):aS (aL Z) A (dL (.ref x) [.bytes a.toArray f,.str (aR "big") u]) (c1 Z p H s) b6 s:=by refine KFB.call_of (z:=KFB.value<|KBw.bInts a.toArray) e (λq=>KFB.tree_big (by simpa using d) q) (fO b ?_ c);exact ZR<|>.I _ _
theorem WZ {a:jI}{j:cM Bool}{Q:af×List af->al->Prop}(b:a.In s.heap)(q:∀c,cV s.heap c->KFB.StandsAt s.heap.objs.size c->Q (.ref s.heap.objs.size,[]) {s with heap:=c,toks:=s.toks+1}):aS (aL Z) A (lY (.type "int") (aR "from_bytes") j) Q b6 s:=by
 have h:Gx (.type "int")=cr D:=by delta Gx;dsimp only;refine V (show Manifest.isStub "int"=ap by decide+kernel)<|?_;rfl
 have i:qr (.type "int")=cr (.type "type"):=by first|rfl|kernel_rfl
 have e:xc (aL Z) s.heap (qr<|.type "int") (.type "type"):=Looks.of_pure i;have f:j7 a (.type "type") "__getattribute__"=J (J<|.builtin "type.__getattribute__"):=type_tga;delta lY specialOf;refine aB (aB<|e.here<|(Gf b f).here ?_);dsimp only;refine if_pos canon_tga<|>aB (qt (Q:=λv=>Q (v,[])) (E:=b6) ?_ (λ_ _ d=>ck d) λ_ _ d=>d);have g:xc (aL Z) s.heap (Gx<|.type "int") D:=Looks.of_pure h;refine cls_open b g e f (looks_hook b (r:=D)<|by rfl) (by show subIn a _ _=_;rfl) (r:=.get (.builtin "classmethod_descriptor.__get__") (.builtin "int.from_bytes") .none<|.type "int") (by rfl) ?_;show aS _ _ (kf [.builtin "int.from_bytes"] (dL (.builtin "classmethod_descriptor.__get__") [.builtin "int.from_bytes",.none,.type "int"])>>=λv=>ret v) _ _ _;refine aB (mW<|qs KFB.slot_get KFB.type_fb KFB.entry_get (KFB.run_get ⟨_,rfl,ck<|ck ?_⟩)<|KFB.args_get _ _ _);exact q _ (cV.hB _ _) (ii _ rfl)
end
namespace c7
theorem NS:mQ "bytes" "join" "bytes.join":=.of (owner:="bytes") (n:="join") (by refine ji<|>jh<|>?_;kernel_rfl) (by decide+kernel) (by decide+kernel) (by decide+kernel) (by first|exact .inl (by decide+kernel)|exact .inr<|by decide+kernel) (by refine o3<|>?_;kernel_rfl)
theorem Vt:kP iZ "bytes.join"=J Builtin.«bytes.join»:=by first|exact xi (by kernel_rfl)|exact a (by kernel_rfl)
theorem RV (a b:af):mS "bytes.join" ⟨[a,b],[]⟩:=by delta mS;kernel_rfl
theorem afc:qr (.builtin "bytes.join")=cr (.type "method_descriptor"):=by show builtinType _=_;refine builtinType_eq_fast<|>?_;kernel_rfl
theorem Xc:l1 (.type "bytes") "__getattribute__"=cr (J<|.builtin "bytes.__getattribute__"):=by refine ji<|>jh<|>?_;kernel_rfl
theorem Ud:(Manifest.canonical "bytes.__getattribute__" !="object.__getattribute__")=ap:=by decide+kernel
theorem Zw:l1 (.type "bytes") "__getattr__"=cr D:=by refine ji<|>jh<|>?_;kernel_rfl
end c7
theorem SI:∀{c:List (List UInt8)},pB g=J c->∀{i:Nat} {x:O},g[i]?=J x->∃a,x=.aA a/\c[i]?=J a:=by
 induction g with
 |nil=>exactλ_ _ _ b=>nomatch b|cons x l j=>
  intro c d i y b;refine vl d λa k e f h=>?_;clear d;subst h;induction i using ey with
  |zero=>exact⟨a,dr b▸ID e,rfl⟩|succ i=>exact j f (i:=i) b
theorem SJ:∀{b:List (List UInt8)},pB g=J b->b.length=g.length:=by
 induction g with
 |nil=>exactλa=>dr a▸rfl|cons x i e=>exactλa=>vl a λf h _ c d=>d▸congrArg (·+1) (e c)
theorem Yl (c:List (List UInt8)):∀(a:Array UInt8) (b:Nat),((c.map nM).zipIdx b).foldl (λd (x:Array UInt8×Nat)=>(if x.2>0 then d++(#[]:Array UInt8)else d)++x.1) a=a++c.flatten.toArray:=by
 induction c with
 |nil=>intro a b;simp-iota|cons f g e=>
  intro a b;refine f1<|>Fy<|>AH<|>e<|>?_;have:(if b>0 then a++(#[]:Array UInt8)else a)=a:=by split<;>simp-iota
  dsimp-iota only;exact V (this ..)<|V (wO ..)<|V (Array.append_assoc ..)<|aY (AD ..)<|rfl
theorem adS (a:List (List UInt8))(b:Nat):(a.map nM).foldl (λ(x:Nat) (y:Array UInt8)=>x+y.size) b=b+a.flatten.length:=by
 induction a generalizing b with
 |nil=>rfl|cons d e c=>exact f1<|>AH<|>c<|>wO<|>a2<|>f2<|>iB<|>rfl
section
variable {cT:ln}{dy:gC}{A:cn}{E:af->al->Prop}{s:al}
theorem aeM {a:Array UInt8}{b:Option (Array UInt8×Option af)->al->Prop}(q:b (J (a,D)) s):aS (fh cT dy) A (Qk l (.bytes a S) 0) b E s:=by
 delta Qk af2;refine aB (GG ?_);refine F3 F1<|>aB (ck ?_);refine F2<|>aB (ck ?_);refine if_neg (~~~_)<|>aB (ck ?_);have c:rX l (.bytes a S) ((0:Int)==afZ)=cr (J a):=by delta rX;refine F3 F1<|>F2<|>QE<|>?_;kernel_rfl
 refine aB (dX c<|ck ?_);exact ck q
end
section
variable {M:fx}{A:cn}{E:af->al->Prop}{s:al}
theorem WS {d:Type}{e:Nat->d->cM (ForInStep d)}(c:Nat->d)(k:∀i,i<W->∀a:ForInStep d->al->Prop,a (.yield<|c<|i+1) s->aS M A (e i<|c i) a E s){a:d->al->Prop}{g:d}(h:g=c 0)(j:a (c W) s):aS M A (forIn [:W] g e) a E s:=by
 subst h;refine Std.Legacy.Range.forIn_eq_forIn_range'<|>?_;have l:([:W]:Std.Legacy.Range).size=W:=by simp-iota [Std.Legacy.Range.size]
 show aS M A (forIn (uk 0 ([:W]:Std.Legacy.Range).size 1) (c 0) e) a E s;refine l<|>?_;have go:∀b i,i+b=W->aS M A (forIn (uk i b 1) (c i) e) a E s:=by
  intro b;induction b with
  |zero=>intro i f;obtain rfl:i=W:=f;exact ck j
  |succ b m=>intro i f;exact List.range'_succ<|>Fi<|>aB (k i (f▸wZ (hU b)) _<|m (i+1)<|(Nat.succ_add_eq_add_succ i b).trans f)
 exact go W 0 (jG W)
theorem afJ {d:Type}{b c:cM d}{a:d->al->Prop}(e:b=c)(f:aS M A c a E s):aS M A b a E s:=e▸f
theorem Yi {a:Type}{l:List af}(d:l.length≠1)(c:af->a)(b:Array af->a):Builtin.Bytes.joinM.match_1 (λ_=>a) l.toArray c b=b l.toArray:=by
 rcases l with _|⟨v,_|⟨f,e⟩⟩
 ·rfl
 ·exact absurd rfl d
 ·rfl
end
section
variable {Z:bj}{A:cn}{p:bi}{s:al}{m:w}
theorem Yj {A:cn}:∀{keep:List af} {b:al},f () b->aS (aL Z) A (Qf (e.map λv=>(v,D)) keep) f b6 b:=by
 induction e with
 |nil=>exactλa=>ck a|cons v d c=>intro keep b a;refine f1<|>?_;unfold Qf;exact aB (Re<|c a)
theorem Zt (a:∀v∈e,v.onHeap=ap):((e.map λv=>(v,(D:Option af))).any λx=>x.1.onHeap)=ap:=O5<|>O3.mpr λv b=>by exact V (show((λx:af×Option af=>x.1.onHeap)∘λv=>(v,D)) v=v.onHeap from rfl)<|V (a v b ..)<|rD
theorem LK (a:List (List UInt8)):af1 #[] (((a.map nM).toArray).toList)=a.flatten.toArray:=(Yl a #[] 0).trans (Array.empty_append ..)
def GV (a:List af)(c:List (List UInt8)):Prop:=c.length=a.length/\∀i,i<a.length->∃b u,a[i]?=J (.bytes b.toArray u)/\c[i]?=J b
theorem ZQ {b:List (List UInt8)}(q:dc Z p o e g)(c:pB g=J b):GV e b:=⟨(SJ c).trans q.eE.symm,λi d=>aU (q.ju<|du<|q.eE▸d) λv a h=>aU (SI c<|du<|q.eE▸d) λf j k=>lc j h (G:=λv=>e[i]?=J v->_) (λu _ a=>⟨f,u,a,k⟩) a⟩
theorem ZP {b:List (List UInt8)}(q:GV e b){i:Nat}:∀v∈e.take i,v.onHeap=ap:=λv d=>aW (List.mem_iff_getElem?.mp<|lj d) λj a=>ia (q.2 j (dv.mp a).1) λf u c _=>dr (c.symm.trans a)▸rfl
theorem Yk {a:Nat}{c:List (List UInt8)}(l:a3 Z p m s.heap)(C:m.U a=J g)(t:pB g=J c)(e:c.flatten.length<=b5)(j:H (.aA c.flatten) m):aS (aL Z) A (dL (.builtin "bytes.join") [.bytes (#[]:Array UInt8) S,.ref a]) (c1 Z p H s) b6 s:=by
 refine hA (l.U _ _ C) λ_ _ b P k N q=>?_;have item:=ZQ q t;refine qs c7.NS (jg s _ S) c7.Vt ?_ (c7.RV _ _);show aS _ _ (Qg .bytes ⟨[.bytes #[] S,.ref a],[]⟩) _ _ s;delta Qg;refine aB (dX (a:=(.bytes #[] S,.ref a)) rfl<|aB ?_);delta af0;refine aB (xn (show s.TypeIs (.ref a) "list"from⟨_,k,rfl⟩)<|uz (~~~_)<|ck<|aB<|uG k rfl<|uz (~~~_) ?_);by_cases ff:b.length=1
 ·refine aW (show∃x,b=[x]from Pu.mp ff) λx f=>aW (show∃x,c=[x]from Pu.mp<|item.1.trans ff) λd n=>ia (item.2 0<|ff▸FE) λM u h r=>?_;rw[f]at h⊢;rw[n]at r e j;cases dr h;cases dr r;have o:[d].flatten=d:=dn d;rw[o]at e j;refine aB (xn (jg _ _ _)<|uz (~~~_)<|aB<|l2<|aB<|ck<|ck ⟨_,rfl,?_⟩);exact lL l (.aA _ _<|nt e) j
 ·refine afJ (Yi ff _ _) (aB<|WS (λi=>(((c.take i).map nM).toArray,(b.take i).map λv=>(v,D))) (λi E K F=>?_) rfl ?_)
  ·refine ia (item.2 i E) λd u f n=>aB (uG k rfl ?_);have z:b.toArray.getD i j5=.bytes d.toArray u:=(Array.getD_eq_getD_getElem? ..).trans (congrArg (λG:Option af=>G.getD j5)<|(wP ..).trans f);dsimp only;refine z<|>Zt (ZP item)<|>g3 (~~~_) (aB<|mW<|aeM<|aB<|uG k rfl<|g3 (bne_self_eq_false _)<|ck ?_);have h:(((c.take i).map nM).toArray.push d.toArray,((b.take i).map λv=>(v,(D:Option af)))++[(Value.bytes d.toArray u,D)])=((((c.take<|i+1).map nM).toArray),(b.take<|i+1).map λv=>(v,D)):=by refine PK<|>PK<|>f<|>n<|>?_;simp-iota
   exact h▸F
  ·have y:b.take b.toArray.size=b:=nL;have o:c.take b.toArray.size=c:=V (f2 ..)<|aY (item.1 ..)<|nL<|>rfl;dsimp-iota only;refine y<|>o<|>aB (dX (a:=#[]) rfl<|g3 (F4<|List.foldl_toArray<|>adS<|>ba (fv<|by exact V (show(#[]:Array UInt8).size=0 from rfl)<|ur<|>jG<|>rfl) (ba e<|~~~_))<|aB<|GI ?_<|LK<|>f2<|>vV e)
   ·exact LK<|>aB (mW<|xm<|aB<|Yj<|ck ⟨_,rfl,fO l (.aA _ _<|nt e) j⟩)
end
section
variable {Z:bj}{A:cn}{p:bi}{s:al}{m:w}
theorem Uj (b:Option Int)(a:Nat):b.elim a (gm a)<=a:=FG b (cL a) λi=>Ul a i
theorem ael {a c:List UInt8}{i j:Nat}(b:i+c.length=j)(d:j<=a.length):(a.take i++c++a.drop j).length=a.length:=a2<|>a2<|>e1<|>gB<|>gZ (ba (b▸eN _ _) d)<|>b<|>mN d<|>rfl
theorem ad5 {x y h u:O}{v e d k:af}(n:a3 Z p m s.heap)(N:aM Z p s.heap v x)(P:aM Z p s.heap e y)(Q:aM Z p s.heap d h)(R:aM Z p s.heap k u)(b:Ei x y h u m C):B (aL Z) A (mV v (.ref s.heap.objs.size) k) (λ_ S=>pi Z p C s S) (pU s e d):=by have f:=cV.hB s.heap (z1 e d);have i:=NR n e d;refine nz b cF cF cF (λa g b=>we b λc q b=>lc q R λa8 E=>tr i g (f.d2.eR N) b λT r G j b=>zI P Q b λW F K M b=>?_) cF cF cF;exact Tm (s:=pU s e d) G j (Heap.IsSliceOf.new s.heap e d .none) K M E b.1 λz g h t=>gR (i.gh r g t<|(ael b.1<|Uj F _).symm▸j) λo H l=>⟨_,⟨⟨z,s.toks,rfl⟩,f.ca.ak H,f.d2.ak l⟩,o,b.2⟩
theorem a3.gc (g:a3 Z p m o)(e:je r o d8)(f:p r)(h:Z.d1.get? r=D):a3 Z p m d8/\e3 Z p o d8:=⟨g.d7 (λa c i b=>e a c (Ml h i) b) λa c d b=>⟨d,e a c (λq=>d<|q▸f) b⟩,λa c d _ b=>e a c (λq=>d<|q▸f) b⟩
inductive hq (Z:bj) (b:aT) (a:bm):List O->(w->Prop)->Prop
 |jS {l i:Nat} {x:List O}:b.IsListIter a l i->a≠l->i<=x.length->hq Z b a (x.drop i) (λm=>m.U l=J x)
 |cY {x left:Int}:Qy b a x left 1->0<=left->hq Z b a ((gA x left.toNat).map .I) (λ_=>True)
 |js {x left:Int}:Qy b a x left (-1)->0<=left->hq Z b a ((lD x left.toNat).map .I) (λ_=>True)
theorem hq.b7 (i:hq Z o r g C)(e:∀d,o.get? r=J d->d8.get? r=J d):hq Z d8 r g C:=by
 induction i with
 |jS a b c=>refine aU a λd f h=>?_;exact .jS ⟨d,e d f,h⟩ b c|cY a b=>exact .cY (e _ a) b|js a b=>exact .js (e _ a) b
theorem LH {v:O}(F:a3 Z p m s.heap)(E:hq Z s.heap r (v::g) C)(k:C m)(q:∀val e S,hj r s.heap e->hq Z e r g C->aM Z p s.heap val v->(∃k,e.get? r=J k)->P (J val) {s with heap:=e,toks:=S}):aS (aL Z) A (r7<|.ref r) P b6 s:=by
 generalize b:v::g=a8 at E;cases E with
 |@jS l i x a t c=>
  refine hA (F.U _ _ k) λ_ _ W Q N T R=>?_;have o:i<x.length:=by
   rcases rN i x.length with h|h
   ·exact h
   ·rw[oK h]at b;cases b
  have K:x[i]?=J v:=by rw[p4 o]at b;exact du o<|>(p3 b).1<|>rfl
  refine aU (R.ju K) λval G H=>wpAny_pyNext_list_item a ⟨_,N,rfl,Q,rfl⟩ (by simpa using G) λe f n=>q val e s.toks n ?_ H (aU f λk M _=>⟨k,M⟩);have:g=x.drop (i+1):=by rw[p4 o]at b;exact(p3 b).2
  refine this<|>?_;exact .jS f t o
 |@cY x left a t=>
  cases d:left.toNat with
  |zero=>rw[d]at b;simp-iota [gA]at b|succ j=>
   rw[d,gA,f1]at b;refine bW (p3 b) λy z=>?_;subst y;clear b;subst z;refine Rn a (Ay.mp<|up (hU j) d.symm) λe f n=>q _ e _ n ?_ (.I _ _) ⟨_,f⟩;have:j=(left-1).toNat:=by refine OX<|>d<|>?_;rfl
   refine this<|>?_;exact .cY f (ua<|OK<|Ay.mp<|up (hU j) d.symm)
 |@js x left a t=>
  cases d:left.toNat with
  |zero=>rw[d]at b;simp-iota [lD]at b|succ j=>
   rw[d,lD,f1]at b;refine bW (p3 b) λy z=>?_;subst y;clear b;subst z;refine Rn a (Ay.mp<|up (hU j) d.symm) λe f n=>q _ e _ n ?_ (.I _ _) ⟨_,f⟩;have:j=(left-1).toNat:=by refine OX<|>d<|>?_;rfl
   exact this<|>.js f (ua<|OK<|Ay.mp<|up (hU j) d.symm)
theorem LG (d:A.handled=D)(j:a3 Z p m s.heap)(h:hq Z s.heap r [] C)(t:C m)(q:∀g,je r s.heap g->P D {s with heap:=g}):aS (aL Z) A (r7<|.ref r) P b6 s:=by
 generalize e:([]:List O)=F at h;cases h with
 |@jS l i x a f c=>
  refine hA (j.U _ _ t) λ_ _ E o k z y=>?_;have:x.length<=i:=by have:=congrArg mL e;simp-iota only[Fp,gB]at this;exact aj 365323933677 this aw
  refine wpAny_pyNext_list_end d a ⟨_,k,rfl,o,rfl⟩ (by simp-iota only[wP];exact p5 (by exact y.eE<|>this)) q
 |@cY x left a f=>
  refine Rm d a ?_ q;have:=congrArg mL e;cases b:left.toNat with
  |zero=>exact AA.mp b|succ n=>rw[b]at this;simp-iota [gA]at this
 |@js x left a f=>
  refine Rm d a ?_ q;have:=congrArg mL e;cases b:left.toNat with
  |zero=>exact AA.mp b|succ n=>rw[b]at this;simp-iota [lD]at this
end
theorem S5:cd.mf.all (λq=>ep q.2==q.1&&dk (q.2<18))=ag:=by decide+kernel
theorem KZ {x:aq}{i:Nat}(a:cd.mf.lookup x=J i):ep i=x/\i<18:=by have:=f0.mp S5 _ (QU a);simp-iota only[ek,beq_iff_eq,decide_eq_true_eq]at this;exact this
theorem WL:((ih 18).all λi=>(ih 18).all λj=>(i==j)||!(ep i==ep j))=ag:=by decide+kernel
theorem KY {i j:Nat}(b:i<18)(c:j<18)(a:ep i=ep j):i=j:=by have:=f0.mp (f0.mp WL i<|ui.mpr b) j (ui.mpr c);rw[a,beq_self_eq_true]at this;simpa using this
theorem S4 {c a:Nat}(b:(hH c).contains a=ag):a<18:=by
 have key:((ih 5).all λc=>(hH c).all λa=>dk (a<18))=ag:=by decide+kernel
 rcases rN c 5 with d|d
 ·exact of_decide_eq_true (f0.mp (f0.mp key c<|ui.mpr d) a<|ud.mp b)
 ·rw[hH,p5 (show gu.length<=c from d)]at b;cases b
theorem Zb:cd.ri.all (λq=>rk q.2==q.1)=ag:=by decide+kernel
theorem Za {x:aq}(a:cd.ri.lookup x=J W):rk W=x:=by have:=f0.mp Zb _ (QU a);simpa using this
structure iH (b:bj):Prop extends hp b where
 K2:∀i,i<lv.fX.length->∃e j,b.d1.get? (b.iK i)=J e/\e.data=.func j
 Lg:∀c,c<gu.length->j7 b.dF (.ref<|b.d4 c) "__getattribute__"=J (J<|.builtin "object.__getattribute__")
 Xv:∀c,c<gu.length->j7 b.dF (.ref<|b.d4 c) "__getattr__"=J D
 aK:∀c a,c<gu.length->(hH c).contains a=ag->∃f,clsIn b.dF (b.d4 c)=J f/\f.hasDict=ag/\∃h,j7 b.dF (.ref<|b.d4 c) (ep a)=J h/\
  (h=D\/∃d k,h=J d/\Gk b.dF d "__get__"=J (J k)/\takesIn b.dF d=J ap)
 be:∀c g d,c<gu.length->nu c g=J d->j7 b.dF (.ref<|b.d4 c) (rk g)=J (J<|.ref<|b.iK d)/\xd b.dF (.ref<|b.iK d)=J (.type "function")/\d<lv.fX.length/\
  ∀a,(hH c).contains a=ag->ep a≠rk g
 Uc:∀c,c<gu.length->(∃e f,b.d1.get? (b.d4 c)=J e/\e.data=.cls f)/\Gk b.dF (.ref<|b.d4 c) "__call__"=J (J<|.builtin "type.__call__")
section
variable {Z:bj}{A:cn}{p:bi}{s:al}{m:w}
theorem y1 {a d c:Nat}(e:o.get? a=J (ka (Z.d4 c) d))(f:o.get? d=J (j6 b W)):InstAt o a (ka (Z.d4 c) d) (Z.d4 c) (J<|j6 b W):=⟨e,rfl,rfl,f⟩
theorem vL {x:aq}{a:f4}{b:Nat×O}(q:uQ Z p o a b):a.key.isStr x=(ep b.1==x):=aW q.1 λd c=>by refine c<|>?_;rfl
theorem W1 {i:Nat}(m:i<18){g:O}(h:ik Z p o b R):(∀x∈R,x.1<18)->q7 R i=J g->∃a,b.find? (·.key.isStr (ep i))=J a/\aM Z p o a.val g:=by
 induction h with
 |L=>exactλ_ a=>nomatch a|@Y a e b R q t r=>
  intro f d;unfold q7 at d;by_cases c:e.1=i
  ·rw[if_pos c]at d;exact⟨a,Pk<|(vL q).trans<|beq_iff_eq.mpr<|congrArg ep c,dr d▸q.2.2⟩
  ·rw[if_neg c]at d;refine aU (r (λx n=>f x<|.tail _ n) d) λj k l=>⟨j,?_,l⟩;exact(Fh (p:=λa:f4=>a.key.isStr<|ep i) λs=>c<|KY (f e<|.head _) m<|beq_iff_eq.mp<|(vL q).symm.trans s).trans k
theorem W3 {x:aq}(d:ik Z p o b R):(∀y∈R,ep y.1≠x)->b.find? (·.key.isStr x)=D/\b.any (·.refKey)=ap:=by
 induction d with
 |L=>exactλ_=>⟨rfl,rfl⟩|@Y a e b R q l j=>
  intro c;refine bW (j λy i=>c y<|.tail _ i) λf g=>⟨(Fh (p:=λa:f4=>a.key.isStr x) λk=>c e (.head _)<|beq_iff_eq.mp<|(vL q).symm.trans k).trans f,?_⟩
  ·exact AB<|>g<|>OJ<|>aW q.1 λm h=>by delta DictEntry.refKey;exact h<|>rfl
theorem YJ {x:aq}{a:f4}(c:b.find? (·.key.isStr x)=J a):Bd x (j6 b W)=J (J a.val):=by delta Bd;simp only[c]
theorem YI {x:aq}(a:b.find? (·.key.isStr x)=D)(c:b.any (·.refKey)=ap):Bd x (j6 b W)=J D:=by delta Bd;simp only[a];refine c<|>?_;rfl
theorem Lc {c:Nat}(a:R.all (λx=>(hH c).contains x.1)=ag):∀x∈R,x.1<18:=λx b=>S4 (f0.mp a x b)
theorem WF {i:Nat}{b:O}:q7 R i=J b->(i,b)∈R:=by
 induction R with
 |nil=>exactλa=>nomatch a|cons d f e=>
  intro a;unfold q7 at a;by_cases c:d.1=i
  ·rw[if_pos c]at a;exact dE.mpr (.inl<|Prod.ext c.symm (dr a).symm)
  ·rw[if_neg c]at a;exact .tail _ (e a)
theorem om {v a:af}(b:v=a)(c:Bc a=ag):Bc v=ag:=b▸c
theorem afz {v:af}{x:O}:aM Z p o v x->Bc v=ag:=O.casesOn (motive_1:=λx=>aM Z p o v x->Bc v=ag) x (om · rfl) (λ_ q=>om q rfl) (λ_ q=>aW q λ_ a=>om a rfl) (λ_ q=>aU q λ_ a _=>om a rfl) (λ_ q=>Aj rfl q λ_ _ _ _ _=>rfl) (λ_ _ q=>zr (ES q) λ_ _ _ _ a _ _ _ _ _ _ _=>om a rfl) (λ_ q=>om q rfl) (λ_ q=>om q rfl) (λ_ q=>om q rfl) λ_ q=>k1 (Om q) λ_ _ _ a _ _ _=>om a rfl
theorem Uq {c a:Nat}(b:(hH c).contains a=ag):c<gu.length:=by
 rcases rN c gu.length with q|q
 ·exact q
 ·rw[hH,p5 q]at b;cases b
theorem ng {b f:Type}{e:Option b}{d:b->Option f}{a:b}{c:f}(g:e=J a)(h:d a=J c):e.bind d=J c:=by subst g;exact h
theorem S2 {c:Nat}{i:Nat}{x:aq}{z:O}{v:af}{expr:Bool}(d:iH Z)(f:a3 Z p m s.heap)(y:aM Z p s.heap v (.gd c R))(o:cd.mf.lookup x=J i)(l:q7 R i=J z)(S:H z m):aS (aL Z) A (getAttr v x expr) (c1 Z p H s) b6 s:=by
 refine zr (ES y) λa b' M b9 K c9 c' P Q d8 j C=>?_;clear y;subst K;refine bW (KZ o) λG a8=>?_;clear o;subst G;refine aU (W1 a8 C (Lc j) l) λb T g=>?_;have E:Z.dF.In s.heap:=d.ti.keeps f.fs;have h:(hH c).contains i=ag:=f0.mp j _ (WF l);have k:=Uq h;refine ZG (d.aK c i k h) λF r a9 N t e=>get_value (v:=b.val) E (y1 P Q) (d.Lg c k) ?_ (afz g) (fO f g S);have n:W.ownOf F (J<|j6 M b9) (ep i)=J (J b.val):=by delta W.ownOf;exact a9<|>if_pos rfl<|>YJ T
 exact e.elim (λb=>by clear e;subst b;exact ng r<|ng t<|ng (a:=D) rfl<|ng (a:=ap) rfl<|ng n rfl) λq=>em q λN c8 b a' b8=>by clear e q;subst b;exact ng r (ng t<|ng a'<|ng b8<|ng n rfl)
theorem Y1 {c:Nat}{x:aq}{v:af}{H:cM Bool}(b:iH Z)(g:a3 Z p m s.heap)(e:aM Z p s.heap v (.gd c R))(z:cd.ri.lookup x=J W)(t:nu c W=J m8)(d:c<gu.length)(q:i (.ref<|Z.iK m8,[v]) s):aS (aL Z) A (lY v x H) i b6 s:=by refine zr (ES e) λa K M N l P Q n o S r f=>?_;clear e;subst l;obtain rfl:=Za z;have h:Z.dF.In s.heap:=b.ti.keeps g.fs;refine ou (b.be c W m8 d t) λE F _ G=>bW (W3 (x:=rk W) f λy C=>G _<|f0.mp r y C) λj k=>method_fn h (y1 n o) (b.Lg c d) (b.Xv c d) E F ?_ q;delta shadowIn;dsimp only;refine YI j k<|>?_;rfl
end
structure kl (a:bj) (k:Nat) (C:cG):Prop where
 gw:∀(e:cn) (d:bi) (j:Nat) (h:List af) (i:List O) (b:al) (g:w) (f:O->w->Prop),gE k e->a3 a d g b.heap->eW a d b.heap->dc a d b.heap h i->C.gw j i g f->
  B (aL a) e (dL (.ref<|a.iK j) h) (c1 a d f b) b
 dP:∀(e:cn) (d:bi) (c:Nat) (h:List af) (i:List O) (b:al) (g:w) (f:O->w->Prop),gE k e->a3 a d g b.heap->eW a d b.heap->dc a d b.heap h i->C.dP c i g f->
  B (aL a) e (dL (.ref<|a.d4 c) h) (c1 a d f b) b
 be:C.be=nu
section
variable {Z:bj}{A:cn}{p:bi}{s:al}{m:w}
def fa (l:List (Bool×cM af)):Prop:=l.any (·.1)=ap
theorem ot {pos:a5}{l:List (Bool×cM af)}(a:fa l):fa (kc pos l):=by delta fa kc at*;exact O5<|>a
theorem Zu {a:Type}{args:List (Bool×cM af)}(e:fa args)(d:cM af->a)(c:Bool->List (Bool×cM af)->a):evalArgs.match_1 (λ_ _=>a) ag args d c=c ag args:=by
 rcases args with _|⟨⟨b,v⟩,_|⟨y,f⟩⟩
 ·rfl
 ·induction b with
  |true=>cases e
  |false=>rfl
 ·cases b<;>rfl
theorem wF {args:List (Bool×cM af)}{a:nP->al->Prop}(e:fa args)(d:B n A (l0 args) (λc b=>a ⟨c,[]⟩ b) s):B n A (evalArgs j ag args []) a s:=by delta evalArgs;refine Zu e<|>B.aD (d.bb λc b q=>B.aD<|B.cp ?_);exact B.d5 (B.aD<|B.cp<|B.aD<|B.cp<|B.cp q)
theorem t3 {b:cM af}(c:B n A b d s):B n A (b>>=λa=>kf [a] point>>=λ_=>cr a) d s:=B.aD (c.bb λ_ _ q=>B.aD<|B.d5<|B.bk<|xm<|B.cp q)
theorem Ou {pos:a5}{a:bm}{first:List af}{args:List (Bool×cM af)}(c:fa args)(j:B n A (l0 args) (λf b=>(∃e g,b.heap.get? a=J e/\e.data=.func g)/\B n A (dL (.ref a)<|first++f) d b) s):B n A (ke pos (.ref a) first args []) d s:=by
 delta ke;refine B.aD (B.d5<|wF c<|j.bb λf b ⟨⟨e,g,i,k⟩,h⟩=>B.b7 ?_);delta fa at c;refine V c<|B.aD (B.bk ?_);delta Gv;refine aB (nS i ?_);refine k<|>ck ?_;have l:B n A (callMarked plainCall (.ref a) (first++f) []) d b:=λo p x y m=>by delta callMarked;exact Sem.wp_keep<|>h o p x y m
 refine B.iN ?_;split
 ·exact t3 h
 ·exact t3 l
theorem EX {pos:a5}{first:List af}{args:List (Bool×cM af)}(a:fa args)(c:B n A (l0 args) (λb=>B n A (dL (.builtin l)<|first++b) d) s):B n A (ke pos (.builtin l) first args []) d s:=by delta ke;refine B.aD (B.d5<|wF a<|c.bb λb f e=>B.b7 ?_);delta fa at a;exact V a<|B.aD (B.cp<|t3 e)
theorem Ov {pos:a5}{first:List af}{args:List (Bool×cM af)}(a:fa args)(c:B n A (l0 args) (λb=>B n A (dL (.type l)<|first++b) d) s):B n A (ke pos (.type l) first args []) d s:=by delta ke;refine B.aD (B.d5<|wF a<|c.bb λb f e=>B.b7 ?_);delta fa at a;exact V a<|B.aD (B.cp<|t3 e)
theorem afL {pos:a5}{c:Nat}{args:List (Bool×cM af)}(f:iH Z)(l:c<gu.length)(b:fa args)(k:B (aL Z) A (l0 args) (λh a=>(∃g,a3 Z p g a.heap)/\B (aL Z) A (dL (.ref<|Z.d4 c) h) d a) s):B (aL Z) A (ke pos (.ref<|Z.d4 c) [] args []) d s:=by delta ke;refine B.aD (B.d5<|wF b<|k.bb λh a ⟨⟨g,e⟩,o⟩=>B.b7 ?_);delta fa at b;refine V b<|bW (f.Uc c l) λq n=>?_;obtain⟨t,r,j,m⟩:=q;have i:Z.dF.In a.heap:=f.ti.keeps e.fs;refine B.aD (B.bk ?_);delta Gv;refine aB (nS (e.fs _ _ j) ?_);refine m<|>aB ((looks_specialIn i n).here ?_);refine ck ?_;dsimp-iota only[gW];exact if_pos (~~~_)<|>t3 o
theorem Ao {x:aq}{a pos:a5}{args:List (Bool×cM af)}(c:fa args)(h:W<30)(g:(a.endLine !=pos.line)=ap)(e:∀k,B n A (lY j x k) (λb=>B n A (ke pos b.1 b.2 args []) d) s):B n A (uB t x a pos i' j W args []) d s:=by
 have f:QV W args []=ag:=by
  delta QV;delta fa at c;have:args.all (λx=>!x.1)=ag:=by refine List.all_eq_not_any_not<|>?_;simpa using c
  simp[this,h]
 delta uB;refine f<|>B.aD (B.d5 ?_);delta calleeOf;refine if_pos rfl<|>(e _).bb λb m q=>?_;obtain⟨l,first⟩:=b;dsimp only;have i:QW ag t i' a pos=cr pos:=by
  delta QW;have:(a.endLine==pos.line)=ag:=by simpa [bne]using g
  simp-iota [this]
 exact i<|>B.aD (B.cp q)
end
section
variable {Z:bj}{A:cn}{p:bi}{c:cA}{S:dw}{ρ:bp}{C:cG}{s:al}{m:w}
def qC (Z:bj)(v:af)(f:List O)(e:w->Prop)(a:aT):Prop:=∀(A:cn) (s:al) (c:af->al->Prop),s.heap=a->(∀b,cV a b->hq Z b a.objs.size f e->(∃d,b.get? a.objs.size=J d)->c (.ref a.objs.size) {s with heap:=b})->aS (aL Z) A (xk v) c b6 s
def m0 (Z:bj)(A:cn)(p:bi)(c:cA)(S:dw)(ρ:bp)(h:am)(g:w->(List O->(w->Prop)->w->Prop)->Prop):Prop:=∀(s:al) (m:w) (f:List O->(w->Prop)->w->Prop),dh Z p c S ρ m s->g m f->B (aL Z) A (c5 h S) (λv d=>∃a e b,dG Z p s d/\a3 Z p a d.heap/\qC Z v e b d.heap/\b a/\e.length<=4*b5/\f e b a) s
theorem Yg {a:Nat}(c:a3 Z p m o)(e:m.U a=J g):qC Z (.ref a) g (λj=>j.U a=J g) o:=by intro A s n f h;subst f;refine hA (c.U _ _ e) λ_ _ t k b r q=>wpAny_pyIter_list ⟨_,b,rfl,k,rfl⟩ (h _ (cV.hB _ _) ?_ ⟨_,ii _ rfl⟩);exact hq.jS (l:=a) (i:=0) (x:=g) ⟨_,ii _ rfl,rfl,rfl⟩ (λd=>absurd (nQ b)<|by exact aY (d ..)<|eI _) (dB _)
theorem Yh {a b:Int}{j u v:fy}(d:iT a)(e:iT b)(g:Ba o r a b 1 j u v):qC Z (.ref r) ((gA a (b-a).toNat).map .I) (λ_=>True) o:=by
 intro A s k h i;subst h;delta iT at d e;refine Rk g (small_one (fU (~~~_) d.1) (iU d.2<|~~~_) (fU (~~~_) e.1)<|iU e.2<|~~~_) (i _ (cV.hB _ _) ?_ ⟨_,ii _ rfl⟩);have f:(b-a).toNat=(A4 a b 1).toNat:=by
  refine Q0<|>?_;by_cases c:a<b
  ·exact V (if_pos c ..)<|rfl
  ·exact V (if_neg c ..)<|AA.mpr (OZ<|gk.mp c)
 refine f<|>?_;exact hq.cY (ii _ rfl) (by
  refine Q0<|>?_;by_cases c:a<b
  ·exact V (if_pos c ..)<|ua (kM c)
  ·exact V (if_neg c ..)<|t6 0)
theorem wo {x:Int}(a:-1048576<=x/\x<=1048576):-2^63<=x/\x<2^63:=⟨fU (~~~_) a.1,iU a.2<|~~~_⟩
theorem DZ (a b:Int):A4 a b (-1)=if a>b then a-b else 0:=by delta A4;refine if_neg (~~~_)<|>?_;simp-iota only[Int.neg_neg,Int.ediv_one];split<;>(first|rfl|exact Int.sub_add_cancel ..)
theorem Yf {a b:Int}{j u v:fy}(e:iT a)(d:iT b)(g:Ba o r a b (-1) j u v):qC Z (.ref r) ((lD a (a-b).toNat).map .I) (λ_=>True) o:=by
 intro A s k h i;subst h;delta iT at e d;refine Rk g ?_ (i _ (cV.hB _ _) ?_ ⟨_,ii _ rfl⟩)
 ·delta af4;refine DZ<|>?_;simp-iota only[af3,ek,wH,decide_eq_true_eq,beq_iff_eq,show¬((-1:Int)>0)by decide,if_false];split
  ·exact⟨⟨⟨⟨wo e,wo d⟩,by decide,by decide⟩,fU (~~~_)<|ua<|kM ‹_›,iU (Fb e.2 d.1)<|~~~_⟩,.inr (by rw[show b+(-1+1)=b from OL b];exact wo d)⟩
  ·exact⟨⟨⟨⟨wo e,wo d⟩,by decide,by decide⟩,by decide,by decide⟩,.inl rfl⟩
 ·have f:(a-b).toNat=(A4 a b (-1)).toNat:=by
   refine DZ<|>?_;by_cases c:a>b
   ·exact V (if_pos c ..)<|rfl
   ·exact V (if_neg c ..)<|AA.mpr (OZ<|gk.mp c)
  refine f<|>?_;exact hq.js (ii _ rfl) (by
   refine DZ<|>?_;by_cases c:a>b
   ·exact V (if_pos c ..)<|ua (kM c)
   ·exact V (if_neg c ..)<|t6 0)
theorem VJ (f:b4 Z A p c S ρ t N9)(h:mT t S (c5 t S)=(do let v<-c5 t S;ij t.pos;kf [v] (Bn v))):jN Z A p c S ρ t N9:=by intro s m n a l;refine h<|>B.aD ((f s m _ a l).bb λv r e=>fb e λi x k b j q=>B.b7<|B.d5 ?_);refine qY q λo d g=>?_;clear q;subst d;obtain rfl:=t0 j;exact B.bk (uH ⟨i,k,b,g⟩)
theorem Ap {c:cM af}{b:List (Bool×cM af)}{a:List af->al->Prop}(e:B n A c (λv s=>B n A (l0 b) (λd s=>a (v::d) s) s) s):B n A (l0<|(ap,c)::b) a s:=by rw[l0];exact B.aD (e.bb λv f q=>B.aD<|B.cp<|B.aD<|B.d5<|q.bb λd g q=>B.cp q)
theorem OA {b:cM af}{a:List af->al->Prop}(c:B n A b (λv s=>a [v] s) s):B n A (l0 [(ap,b)]) a s:=Ap (c.bb λ_ _ q=>B.cp q)
theorem KM:ho Z A p c S ρ [] (λm b=>b [] m):=λ_ m _ _ a d=>B.cp ⟨rfl,m,[],.cf,a.bK,.L,d⟩
theorem KL {e:w->(List O->w->Prop)->Prop}(l:b4 Z A p c S ρ t N9)(n:ho Z A p c S ρ N e)(q:eJ (t::N) S=(ap,c5 t S)::eJ N S):ho Z A p c S ρ (t::N) (λm d=>N9 m λv m=>e m λh m=>d (v::h) m):=by intro s m d pos a k;refine q<|>?_;exact Ap ((l s m _ a k).bb λv G b=>fb b λr x f i E z=>(n G r _ pos (a.dV f i) z).bb λh K b=>ov b λo y H g j F C=>⟨congrArg (·+1) o,y,x::H,f.ak g,j,.Y (g.d2.eR E) F,C⟩)
theorem VL {l h:am}{b:oX}{g:l4}{pos:a5}{a f:aX}(k:b4 Z A p c S ρ l (ao C a ρ))(n:b4 Z A p c S ρ h (ao C f ρ))(r:s2 b=J g):b4 Z A p c S ρ (.BinOp l b h pos) (ao C (.an g a f) ρ):=by intro s m Q j o;refine B.aD ((vH (Q:=λv d i=>B (aL Z) A (ij pos>>=λ_=>mU [v,d]<|xf b v d) (c1 Z p Q s) i) k n j o λv d x y G i E e t z q=>?_).bb λv H q=>B.aD<|B.d5 q);exact B.b7 (B.tA<|B.bk<|gt (Z2 r e.bK e.cS t z q) λ_ _ F=>F.fL E)
theorem VK (g:iH Z){x:aq}{pos:a5}{i:Nat}(l:lp t x S (c5 t S)=c5 t S)(h:b4 Z A p c S ρ t (ao C G ρ))(o:cd.mf.lookup x=J i):b4 Z A p c S ρ (.Attribute t x pos) (ao C (.aK G i) ρ):=by intro s m E a k;show B _ _ (do let d<-lp t x S (c5 t S);ij pos.atName;let e<-kf [d] (getAttr d x ag);letTemporaryGo t d e;cr e) _ _;refine l<|>B.aD ((h s m _ a k).bb λv M j=>fb j λK y r f q b=>B.b7<|B.aD<|B.d5<|B.bk ?_);exact MU b λH F G b=>gg b λP n b=>gt (S2 g f (G▸q) o n b) λe N z=>B.bk (aB<|wpAny_letTemporaryGo<|ck<|z.fL r)
theorem VW {pos:a5}(l:jN Z A p c S ρ t (ao C G ρ))(n:b4 Z A p c S ρ A8 (ao C S8 ρ))(o:b4 Z A p c S ρ B8 (ao C T8 ρ)):b4 Z A p c S ρ (.IfExp t A8 B8 pos) (ao C (.iN G S8 T8) ρ):=by
 intro s m q a k;show B _ _ (do if<-mT t S (c5 t S)then c5 A8 S else c5 B8 S) _ _;refine B.aD ((l s m _ a k).bb λi h j=>eP j λf b e g=>?_);induction i with
 |true=>exact(n h f _ (a.dV b e) g).bb λ_ _ d=>d.fL b|false=>exact(o h f _ (a.dV b e) g).bb λ_ _ d=>d.fL b
theorem VH {pos:a5}(l:jN Z A p c S ρ t (ao C G ρ))(n:jN Z A p c S ρ A8 (ao C S8 ρ))(o:jN Z A p c S ρ B8 (ao C T8 ρ)):jN Z A p c S ρ (.IfExp t A8 B8 pos) (ao C (.iN G S8 T8) ρ):=by
 intro s m q a k;show B _ _ (do if<-mT t S (c5 t S)then mT A8 S (c5 A8 S)else mT B8 S (c5 B8 S)) _ _;refine B.aD ((l s m _ a k).bb λi h j=>eP j λf b e g=>?_);induction i with
 |true=>exact(n h f _ (a.dV b e) g).bb λ_ _ d=>d.fL b|false=>exact(o h f _ (a.dV b e) g).bb λ_ _ d=>d.fL b
theorem V6 {x:am}{pos:a5}(j:b4 Z A p c S ρ x (ao C G ρ)):b4 Z A p c S ρ (.UnaryOp .Not x pos) (ao C (.gP G) ρ):=by intro s m d a i;refine B.aD ((j s m _ a i).bb λv n h=>fb h λq y o e l b=>B.b7<|B.d5 ?_);refine qY b λf g k=>?_;clear b;subst g;obtain rfl:=t0 l;exact B.bk (not_of<|uH (show c1 Z p d s (.bool<|!f) n from(lL e (.bs _) k).fL o))
theorem VI {x:am}{pos:a5}(h:jN Z A p c S ρ x (ao C G ρ)):jN Z A p c S ρ (.UnaryOp .Not x pos) (ao C (.gP G) ρ):=by intro s m d a g;show B _ _ (do return !(<-mT x S (c5 x S))) _ _;refine B.aD ((h s m (λb m=>el d (.bs !b) m) a g).bb λb l f=>eP f λi k e j=>B.cp ⟨i,k,e,j⟩)
theorem Mr {b:qi}(c:xe b t=ap)(a:cM af):Gw [b] [t] [a]=[a]:=by show [QT b t a]=[a];delta QT;exact c<|>rfl
theorem IS {o:qi}{P:pb}{x y:O}{v F:af}{Q:Bool->w->Prop}(G:hp Z)(M:A.units+20<kd)(S:yH o=J P)(k:a3 Z p m s.heap)(g:aM Z p s.heap v x)(l:aM Z p s.heap F y)(c:Cv P x y m λb=>Q b m):aS (aL Z) A (nR o v F) (λr t=>∃b,r=.bool b/\l6 Z p Q s b t) b6 s:=by
 have H:∀{b:Bool} {E:Nat},Q b m->l6 Z p Q s b {s with toks:=E}:=λq=>⟨m,.wz,k,q⟩;have e:∀{b:Bool},Q b m->l6 Z p Q s b s:=λq=>⟨m,.cf,k,q⟩;have z:gS x y (λi j=>∀h u:fy,aS (aL Z) A (nR o (.int i h)<|.int j u) (λr t=>∃b,r=.bool b/\l6 Z p Q s b t) b6 s)->aS (aL Z) A (nR o v F) (λr t=>∃b,r=.bool b/\l6 Z p Q s b t) b6 s:=λq=>zA q λi j f n q=>fc f g λh=>fc n l λu=>q h u;have C:∀{d N:Int->Int->Prop},(∀i j,d i j->N i j)->gS x y d->gS x y N:=λR q=>zA q λi j f n q=>f▸n▸R i j q;cases o<;>cases S;case Eq=>exact KI (K:=λb=>Q b m) k g l M c λb q d=>d.1 _ ⟨b,rfl,e q⟩
 case NotEq=>exact KI (K:=λb=>Q (!b) m) k g l M c λb q d=>d.2 _ ⟨!b,rfl,e q⟩
 case In=>exact Lv (K:=λb=>Q b m) k g l G.zh c λb q d=>d.1 _ λE=>⟨b,rfl,H q⟩
 case NotIn=>exact Lv (K:=λb=>Q (!b) m) k g l G.zh c λb q d=>d.2 _ λE=>⟨!b,rfl,H q⟩
 case IsNot=>exact bW (X7 c) λn c=>Ag n l (zD c (λf c=>Ag f g<|dX rfl ⟨_,rfl,e c⟩) cF zn cF cF λa f c=>kL f g<|dX rfl ⟨_,rfl,e c⟩)
 case Lt=>exact z (C (λi j q h u=>lt_int ⟨_,rfl,e q⟩) c)
 case LtE=>exact z (C (λi j q h u=>le_int ⟨_,rfl,e q⟩) c)
 case Gt=>exact z (C (λi j q h u=>gt_int ⟨_,rfl,e q⟩) c)
 case GtE=>exact z (C (λi j q h u=>ge_int ⟨_,rfl,e q⟩) c)
theorem VR {l e:am}{d:qi}{h:pb}{pos:a5}{a b:aX}(j:hp Z)(H:A.units+20<kd)(t:b4 Z A p c S ρ l (ao C a ρ))(z:b4 Z A p c S ρ e (ao C b ρ))(G:yH d=J h)(F:xe d e=ap):b4 Z A p c S ρ (.Compare l [d] [e] pos) (ao C (.a7 h a b) ρ):=by intro s m Q o E;show B _ _ (do compareChain pos (<-c5 l S) [d] (Gw [d] [e] [c5 e S])) _ _;refine Mr F<|>B.aD ((vH (Q:=λv f i=>B (aL Z) A (ij pos>>=λ_=>mU [v,f]<|nR d v f) (c1 Z p Q s) i) t z o E λv f x y W i R n N P q=>?_).bb λv a8 q=>B.aD<|B.d5 q);refine B.b7 (B.tA<|B.bk<|gt (IS (Q:=λb m=>Q (.bs b) m) j H G n.bK N P q) λv a9 g=>DD g λb r K T k M=>?_);clear g;subst r;exact⟨K,.bs b,R.ak T,k,.bs b,M⟩
theorem VG {l d:am}{b:qi}{h:pb}{pos:a5}{a e:aX}(j:hp Z)(G:A.units+20<kd)(r:b4 Z A p c S ρ l (ao C a ρ))(t:b4 Z A p c S ρ d (ao C e ρ))(F:yH b=J h)(E:xe b d=ap):jN Z A p c S ρ (.Compare l [b] [d] pos) (ao C (.a7 h a e) ρ):=by intro s m Q n z;show B _ _ (do testChain pos (<-c5 l S) [b] (Gw [b] [d] [c5 d S])) _ _;refine Mr E<|>B.aD ((vH (Q:=λv f i=>B (aL Z) A (ij pos>>=λ_=>do let c<-mU [v,f] (nR b v f);kf [c] (Bn c)) (l6 Z p Q s) i) r t n z λv f x y P i M k H K q=>?_).bb λv R q=>B.aD<|B.d5 q);refine B.b7 (B.aD<|B.tA<|B.bk<|gt (IS (Q:=Q) j G F k.bK H K q) λv T g=>aU g λe o N=>?_);clear g;subst o;exact B.d5 (B.bk<|uH<|N.fL M)
end
section
variable {Z:bj}{A:cn}{p:bi}{c:cA}{S:dw}{ρ:bp}{C:cG}{s:al}{m:w}
abbrev sY (a:w6):aX->aX->aX:=cond (a==.And) aX.hG aX.hd
theorem KP {q:am->Option aX}{f:w6}{pos:a5}(r:∀W,di (q W) λE=>b4 Z A p c S ρ W<|ao C E ρ):∀(a9:List am),di (tK q (sY f) a9) λE=>∀(s:al) (m:w) (i:O->w->Prop),dh Z p c S ρ m s->ao C E ρ m i->B (aL Z) A (boolOp pos f<|evalEach a9 S) (c1 Z p i s) s
 |[]=>ib|[x]=>r x|x::y::M=>cB (z:=q x) (k:=λa=>(tK q (sY f)<|y::M).map<|sY f a) λo T=>eu λF a' s m i a h=>by
  show B _ _ (do
   let v<-c5 x S;ij pos;let b9<-kf [v] (Bn v);match f,b9 with
   |.And,ap|.Or,ag=>cr v
   |_,_=>boolOp pos f<|evalEach (y::M) S) _ _
  have a8:=KP (pos:=pos) r (y::M) F a';induction f with
  |And=>
   have h:ao C (.hG o F) ρ m i:=h;refine B.aD ((r x o T s m _ a h).bb λv Q e=>fb e λn z g j N H=>B.b7 ?_);refine qY H λl d b=>?_;subst d;obtain rfl:=t0 N;refine B.aD (B.d5<|B.bk<|uH ?_);induction l with
   |true=>refine(a8 Q n _ (a.dV g j) b).bb λv b8 e=>fb e λG z R t P K=>qY K λl d b=>?_;subst d;exact⟨G,_,g.ak R,t,P,b⟩|false=>exact B.cp ⟨n,_,g,j,.bs _,b⟩
  |Or=>
   have h:ao C (.hd o F) ρ m i:=h;refine B.aD ((r x o T s m _ a h).bb λv Q e=>fb e λn z g j N H=>B.b7 ?_);refine qY H λl d b=>?_;subst d;obtain rfl:=t0 N;refine B.aD (B.d5<|B.bk<|uH ?_);induction l with
   |false=>refine(a8 Q n _ (a.dV g j) b).bb λv b8 e=>fb e λG z R t P K=>qY K λl d b=>?_;subst d;exact⟨G,_,g.ak R,t,P,b⟩|true=>exact B.cp ⟨n,_,g,j,.bs _,b⟩
theorem KN {o:am->Option aX}{b:w6}(q:∀H,di (o H) λi=>jN Z A p c S ρ H<|ao C i ρ):∀(M:List am),di (tK o (sY b) M) λi=>∀(s:al) (m:w) (e:Bool->w->Prop),dh Z p c S ρ m s->ao C i ρ m (el e)->B (aL Z) A (Gp b M S) (l6 Z p e s) s
 |[]=>ib|[x]=>λi N s m e a d=>by
  show B _ _ (do
   match b,<-mT x S (c5 x S)with
   |.And,ap=>cr ap|.Or,ag=>cr ag|_,_=>Gp b [] S) _ _
  refine B.aD ((q x i N s m e a d).bb λh r z=>?_);cases b<;>cases h<;>exact B.cp z
 |x::y::F=>cB (z:=o x) (k:=λa=>(tK o (sY b)<|y::F).map<|sY b a) λn G=>eu λt P s m e a d=>by
  show B _ _ (do
   match b,<-mT x S (c5 x S)with
   |.And,ap=>cr ap|.Or,ag=>cr ag|_,_=>Gp b (y::F) S) _ _
  have K:=KN q (y::F) t P;induction b with
  |And=>
   have d:ao C (.hG n t) ρ m (el e):=d;refine B.aD ((q x n G s m _ a d).bb λh r E=>eP E λj f g l=>?_);induction h with
   |true=>exact(K r j _ (a.dV f g) l).bb λ_ _ z=>z.fL f|false=>exact B.cp ⟨j,f,g,l⟩
  |Or=>
   have d:ao C (.hd n t) ρ m (el e):=d;refine B.aD ((q x n G s m _ a d).bb λh r E=>eP E λj f g l=>?_);induction h with
   |false=>exact(K r j _ (a.dV f g) l).bb λ_ _ z=>z.fL f|true=>exact B.cp ⟨j,f,g,l⟩
theorem We {d i:am}{pos:a5}{a f:aX}(k:b4 Z A p c S ρ d (ao C a ρ))(l:b4 Z A p c S ρ i (ao C f ρ))(o:∀e b,uC i ap e b=mU [e,b] (o1 e b)):b4 Z A p c S ρ (.Subscript d i pos) (ao C (.as a f) ρ):=by intro s m Q j n;refine B.aD ((vH (Q:=λv g=>B (aL Z) A (ij pos>>=λ_=>rW d i v g)<|c1 Z p Q s) k l j n λv g x y F G z h r t q=>?_).bb λv H q=>B.aD<|B.d5 q);exact B.b7 (B.bk<|gt (aet h.bK r t o q) λ_ _ E=>E.fL z)
def qy (Z:bj)(A:cn)(p:bi)(c:cA)(S:dw)(ρ:bp)(d:Option am)(b:w->(O->w->Prop)->Prop):Prop:=∀(s:al) (m:w) (a:O->w->Prop),dh Z p c S ρ m s->b m a->B (aL Z) A (Br<|Bi d S) (c1 Z p a s) s
theorem yP {e:am->Option aX}(f:∀b,di (e b) λd=>b4 Z A p c S ρ b<|ao C d ρ):∀b,di (tL e b) λd=>qy Z A p c S ρ b (ao C d ρ)
 |none=>gy λs m h a g=>B.cp (lL a.bK .bE g)|some x=>f x
theorem NQ {i h:Option am}{pos:a5}(x:qy Z A p c S ρ i (ao C G ρ))(y:qy Z A p c S ρ h (ao C S8 ρ)){j:O->O->w->Prop}(a:dh Z p c S ρ m s)(z:ao C G ρ m λl m=>ao C S8 ρ m λu m=>j l u m)(E:∀f e l u n b,dG Z p s b->dh Z p c S ρ n b->aM Z p b.heap f l->aM Z p b.heap e u->j l u n->d (.ref b.heap.objs.size) {b with heap:=b.heap.push {cls:=.type "slice",data:=.fields #[f,e,.none]}}):B (aL Z) A (c5 (.Slice i h D pos) S) d s:=by
 show B _ _ (do
  let l<-Br (Bi i S);let u<-kf [l] (Br<|Bi h S);let s<-kf [l,u] (Br<|Bi D S);newFields "slice" [l,u,s]) _ _
 refine B.aD ((x s m _ a z).bb λf Q g=>fb g λF l o r N K=>B.aD<|B.d5<|(y Q F _ (a.dV o r) K).bb λe R g=>fb g λH u q t P M=>B.aD<|B.d5<|B.cp ?_);have k:=o.ak q;exact B.bk (Bs<|E f e l u H R k (a.dV k t) (q.d2.eR N) P M)
theorem Wd {d b:Option am}{i pos:a5}{a g h:aX}(o:b4 Z A p c S ρ t (ao C a ρ))(q:qy Z A p c S ρ d (ao C g ρ))(r:qy Z A p c S ρ b (ao C h ρ)):b4 Z A p c S ρ (.Subscript t (.Slice d b D i) pos) (ao C (.eF a g h) ρ):=by intro s m P f z;refine B.aD ((o s m _ f z).bb λv a8 y=>fb y λT x j n G E=>B.aD<|B.d5<|NQ q r (f.dV j n) E λR Q l u W M k e H K F=>B.b7 ?_);show B _ _ (rW t (.Slice d b D i) v<|.ref M.heap.objs.size) _ _;exact B.bk (gt (ad4 e.bK e.cS (k.d2.eR G) H K (λ_ _=>rfl) F) λ_ _ N=>N.fL<|j.ak k)
theorem Wg {pos:a5}{j:iF}(l:ho Z A p c S ρ N (gj C j ρ))(n:N.length<=1000):b4 Z A p c S ρ (.Tuple N W pos) (ao C (.ce j) ρ):=by
 intro s m x a k;refine B.b7 (B.aD<|(l s m _ pos a k).bb λi g e=>ov e λy o t h d r q=>?_);have f:i.length<=b5:=by delta b5;exact ac 0x2e46fc1d2325b7cc6f8 n e.1
 refine B.bk (Rj ?_<|vV f);have b:=cV.hB g.heap {cls:=.type "tuple",data:=.seq i.toArray};have low:=(a.dV h d).cS;refine⟨o,.ce t,h.ak<|dG.gv (cx:=g.toks) b,d.gv b,.ce low.cS.vK (ii _ rfl) rfl rfl f<|b.d2.le r,q⟩
theorem V0 {pos:a5}{g:iF}(j:ho Z A p c S ρ N (gj C g ρ)):b4 Z A p c S ρ (.List N pos) (ao C (.ah g) ρ):=by intro s m n a i;refine B.b7 (B.aD<|(j s m _ pos a i).bb λl q h=>ov h λ_ o r f b e d=>?_);have k:l.length<=b5:=e.eE<|>d.1;exact B.bk (GK ((DS b (a.dV f b).cS e d).fL f)<|vV k)
theorem VV {pos:a5}:b4 Z A p c S ρ (.Dict [] [] pos) (ao C .vC ρ):=by intro s m h a g;refine B.b7 (B.bk ?_);show aS _ _ newDict _ _ _;refine Bs ?_;have d:=cV.hB s.heap {cls:=.type "dict",data:=.dict #[]};have b:=a.bK.gv d;refine⟨m.ja s.heap.objs.size [],.fB s.heap.objs.size,dG.gv (cx:=s.toks) d,⟨b.fs,b.U,b.a4,λe x f=>?_⟩,.fB _,g _<|a.bK.WX<|hJ _⟩;exact(rs f).elim (λc=>c.1▸c.2▸⟨a.bK.nF<|hJ _,a.cS.cS.vK,dB _,[],Heap.DictOf.new _,.L⟩) λc=>b.aQ e x c.2
end
section
variable {Z:bj}{A:cn}{p:bi}{c:cA}{S:dw}{ρ:bp}{C:cG}{s:al}{m:w}
structure Rz (a:am):Prop where
 aep:∀c S,eJ (a::c) S=(ap,c5 a S)::eJ c S
 as:∀b i,uC a ap b i=mU [b,i] (o1 b i)
 WQ:∀S v,o0 a S v=cr v
 YV:∀d,xe d a=ap
theorem zy:mz t.ctorIdx=ag->Rz t:=by cases t<;>first|exactλ_=>⟨λ_ _=>rfl,λ_ _=>rfl,λ_ _=>rfl,λ_=>rfl⟩|exactλa=>nomatch a
theorem Es {r:List am}(a:mz t.ctorIdx=ag):eJ (t::r) S=(ap,c5 t S)::eJ r S:=(zy a).aep r S
theorem Ha {d:am->Option aX}(i:∀e,di (d e) λ_=>mz e.ctorIdx=ag)(j:∀e,di (d e) λb=>b4 Z A p c S ρ e<|ao C b ρ):∀f,di (nD d f) λm=>ho Z A p c S ρ f (gj C m ρ)/\fa (eJ f S)
 |[]=>gy ⟨KM,rfl⟩|b::r=>cB (z:=d b) (k:=λa=>(nD d r).map<|iF.Y a) λa h=>eu λl n=>by refine bW (Ha i j r l n) λo q=>?_;have g:=Es (S:=S) (r:=r) (i b a h);refine⟨KL (j b _ h) o g,?_⟩;exact g<|>q
theorem Ll {x:aq}{pos:a5}(b:hp Z)(a:dh Z p c S ρ m s)(f:(x==("__debug__":aq))=ap)(g:c.fC x=ag)(h:Z.mu x=J j)(e:d j s):aS (aL Z) A (c5 (.Name x pos) S) d b6 s:=FP a.bD.ee (CZ a.bD g) (Qo (mg:=Z.mu) (by exact V (a.bD.fC ..)<|b.i3.keeps a.bK.fs) h e) f
theorem VN {N:Nat}{x:aq}{h pos:a5}{f:iF}{i g:Nat}(d:iH Z)(l:kl Z g C)(P:gE g A)(z:i<lv.fX.length)(t:ho Z A p c S ρ x8 (gj C f ρ))(E:fa (eJ x8 S))(e:(x==("__debug__":aq))=ap)(y:c.fC x=ag)(F:cd.fX.lookup x=J i):b4 Z A p c S ρ (.Call (.Name x h) x8 [] pos) (ao C (.aN i f) ρ):=by
 intro s m k a r;show B _ _ (do ke pos (<-c5 (.Name x h) S) [] (kc pos<|eJ x8 S) []) _ _;refine B.aD (B.bk<|Ll d.tohp a e y (d.fX x i F) ?_);refine Ou (ot E) ((t s m _ pos a r).bb λR Q q=>ov q λ_ G T j b M K=>⟨?_,(l.gw A p i R T Q G k P b (a.dV j b).cS M K).bb λ_ _ W=>W.fL j⟩)
 ·exact ia (d.K2 i z) λH n o e=>⟨H,n,b.fs _ _ o,e⟩
theorem V5 {x:aq}{h pos:a5}{e:iF}{i g:Nat}(d:iH Z)(l:kl Z g C)(H:gE g A)(y:i<gu.length)(q:ho Z A p c S ρ N (gj C e ρ))(z:fa (eJ N S))(r:(x==("__debug__":aq))=ap)(t:c.fC x=ag)(E:cd.lB.lookup x=J i):b4 Z A p c S ρ (.Call (.Name x h) N [] pos) (ao C (.dP i e) ρ):=by intro s m k a o;show B _ _ (do ke pos (<-c5 (.Name x h) S) [] (kc pos<|eJ N S) []) _ _;refine B.aD (B.bk<|Ll d.tohp a r t (d.lB x i E) ?_);refine afL (p:=p) d y (ot z) ((q s m _ pos a o).bb λM K n=>ov n λ_ f P j b G F=>⟨⟨f,b⟩,?_⟩);exact(l.dP A p i M P K f k H b (a.dV j b).cS G F).bb λ_ _ Q=>Q.fL j
theorem V1 {x:aq}{d pos:a5}{q:iF}(f:iH Z)(o:kl Z m8 C)(d':gE m8 A)(a8:lp t x S (c5 t S)=c5 t S)(b9:b4 Z A p c S ρ t (ao C G ρ))(T:ho Z A p c S ρ N (gj C q ρ))(z:fa (eJ N S))(b8:(d.endLine !=pos.line)=ap)(R:N.length<30)(b':cd.ri.lookup x=J W):b4 Z A p c S ρ (.Call (.Attribute t x d) N [] pos) (ao C (.be G W q) ρ):=by
 intro s m H a Q;show B _ _ (do
  let c'<-lp t x S (c5 t S);ij d.atName;uB t x d pos S c' (N.length+0) (kc pos<|eJ N S) []) _ _
 refine a8<|>B.aD ((b9 s m _ a Q).bb λv e8 i=>fb i λc8 y F l E b=>B.b7 ?_);refine MU b λg M G b=>?_;rw[o.be]at b;refine gg b λh j b=>?_;have r:g<gu.length:=(L7 j).1;refine Ao (ot z) R b8 λf'=>B.bk (Y1 f l (G▸E) b' j r ?_);refine ou (f.be g W h r j) λ_ _ a' _=>?_;have n:=a.dV F l;exact Ou (ot z) ((T e8 c8 _ pos n b).bb λe' e9 i=>ov i λ_ c9 f8 k e d9 d8=>⟨ia (f.K2 h a') λt K P a9=>⟨t,K,e.fs _ _ P,a9⟩,(o.gw A p h (v::e') (.gd g M::f8) e9 c9 H d' e (n.dV k e).cS (.Y (k.d2.eR<|G▸E) d9) d8).bb λ_ _ f9=>f9.fL<|F.ak k⟩)
theorem CN {x:aq}{l pos:a5}{i:iF}{f:af}(o:hp Z)(F:(∃k,f=.builtin k)\/∃h,f=.type h)(z:ho Z A p c S ρ N (gj C i ρ))(j:fa (eJ N S))(E:(x==("__debug__":aq))=ap)(G:c.fC x=ag)(K:s1.lookup x=J f)(g:(O->w->Prop)->List O->w->Prop)(y:∀(m:w) (b:O->w->Prop),N9 m b->gj C i ρ m (g b))(H:∀(b:O->w->Prop) (e:List O) (m:w) (d:List af) (s:al),dh Z p c S ρ m s->dc Z p s.heap d e->g b e m->B (aL Z) A (dL f d) (c1 Z p b s) s):b4 Z A p c S ρ (.Call (.Name x l) N [] pos) N9:=by
 intro s m b a t;show B _ _ (do ke pos (<-c5 (.Name x l) S) [] (kc pos<|eJ N S) []) _ _;refine B.aD (B.bk<|Co o a E G K ?_);have key:B (aL Z) A (l0<|kc pos<|eJ N S) (λd=>B (aL Z) A (dL f<|[]++d)<|c1 Z p b s) s:=(z s m _ pos a<|y m b t).bb λd R r=>ov r λ_ M e n q Q P=>(H b e M d R (a.dV n q) Q P).bb λ_ _ T=>T.fL n;rcases F with⟨k,rfl⟩|⟨h,rfl⟩
 ·exact EX (ot j) key
 ·exact Ov (ot j) key
def ff (a:O->w->Prop)(b:List O)(m:w):Prop:=ei (iR b) λx=>a x m
def hf (a:O->O->w->Prop)(b:List O)(m:w):Prop:=ei (nH b) λq=>a q.1 q.2 m
@[elab_as_elim] theorem tz {e:O->Prop}{i:List O}{f:aT}{h:List af}{d:List af->Prop}(c:ei (iR i) e)(g:dc Z p f h i)(j:∀x v,aM Z p f v x->e x->d [v]):d h:=gg c λx a c=>aU (dz.ff (b:=x)<|by exact aY (mC a ..)<|g) λv a k=>by clear g;subst a;exact j x v k c
@[elab_as_elim] theorem wA {f:O×O->Prop}{i:List O}{d:aT}{h:List af}{G:List af->Prop}(e:ei (nH i) f)(g:dc Z p d h i)(j:∀x y v u,aM Z p d v x->aM Z p d u y->f (x,y)->G [v,u]):G h:=gg e λq a e=>em (dz.hf (b:=q.1) (c:=q.2)<|by exact aY (tR a ..)<|g) λv u a k l=>by clear g;subst a;exact j q.1 q.2 v u k l e
def jp (Z:bj):Prop:=∀(A:cn) (p:bi) (s:al) (m:w) (c:O->w->Prop) (a:Nat) (d:List O) (b:List (Int×Int)) (v:af),A.handled=D->a3 Z p m s.heap->eW Z p s.heap->aM Z p s.heap v (.ah a)->m.U a=J d->vr d=J b->Df b->hc m ((pJ b).map λp=>.ce [.I p.1,.I p.2]) c->aS (aL Z) A (dL (.builtin "sorted") [v]) (c1 Z p c s) b6 s
theorem aec (i:jp Z){x:O}{v:af}(k:A.handled=D)(c:a3 Z p m s.heap)(l:eW Z p s.heap)(g:aM Z p s.heap v x)(b:bt .pW x m H):aS (aL Z) A (dL (.builtin "sorted") [v]) (c1 Z p H s) b6 s:=by
 refine k3 b λa d b=>kE b λh e b=>?_;cases q:io h with
 |none=>rw[q]at b;exact gg b λf j b=>i A p s m H a h f v k c l (d▸g) e j b.1 b.2|some f=>rw[q]at b;exact aea c l g d e q b
noncomputable def yw (a:lt):af:=lt.casesOn a (.builtin "len") (.type "bytes") (.type "bytearray") (.builtin "max") (.builtin "min") (.builtin "sum") (.builtin "sorted") (.type "list") (.type "int")
theorem Tu:∀q∈CT,s1.lookup q.1=J (yw q.2):=by decide+kernel
theorem Tt (a:lt):(∃c,yw a=.builtin c)\/∃b,yw a=.type b:=by cases a<;>first|exact .inl ⟨_,rfl⟩|exact .inr ⟨_,rfl⟩
theorem WN (f:jp Z){e:lt}{y:O}{v:af}(d:A.handled=D)(a:a3 Z p m s.heap)(l:eW Z p s.heap)(b:aM Z p s.heap v y)(c:bt e y m H):B (aL Z) A (dL (yw e) [v]) (c1 Z p H s) s:=by
 cases e;case aH=>exact B.bk (YF a b c)
 case aA=>exact B.bk (T7 d a b c)
 case yA=>exact TY a l b c
 case vX=>exact B.bk (YY d a b c)
 case vY=>exact B.bk (Y4 d a b c)
 case rv=>exact B.bk (aey d a b c)
 case pW=>exact B.bk (aec f d a l b c)
 case jS=>exact B.bk (YH a l b c)
 case I=>exact B.bk (XY a b c)
theorem KO {x:aq}{o pos:a5}{g:lt}(h:jp Z)(f:hp Z)(q:gE W A)(k:CS x=J g)(i:ho Z A p c S ρ [t] (gj C (.Y G .L) ρ))(n:fa (eJ [t] S))(j:(x==("__debug__":aq))=ap)(l:c.fC x=ag):b4 Z A p c S ρ (.Call (.Name x o) [t] [] pos) (ao C (.bt g G) ρ):=CN f (Tt g) i n j l (Tu _<|zf k) (λe=>ff λy m=>bt g y m e) (λ_ _ b=>b) λe z m r s a d b=>tz b d λy v d b=>WN h q.jv a.bK a.cS d b
theorem V3 {o pos:a5}(e:hp Z)(z:gE W A)(k:ho Z A p c S ρ N (gj C (.Y G<|.Y S8 .L) ρ))(n:fa (eJ N S))(l:c.fC "max"=ag):b4 Z A p c S ρ (.Call (.Name "max" o) N [] pos) (ao C (.i6 G S8) ρ):=CN e (.inl ⟨_,rfl⟩) k n (~~~_) l (f:=.builtin "max") (by decide+kernel) (λd=>hf λx y m=>gS x y λi j=>d (.I (if i<j then j else i)) m) (λ_ _ b=>b) λd F m E s a q b=>wA b q λx y v u r t b=>zA b λi j h g b=>B.bk (YX z.jv a.bK (h▸r) (g▸t) b)
theorem V2 {o pos:a5}(e:hp Z)(z:gE W A)(k:ho Z A p c S ρ N (gj C (.Y G<|.Y S8 .L) ρ))(n:fa (eJ N S))(l:c.fC "min"=ag):b4 Z A p c S ρ (.Call (.Name "min" o) N [] pos) (ao C (.vZ G S8) ρ):=CN e (.inl ⟨_,rfl⟩) k n (~~~_) l (f:=.builtin "min") (by decide+kernel) (λd=>hf λx y m=>gS x y λi j=>d (.I (if j<i then j else i)) m) (λ_ _ b=>b) λd F m E s a q b=>wA b q λx y v u r t b=>zA b λi j h g b=>B.bk (Y3 z.jv a.bK (h▸r) (g▸t) b)
end
structure ht (b c:bi) (d:aT):Prop where
 cY:∀a,b a->c a
 dP:∀a,c a->b a\/d.get? a=D
section
variable {Z:bj}{A:cn}{p aG:bi}{c:cA}{S:dw}{ρ:bp}{C:cG}{s:al}{m:w}
theorem ht.gP (b:ht p aG o){a:bm}(e:¬p a)(c:o.get? a=J Z9):¬aG a:=λq=>by exact(b.dP a q).elim e λd=>nomatch d.symm.trans c
theorem ht.eR (c:ht p aG o)(d:cV o d8){v x}(g:aM Z p o v x):aM Z aG d8 v x:=g.d7 λa f e b _=>⟨c.gP e b,d a f b⟩
theorem ht.le (c:ht p aG o)(d:cV o d8){v x}(g:dc Z p o v x):dc Z aG d8 v x:=g.d7 λa f e b _=>⟨c.gP e b,d a f b⟩
theorem ht.bK (c:ht p aG o)(d:cV o d8)(b:a3 Z p m o):a3 Z aG m d8:=(b.Md λa g f e=>c.gP f e).gv d
theorem ht.bD (b:ht p aG o)(d:cV o d8)(e:dZ Z p c S ρ o):dZ Z aG c S ρ d8:=e.d7 b.cY (λa f _=>d a f) (λ_ _=>b.eR d) λ_ _ q=>q
theorem ht.b7 (b:ht p aG s.heap)(d:cV s.heap o)(a:dh Z p c S ρ m s)(l:eW Z aG o):dh Z aG c S ρ m {s with heap:=o,toks:=W}:=⟨b.bK d a.bK,b.bD d a.bD,l⟩
theorem aM.js {b:aT}(d:∀a,p a->aG a){v x}(f:aM Z aG b v x):aM Z p b v x:=f.d7 λa _ e c _=>⟨λq=>e<|d a q,c⟩
theorem dc.js {b:aT}(d:∀a,p a->aG a){v x}(f:dc Z aG b v x):dc Z p b v x:=f.d7 λa _ e c _=>⟨λq=>e<|d a q,c⟩
theorem ht.cK (e:ht p aG s.heap)(f:cV s.heap o)(d:dG Z aG {s with heap:=o,toks:=W} K):dG Z p s K:=by refine fZ d.cX λh k g=>?_;subst g;exact⟨⟨h,k,rfl⟩,λa b q c=>d.ca a b (e.cY a q)<|f a b c,λa b j i c=>d.d2 a b (e.gP j c) i<|f a b c⟩
noncomputable def fe (p:bi)(b:bm):bi:=λa=>p a\/a=b
theorem Lz (c:o.get? r=D):ht p (fe p r) o:=⟨λ_ q=>.inl q,λa q=>q.elim .inl λb=>.inr<|b▸c⟩
theorem Ly (l:eW Z p o)(d:cV o d8)(e:Z.d1.get? r=D)(b:∃c,d8.get? r=J c):eW Z (fe p r) d8:=⟨λa q=>q.elim (λq=>aW (l.cS a q) λc b=>⟨c,d _ _ b⟩)<|λq=>q▸b,λa q=>q.elim (l.iq a)<|λq=>q▸e⟩
noncomputable def Ck (a:kk):aq:=kk.casesOn a "append" "extend" "reverse" "pop" "pop" "get" "join"
noncomputable def Iy (a:kk):String:=kk.casesOn a "list.append" "list.extend" "list.reverse" "list.pop" "dict.pop" "dict.get" "bytes.join"
theorem TO:∀q∈IA,q.1.1=Ck q.2:=by decide+kernel
theorem TN {g:kk}{v:af}{y:O}{c:cM Bool}(o:a3 Z p m s.heap)(j:aM Z p s.heap v y)(b:LW g y m p9)(q:p9->i (.builtin<|Iy g,[v]) s):aS (aL Z) A (lY v (Ck g) c) i b6 s:=by
 have f:∀{id:String} {e:aq},vW y m p9->mQ "list" e id->qr (.builtin id)=cr (.type "method_descriptor")->(p9->i (.builtin id,[v]) s)->aS (aL Z) A (lY v e c) i b6 s:=λb k l q=>k3 b λa d b=>kE b λz h b=>hA (o.U _ _ h) λ_ _ M H t _ _=>kL d j (G:=λv=>i (_,[v]) s->aS (aL Z) A (lY v _ c) i b6 s) (Xt t k l) (q b);have n:∀{id:String} {e:aq},Dj y m p9->mQ "dict" e id->qr (.builtin id)=cr (.type "method_descriptor")->(p9->i (.builtin id,[v]) s)->aS (aL Z) A (lY v e c) i b6 s:=λb k l q=>zz b λa d b=>td b λz h b=>my (o.aQ _ _ h) λ_ _ _ E r _=>tZ d j (G:=λv=>i (_,[v]) s->aS (aL Z) A (lY v _ c) i b6 s) (Xs r k l) (q b);cases g;case eA=>exact f b FU F.type_list_append q
 case yQ=>exact f b Qt F.type_list_extend q
 case wl=>exact f b Qv F.type_list_reverse q
 case zL=>exact f b Qu F.type_list_pop q
 case yL=>exact n b Qs F.type_dict_pop q
 case hv=>exact n b Qr F.type_dict_get q
 case np=>exact we b λC d b=>lc d j (G:=λv=>i (_,[v]) s->aS (aL Z) A (lY v _ c) i b6 s) (λK _=>getMethod_value (T:="bytes") (ga:="bytes.__getattribute__") (id:="bytes.join") (jg _ _ _) (λ_ x=>nomatch x) c7.Xc c7.Ud c7.Zw c7.NS.lookup c7.afc) (q b)
theorem TM {r:kk}{v:af}{y:O}(z:hp Z)(h:a3 Z p m s.heap)(k:aM Z p s.heap v y)(l:dc Z p s.heap e g)(b:Cm r y g m H):aS (aL Z) A (dL (.builtin<|Iy r)<|v::e) (c1 Z p H s) b6 s:=by
 cases r;case eA=>exact k3 b λa c b=>kL c k (tz b l λo u f b=>kE b λn d b=>RS h d f b.1 b.2)
 case yQ=>exact k3 b λa c b=>kL c k (tz b l λo u f b=>k3 b λC j b=>kL j f<|kE b λn d b=>kE b λP F b=>Wx h d F b.1.2 b.2)
 case wl=>exact k3 b λa c b=>kL c k (gg b λ_ c b=>dz.rl (Dr c▸l)▸kE b λn d b=>aaI h d b)
 case zL=>exact k3 b λa c b=>kL c k (gg b λ_ c b=>dz.rl (Dr c▸l)▸kE b λn d b=>gg b λo q b=>aan h d q b)
 case yL=>exact zz b λa c b=>tZ c k (tz b l λo u f b=>iQ b λi j b=>fc j f λt=>td b λn d b=>gg b λo q b=>U6 h d q b)
 case hv=>exact zz b λa c b=>tZ c k (wA b l λx o u N f K b=>iQ b λi j b=>fc j f λt=>td b λn d b=>U1 h z.zh d K b)
 case np=>exact we b λC c b=>gg b λ_ E b=>lc (c.trans<|congrArg O.aA<|Dr E) k λt _=>tz b l λo u f b=>k3 b λa j b=>kL j f (kE b λn d b=>gg b λM G b=>Yk h d G b.1 b.2)
theorem VM {x:aq}{b pos:a5}{g:iF}{e:kk}(l:hp Z)(z:lp t x S (c5 t S)=c5 t S)(H:b4 Z A p c S ρ t (ao C G ρ))(r:ho Z A p c S ρ N (gj C g ρ))(h:fa (eJ N S))(E:(b.endLine !=pos.line)=ap)(q:N.length<30)(K:Iz x N.length=J e):b4 Z A p c S ρ (.Call (.Attribute t x b) N [] pos) (ao C (.eC e G g) ρ):=by
 intro s m a' a o;show B _ _ (do
  let P<-lp t x S (c5 t S);ij b.atName;uB t x b pos S P (N.length+0) (kc pos<|eJ N S) []) _ _
 have F:x=Ck e:=TO _ (zf K);refine z<|>B.aD ((H s m _ a o).bb λv W d=>fb d λM y j f i Q=>B.b7<|Ao (ot h) q E λb9=>B.bk ?_);exact F<|>TN f i Q λa8=>EX (ot h) ((r W M _ pos (a.dV j f) a8).bb λc8 b' d=>ov d λ_ b8 c9 k n T R=>B.bk<|gt (TM l n (k.d2.eR i) T R) λ_ _ a9=>a9.fL<|j.ak k)
theorem Wf {f pos e:a5}{k d:Nat}(z:lp t "to_bytes" S (c5 t S)=c5 t S)(H:b4 Z A p c S ρ t (ao C G ρ))(E:b4 Z A p c S ρ A8 (ao C (.ab<|.I (k:Int)) ρ))(M:B8=.Constant (.str "big") d e)(K:eJ (A8::[B8]) S=(ap,c5 A8 S)::eJ [B8] S)(F:(f.endLine !=pos.line)=ap):b4 Z A p c S ρ (.Call (.Attribute t "to_bytes" f) [A8,B8] [] pos) (ao C (.ry G k) ρ):=by
 subst M;intro s m b9 a q;show B _ _ (do
  let N<-lp t "to_bytes" S (c5 t S);ij f.atName;uB t "to_bytes" f pos S N (2+0) (kc pos<|eJ [A8,.Constant (.str "big") d e] S) []) _ _
 refine z<|>K<|>B.aD ((H s m _ a q).bb λv W g=>fb g λi y l n R b=>B.b7 ?_);refine iQ b λc8 G b=>fc G R λc'=>?_;have h:fa (kc pos<|(ap,c5 A8 S)::eJ [Expr.Constant (.str "big") d e] S):=rfl;generalize r:kc pos ((ap,c5 A8 S)::eJ [Expr.Constant (.str "big") d e] S)=b8 at h⊢;refine Ao h (show 2+0<30 by decide) F λc9=>B.bk (KTBy.method<|EX h ?_);refine aY (r ..)<|?_;have a9:ao C (.ab<|.I (k:Int)) ρ i (λx m=>x=.I (k:Int)/\m=i):=⟨rfl,rfl⟩;refine Ap ((E W i _ (a.dV l n) a9).bb λu j g=>MI g λb' x a8 o T P Q=>fc P T λd8=>OA<|B.bk<|Qm (pos:=e) (k:=d)<|B.bk ?_);subst Q;exact gt (aeY (s:={j with toks:=j.toks+1}) o b.1.1 b.1.2.1 b.1.2.2 b.2) λ_ _ a'=>a'.fL ((l.ak a8).ak .wz)
theorem afK {pos:a5}{a:bm}{args:List (Bool×cM af)}(b:fa args)(g:B n A (l0 args) (λe c=>KFB.StandsAt a c.heap/\B n A (dL (.ref a) e) d c) s):B n A (ke pos (.ref a) [] args []) d s:=by delta ke;refine B.aD (B.d5<|wF b<|g.bb λe c q=>bW q λf h=>B.b7 ?_);delta fa at b;refine b<|>B.aD (B.bk ?_);delta Gv;refine aB (nS f ?_);simp-iota only[KFB.bound,show(ux "builtin_function_or_method" !=ux "method")=ag by decide,show(ux "builtin_function_or_method"==ux "builtin_function_or_method"||ux "builtin_function_or_method"==ux "method-wrapper")=ag by decide,if_true];exact ck (t3 h)
theorem V7 {b8 b pos d:a5}(n:hp Z)(N:∀aG,b4 Z A aG c S ρ A8 (ao C G ρ))(R:t=.Name "int" b8)(o:lp t "from_bytes" S (c5 t S)=c5 t S)(a8:B8=.Constant (.str "big") W d)(P:c.fC "int"=ag)(T:eJ (A8::[B8]) S=(ap,c5 A8 S)::eJ [B8] S)(Q:(b.endLine !=pos.line)=ap):b4 Z A p c S ρ (.Call (.Attribute t "from_bytes" b) [A8,B8] [] pos) (ao C (.zv G) ρ):=by
 subst a8;intro s m c8 a K;show B _ _ (do
  let a'<-lp t "from_bytes" S (c5 t S);ij b.atName;uB t "from_bytes" b pos S a' (2+0) (kc pos<|eJ [A8,.Constant (.str "big") W d] S) []) _ _
 refine o<|>T<|>?_;have a9:∀g:af->al->Prop,g (.type "int") s->B (aL Z) A (c5 t S) g s:=λg q=>by clear o;subst R;exact B.bk (Co (f:=.type "int") n a (~~~_) P (by decide+kernel) q)
 refine B.aD (a9 _<|B.b7 ?_);have r:fa (kc pos<|(ap,c5 A8 S)::eJ [Expr.Constant (.str "big") W d] S):=rfl;have E:Z.dF.In s.heap:=n.ti.keeps a.bK.fs;refine Ao r (show 2+0<30 by decide) Q λd9=>B.bk (WZ E λM i j=>?_);have h:=Lz (p:=p) (hJ s.heap);have F:dh Z (fe p s.heap.objs.size) c S ρ m {s with heap:=M,toks:=s.toks+1}:=h.b7 i a (Ly a.cS i (a.bK.nF<|hJ s.heap) ⟨_,j⟩);refine afK (pos:=pos) r (Ap<|(N _ _ m _ F K).bb λv x H=>fb H λd8 y l z b9 e=>we e λc9 G e=>lc G b9 λd' c'=>OA<|B.bk<|Qm (pos:=d) (k:=W) ⟨l.ca _ _ (.inr rfl) j,?_⟩);exact B.bk (gt (WY (s:={x with toks:=x.toks+1}) (z.nr h.cY) (l.ca _ _ (.inr rfl) j) e.1 e.2) λ_ _ b'=>b'.fL<|(h.cK i l).ak .wz)
end
section
variable {α:Type}{M:fx}{A:cn}{s:al}
theorem B.S1 {d:cM α}{e:Except af α->al->Prop}(i:B M A d (λa j=>e (.ok a) j) s):B M A d.attempt e s:=λg f a h c=>by exact Sem.wp_attempt<|>uw M g d (λ_ _ _ b=>b) (λ_ _ _ b=>b.elim) f s (i g f a h c)
end
section
variable {Z:bj}{A:cn}{p aG:bi}{c:cA}{S:dw}{ρ bV:bp}{C:cG}{s:al}{m:w}
theorem dZ.K4 (a:dZ Z p c S ρ o)(b:∀i v,bV.b7 i=J v->ρ.b7 i=J v):dZ Z p c S bV o:=a.d7 (λ_ q=>q) (λ_ _ _ q=>q) (λ_ _ q=>q) b
theorem oc {i j:Nat}{v:Option O}{c:O}(a:bp.b7 (ρ.set i v) j=J c):(j=i/\v=J c)\/(j≠i/\ρ.b7 j=J c):=by
 delta bp.b7 at*;by_cases b:j=i
 ·subst b;rw[List.getElem?_set_self']at a;cases q:ρ[j]? with
  |none=>rw[q]at a;cases a
  |some u=>rw[q]at a;exact .inl ⟨rfl,by simpa using a⟩
 ·rw[p7 (λq=>b q.symm)]at a;exact .inr ⟨b,a⟩
theorem dZ.Is {x:aq}{i:Nat}{s:aq->Option af}{val:af}{v:O}(b:dZ Z p c S ρ o)(N:o.Ns S.locals s)(F:∀x i v,c.gG.lookup x=J .local->c.gi.lookup x=J i->ρ.b7 i=J v->∃val,s x=J val/\aM Z p o val v)(z:c.gG.lookup x=J .local)(g:c.gi.lookup x=J i)(M:hj S.locals o d8)(n:d8.Ns S.locals λy=>if y=x then J val else s y)(K:aM Z p o val v)(k:e3 Z p o d8)(C:∀x a,S.cells.lookup x=J a->a≠S.locals):dZ Z p c S (ρ.set i<|J v) d8:=by
 refine⟨b.ee,b.nv,b.fC,b.s3,⟨_,n,λy j t h d e=>?_⟩,λy j h d=>?_,b.pT,b.tC,b.inj⟩
 ·by_cases l:y=x
  ·clear z n;subst l;rw[g]at d;cases d;rcases oc e with⟨_,q⟩|⟨q,_⟩
   ·cases q;exact⟨val,by exact if_pos rfl<|>rfl,k.eR K⟩
   ·exact absurd rfl q
  ·rcases oc e with⟨q,_⟩|⟨_,q⟩
   ·clear e;subst q;exact absurd (b.inj _ _ _ d g) l
   ·exact aU (F y j t h d q) λu f m=>⟨u,by exact if_neg l<|>f,k.eR m⟩
 ·refine em (b.lz y j h d) λa H f E G=>⟨a,H,f,E.sameBut M<|C _ _ f,λt e=>?_⟩;rcases oc e with⟨q,_⟩|⟨_,q⟩
  ·clear e;subst q;have:=b.inj _ _ _ d g;clear n g;subst this;rcases h with r|r<;>rw[z]at r<;>cases r
  ·exact aU (G t q) λu m A=>⟨u,m,k.eR A⟩
noncomputable def kz (S:dw):List (aq×j4)->List (aq×bm)->List (aq×bm)
 |[],a=>a|(b,d)::c,a=>if d==.free then kz S c ((b,(S.cells.lookup b).getD 0)::a)else kz S c a
theorem Cu {S:dw}:∀(names:List (aq×j4)) (b:List (aq×bm)) {x:aq×bm},x∈kz S names b->x∈b\/((x.1,oW)∈names/\x.2=(S.cells.lookup x.1).getD 0)
 |[],_,_,a=>.inl a|(h,g)::f,b,x,a=>by
  unfold kz at a;split at a
  ·rename_i c;have c:g=.free:=by simpa using c
   subst c;rcases Cu f _ a with q|⟨d,e⟩
   ·rcases dE.mp q with rfl|q
    ·exact .inr ⟨.head _,rfl⟩
    ·exact .inl q
   ·exact .inr ⟨.tail _ d,e⟩
  ·rcases Cu f _ a with q|⟨d,e⟩
   ·exact .inl q
   ·exact .inr ⟨.tail _ d,e⟩
theorem Ct {S:dw}:∀(names:List (aq×j4)) (c:List (aq×bm)) {b:aq},((b,oW)∈names\/b∈c.map (·.1))->b∈(kz S names c).map (·.1)
 |[],_,_,h=>h.elim (λh=>(nomatch h)) id|(g,f)::e,c,b,h=>by
  unfold kz;split
  ·rename_i a;have a:f=.free:=by simpa using a
   subst a;refine Ct e _ ?_;rcases h with h|h
   ·rcases dE.mp h with d|h
    ·cases d;exact .inr (by simp-iota)
    ·exact .inl h
   ·exact .inr (by simp-iota [h])
  ·rename_i a;refine Ct e _ ?_;rcases h with h|h
   ·rcases dE.mp h with d|h
    ·cases d;exact absurd rfl a
    ·exact .inl h
   ·exact .inr h
theorem L1 {e:Type}:∀{l:List (aq×e)} {b:aq},b∈l.map (·.1)->∃a,l.lookup b=J a
 |[],_,h=>(nomatch h)|(d,v)::f,b,h=>by
  refine jD<|>?_;by_cases c:b=d
  ·subst c;exact⟨v,by simp⟩
  ·have:(b==d)=ap:=by simpa using c
   refine this<|>?_;rw[f1,dE]at h;rcases h with h|h
   ·exact absurd h c
   ·exact L1 h
theorem Un {S:dw}{names:List (aq×j4)}{c:List (aq×bm)->al->Prop}(e:∀b,(b,oW)∈names->(S.cells.lookup b).isSome=ag)(q:c (kz S names []) s)(scope:g1)(o:scope.names=names):aS n A (closureFor scope S) c d s:=by
 delta closureFor;refine o<|>?_;have go:∀(f:List (aq×j4)) (g:List (aq×bm)) (c:List (aq×bm)->al->Prop),(∀b,(b,oW)∈f->(S.cells.lookup b).isSome=ag)->c (kz S f g) s->aS n A (forIn f g λ(x:aq×j4) j=>match x with|(name,kind)=>if(kind==oW)=ag then(do let a<-cellOf S name;cr (t5<|(name,a)::j))else cr (t5 j)) c d s:=by
  intro f;induction f with
  |nil=>intro g c _ q;exact AI<|>ck q|cons x r l=>
   intro g c e q;obtain⟨b,p⟩:=x;refine Fi<|>?_;unfold kz at q;dsimp only;split at q
   ·rename_i h;refine if_pos h<|>?_;have m:p=.free:=by simpa using h
    refine aW (rV.mp<|e b<|by exact m<|>.head _) λa k=>?_;rw[k]at q;refine aB (aB<|wpAny_cellOf k<|ck<|l _ _ (λb i=>e b<|.tail _ i) q)
   ·rename_i h;exact if_neg h<|>aB (ck<|l _ _ (λb i=>e b<|.tail _ i) q)
 exact aB (go names [] _ e<|ck q)
end
section
variable {Z:bj}{A:cn}{p aG:bi}{c:cA}{S dH:dw}{ρ bV:bp}{C:cG}{s:al}{m:w}
theorem Ye {h:aT}(b:hq Z s.heap r g E9)(q:d (.ref r) s):aS (aL Z) A (xk<|.ref r) d a8 s:=by
 induction b with
 |jS a _ _=>exact wpAny_pyIter_listiter a q|cY a _=>exact Rl a q|js a _=>exact Rl a q
theorem EW {x:aq}{pos:a5}{v:af}(b:aS n A (GC S x v) f d s):aS n A (kb (.Name x pos) S v) f d s:=by show aS _ _ (do ij pos;Bg S x v) _ _ _;refine aB (Ro ?_);delta Bg;exact aB (mW<|xm<|aB<|qt b (λ_ _ q=>xm q) λ_ _ a=>a)
theorem rh (l:eW Z p o)(d:je r o d8)(e:∃b,d8.get? r=J b):eW Z p d8:=⟨λa q=>by
 by_cases c:a=r
 ·exact c▸e
 ·refine aW (l.cS a q) λb q=>?_;exact⟨b,d a b c q⟩,l.iq⟩
theorem TC {x:aq}{pos:a5}{i:Nat}{val:af}{v:O}(a:dh Z p c S ρ m s)(h:c.gG.lookup x=J .local)(E:c.gi.lookup x=J i)(G:aM Z p s.heap val v)(t:∀y g,S.cells.lookup y=J g->g≠S.locals):aS (aL Z) A (kb (.Name x pos) S val) (λ_ b=>dh Z p c S (ρ.set i<|J v) m b/\hj S.locals s.heap b.heap/\e3 Z p s.heap b.heap/\∃e H,b={s with heap:=e,toks:=H}) b6 s:=by
 refine EW<|aU a.bD.iP λK j F=>?_;have z:S.kindOf x=J .local:=by rcases a.bD.nv x _ h with q|⟨q,_⟩<;>first|exact q|cases q
 refine Rp z j (λe C d=>?_) (by refine V (a.bD.ee ..)<|?_;rfl);exact bW (a.bK.gc d.extBut a.bD.pT<|a.cS.iq _ a.bD.pT) λn f=>kF C λl r o k _=>⟨⟨n,a.bD.Is j F h E d ⟨l,r,o,k,by assumption⟩ G f t,rh a.cS d.extBut ⟨l,k⟩⟩,d,f,e,_,rfl⟩
structure GU (Z:bj) (A:cn) (aG:bi) (b k j:bm) (c:aT->List O->Prop) (i:w->Prop):Prop where
 bB:∀(s:al) (m:w) (v:O) (f:List O) (d:Option af->al->Prop),a3 Z aG m s.heap->c s.heap (v::f)->i m->(∀val a l,hj b s.heap a->c a f->aM Z aG s.heap val v->(∃g,a.get? b=J g)->d (J val) {s with heap:=a,toks:=l})->aS (aL Z) A (r7<|.ref b) d b6 s
 Vq:∀(s:al) (m:w) (d:Option af->al->Prop),a3 Z aG m s.heap->c s.heap []->i m->(∀a,je b s.heap a->d D {s with heap:=a})->aS (aL Z) A (r7<|.ref b) d b6 s
 bD:∀(h a:aT) (f:List O),c h f->(∀e g,aG e->e≠k->e≠j->h.get? e=J g->a.get? e=J g)->c a f
structure Rr (Z:bj) (aG:bi) (d:cA) (dH:dw) (ρ:bp) (b:aT->List O->Prop) (c:bm) (m:w) (j:List O) (g:List O) (h s:al):Prop where
 dA:dh Z aG d dH ρ m s
 mq:b s.heap j
 G1:∃a f,s.heap.get? c=J (g2 a.toArray f)/\a.length<=4*b5/\dc Z aG s.heap a g
 cX:∃e i,s={h with heap:=e,toks:=i}
structure Rq (aG:bi) (dH:dw) (a b:bm):Prop where
 zG:aG a
 DR:aG b
 Mk:a≠b
 to:a≠dH.locals
 Mi:b≠dH.locals
abbrev ew (aG:bi)(dH:dw)(b c:bm):bi:=λa=>aG a/\a≠b/\a≠c/\a≠dH.locals
theorem Uy {o4:cA}{x:aq}{pos c':a5}{c:bm}{d':aT->List O->Prop}{nT:Nat}{gs:al}{K:List O->w->Prop}(a9:GU Z A aG r c dH.locals d' E9)(e:Rq aG dH r c)(l':∀v,b4 Z A aG o4 dH (ρ.set nT<|J v) A8 (ao C G<|ρ.set nT<|J v))(m8:o4.gG.lookup x=J .local)(n8:o4.gi.lookup x=J nT)(a':∀y a,dH.cells.lookup y=J a->a≠dH.locals/\a≠r/\a≠c)(b8:∀a,aG a->Z.d1.get? a=D)(l8:∀l g9 h f n,a3 Z aG g9 l.heap->(∃E d9,l={gs with heap:=E,toks:=d9})->hZ (ew aG dH r c) gs.heap l.heap->e3 Z aG gs.heap l.heap->(∃c8,l.heap.Ns dH.locals c8)->l.heap.get? c=J (g2 f n)->f.size<=4*b5->dc Z aG l.heap f.toList h->K h g9->z (.ok .next) l)(H:List O):∀(h:List O) (m:w) (s:al),Rr Z aG o4 dH (ρ.set nT D) d' c m H h gs s->hZ (ew aG dH r c) gs.heap s.heap->e3 Z aG gs.heap s.heap->h.length+H.length<=4*b5->pE (λv=>ao C G<|ρ.set nT<|J v) E9 H h m K->dD (aL Z) A (.compLoop (.ListComp A8 [⟨.Name x c',B8,[],0⟩] H9 pos) 0 (.ref r) (.ref c) dH) z s:=by
 induction H with
 |nil=>intro h m s d b' c9 _ M;refine dD.jY rfl (B.ox (t:=compTurn (.ListComp A8 [⟨.Name x c',B8,[],0⟩] H9 pos) 0 (.ref r) (.ref c) dH) ?_);refine QL<|>B.b7 (B.aD<|B.bk<|a9.Vq s m _ d.dA.bK d.mq M.1 λE g=>?_);refine em d.G1 λf n k f9 d8=>bW (d.dA.bK.gc g e.zG<|b8 _ e.zG) λh' e8=>aU d.dA.bD.iP λc8 m9 _=>kF m9 λb k' k9 m' p'=>?_;exact B.cp (l8 _ m h f.toArray n h' (fZ d.cX λr8 t j8=>⟨E,s.toks,by exact j8<|>rfl⟩) (λa b q k=>g a b q.2.1<|b' a b q k) (c9.ak e8) ⟨c8,b,k',k9,g _ _ e.to.symm m',p'⟩ (g _ _ e.Mk.symm k) f9 (e8.le d8) M.2)|cons v H n9=>
  intro h m s d b' c9 f' M;refine dD.jY rfl (B.ox (t:=compTurn (.ListComp A8 [⟨.Name x c',B8,[],0⟩] H9 pos) 0 (.ref r) (.ref c) dH) ?_);refine QL<|>B.b7 (B.aD<|B.bk<|a9.bB s m v H _ d.dA.bK d.mq M.1 λval E d9 q8 n' d8 l9=>B.aD<|B.cp ?_);have g:=q8.extBut;refine bW (d.dA.bK.gc g e.zG<|b8 _ e.zG) λi8 Q=>em d.G1 λf n k f9 g'=>?_;have h8:dZ Z aG o4 dH (ρ.set nT D) E:=d.dA.bD.d7 (λ_ q=>q) (λa b q=>g a b<|MY e.to (λy j q=>(a' y j q).2.1) q) (λ_ _=>Q.eR) λ_ _ q=>q;have i':dh Z aG o4 dH (ρ.set nT D) m {s with heap:=E,toks:=d9}:=⟨i8,h8,rh d.dA.cS g l9⟩;refine B.aD (B.bk<|gt (TC i' m8 n8 (Q.eR d8) λy j q=>(a' y j q).1) λ_ q' W=>ZE W λS q9 e9 r' s' j'=>?_);rw[List.set_set]at S;have T:=q9.extBut;refine B.aD (B.aD<|(l' v q' m _ S M.2).bb λP o W=>fb W λo8 y p e' p9 p8=>?_);have f8:=S.dV p e';have a8:o.heap.get? c=J (g2 f.toArray n):=p.ca _ _ e.DR (T _ _ e.Mi<|g _ _ e.Mk.symm k);have g8:f.length+1<=4*b5:=g'.eE<|>ba (jc (jd<|dB _) _) f';refine B.aD (B.bk<|xg FU (show o.TypeIs (.ref c) "list"from⟨_,a8,rfl⟩) Qq (Qp _ _) (QS c f.toArray n P<|k0<|rL g8) ⟨a8,B.cp<|B.cp ⟨rfl,?_⟩⟩);have b9:=uv (show IsL o.heap c f.toArray n from a8) (·.push P);rw[PE]at b9;have N:je c o.heap (o.heap.update c<|jf λx=>x.push P):=(ql ..).extBut;refine bW (e'.gc N e.DR<|b8 _ e.DR) λi9 R=>fZ p.cX λs8 t8 k8=>?_;have h9:dZ Z aG o4 dH (ρ.set nT D) (o.heap.update c<|jf λx=>x.push P):=f8.bD.d7 (λ_ q=>q) (λa b q=>N a b<|MY e.Mi (λy j q=>(a' y j q).2.2) q) (λ_ _=>R.eR) λi M q=>(oc q).elim (λq=>nomatch q.2) λq=>by delta bp.b7 at*;exact p7 (qf q.1)<|>q.2
  refine n9 (h++[y]) o8 _ ⟨⟨i9,h9,rh f8.cS N ⟨_,b9⟩⟩,a9.bD _ _ _ n' λj b q o9 o' k=>N j b o9<|p.ca j b q<|T j b o' k,⟨f++[P],_,b9,by exact a2<|>g8,R.le<|(p.d2.le<|e9.le<|Q.le g').eA<|.Y p9 .L⟩,fZ d.cX λr9 s9 j9=>⟨_,o.toks,by exact k8<|>j'<|>j9<|>rfl⟩⟩ (λa b q k=>N a b q.2.2.1<|p.ca a b q.1<|T a b q.2.2.2<|g a b q.2.1<|b' a b q k) (c9.ak<|Q.ak<|e9.ak<|p.d2.ak R) ?_ p8;exact V (a2 ..)<|V (iB ..)<|V (ll [y].length ..)<|f'
theorem VF (f:b4 Z A p c S ρ t (ao C G ρ)):m0 Z A p c S ρ t (lQ C (.fu G) ρ):=by intro s m r a n;exact(f s m _ a n).bb λv E e=>fb e λh x l b k i=>k3 i λa G q=>pR b G k q λo F z d y g j q=>⟨h,o,_,l,b,Yg b d,d,j.eE▸g,q⟩
theorem afi (a:Int)(b:Nat):(gA a b).length=b:=by induction b generalizing a with|zero=>rfl|succ b c=>simp-iota [gA,c]
theorem U5 (a:Int)(b:Nat):(lD a b).length=b:=by induction b generalizing a with|zero=>rfl|succ b c=>simp-iota [lD,c]
theorem D0 {a b:Int}{n u v:fy}{h:List O->(w->Prop)->w->Prop}{cx:Nat}(j:a3 Z p m s.heap)(i:cV s.heap o)(c:iT a)(d:iT b)(k:Ba o r a b 1 n u v)(l:h ((gA a (b-a).toNat).map .I) (λ_=>True) m):∃e g f,dG Z p s {s with heap:=o,toks:=cx}/\a3 Z p e o/\qC Z (.ref r) g f o/\f e/\g.length<=4*b5/\h g f e:=by refine⟨m,_,_,dG.gv i,j.gv i,Yh c d k,trivial,?_,l⟩;delta iT at c d;exact ax<|>afi<|>p2.mpr (fU (Fb d.2 c.1)<|~~~_)
theorem aaL {a b:Int}{n u v:fy}{h:List O->(w->Prop)->w->Prop}{cx:Nat}(j:a3 Z p m s.heap)(i:cV s.heap o)(c:iT a)(d:iT b)(k:Ba o r a b (-1) n u v)(l:h ((lD a (a-b).toNat).map .I) (λ_=>True) m):∃e g f,dG Z p s {s with heap:=o,toks:=cx}/\a3 Z p e o/\qC Z (.ref r) g f o/\f e/\g.length<=4*b5/\h g f e:=by refine⟨m,_,_,dG.gv i,j.gv i,Yf c d k,trivial,?_,l⟩;delta iT at c d;exact ax<|>U5<|>p2.mpr (fU (Fb c.2 d.1)<|~~~_)
theorem CM {x:aq}{n pos:a5}{l:iF}(q:hp Z)(y:ho Z A p c S ρ N (gj C l ρ))(G:fa (eJ N S))(z:(x==("__debug__":aq))=ap)(E:c.fC x=ag)(H:s1.lookup x=J (.type "range")){k:w->(List O->(w->Prop)->w->Prop)->Prop}(j:(List O->(w->Prop)->w->Prop)->List O->w->Prop)(t:∀m b,k m b->gj C l ρ m (j b))(F:∀(b:List O->(w->Prop)->w->Prop) (f:List O) (m:w) (d:List af) (s:al),dh Z p c S ρ m s->dc Z p s.heap d f->j b f m->aS (aL Z) A (dL (.type "range") d) (λv i=>∃h d e,dG Z p s i/\a3 Z p h i.heap/\qC Z v d e i.heap/\e h/\d.length<=4*b5/\b d e h) b6 s):m0 Z A p c S ρ (.Call (.Name x n) N [] pos) k:=by intro s m b a W;show B _ _ (do ke pos (<-c5 (.Name x n) S) [] (kc pos<|eJ N S) []) _ _;refine B.aD (B.bk<|Co q a z E H ?_);refine Ov (ot G) ((y s m _ pos a<|t m b W).bb λd R g=>ov g λ_ K f o r Q P=>B.bk<|gt (F b f K d R (a.dV o r) Q P) λv a' g=>kF g λM a8 e T a9=>⟨M,a8,e,o.ak T,a9⟩)
theorem aeU {a b:Int}:A5 (b-a) (-1)=ap:=by
 delta A5;simp-iota only[OF];left;apply decide_eq_false;have c:((-1:Int)==0)=ap:=by decide
 refine c<|>?_;simp-iota only[wG,if_false];have:(-1:Int).natAbs.log2=0:=by decide
 exact this<|>λd=>ai 0x1174a1a8c919aa253931c831d1d34885b d (lU _ _)
end
section
variable {Z:bj}{A:cn}{p aG:bi}{c:cA}{S dH:dw}{ρ bV:bp}{C:cG}{s:al}{m:w}
theorem VC {n pos:a5}(f:hp Z)(i:ho Z A p c S ρ N (gj C (.Y G .L) ρ))(l:fa (eJ N S))(k:c.fC "range"=ag):m0 Z A p c S ρ (.Call (.Name "range" n) N [] pos) (lQ C (.hC G) ρ):=CM f i l (~~~_) k (by decide+kernel) (λd=>ff λg m=>tG (.I 0) g (.I 1) λe=>d e (λ_=>True) m) (λ_ _ b=>b) λd y m e s a o b=>tz b o λx v r b=>iQ b λj h b=>fc h r λt=>b.2.elim (λq=>call_range_1<|D0 a.bK (cV.hB _ _) b.1.1 b.1.2 (IsRange.new ..) q.2) λq=>absurd q.1 (~~~_)
theorem VD {r pos:a5}(f:hp Z)(l:ho Z A p c S ρ N (gj C (.Y G<|.Y S8 .L) ρ))(o:fa (eJ N S))(n:c.fC "range"=ag):m0 Z A p c S ρ (.Call (.Name "range" r) N [] pos) (lQ C (.zP G S8) ρ):=CM f l o (~~~_) n (by decide+kernel) (λd=>hf λa g m=>tG a g (.I 1) λe=>d e (λ_=>True) m) (λ_ _ b=>b) λd K m e s a t b=>wA b t λx y v H z E b=>iQ b λi h b=>iQ b λj k b=>fc h z λF=>fc k E λu=>b.2.elim (λq=>call_range_2<|D0 a.bK (cV.hB _ _) b.1.1 b.1.2 (IsRange.new ..) q.2) λq=>absurd q.1 (~~~_)
def aeT (a:O->O->O->w->Prop)(c:List O)(m:w):Prop:=cj c False λx b=>ei (nH b) λq=>a x q.1 q.2 m
theorem VE {H pos:a5}{d e f:aX}(G:hp Z)(z:ho Z A p c S ρ N (gj C (.Y d<|.Y e<|.Y f .L) ρ))(F:fa (eJ N S))(E:c.fC "range"=ag):m0 Z A p c S ρ (.Call (.Name "range" H) N [] pos) (lQ C (.wn d e f) ρ):=CM G z F (~~~_) E (by decide+kernel) (λk=>aeT λa o r m=>tG a o r λg=>k g (λ_=>True) m) (λ_ _ b=>b) λk n m g s a h b=>by
 induction n using cj with
 |nil=>exact b.elim|cons x n=>
  refine em h.q2 λv a8 t K h=>t▸wA (G:=λg=>aS _ _ (dL _<|v::g) _ _ _) b h λy a9 T W M P b=>iQ b λi d b=>iQ b λj e b=>iQ b λl f b=>fc d K λQ=>fc e M λu=>fc f P λR=>b.2.elim (λq=>?_) λq=>?_
  ·exact V (q.1 ..)<|QJ (~~~_) (D0 (cx:=s.toks) a.bK (cV.hB _ _) b.1.1 b.1.2 (IsRange.new ..) q.2) (.inl<|No (~~~_) (by delta jQ;decide))
  ·exact V (q.1 ..)<|QJ (~~~_) (aaL (cx:=s.toks) a.bK (cV.hB _ _) b.1.1 b.1.2 (IsRange.new ..) q.2) (.inl aeU)
theorem yG {x:aq}(d:mi c H9 x=ag):H9.kind=.function/\(∀a b,(a,b)∈H9.names->(b=.local/\(a=".0"\/a=x))\/(b=.free/\a≠x/\c.gG.lookup a=J .cell/\(c.gi.lookup a).isSome=ag)\/b=.globalImplicit)/\H9.names.lookup x=J .local/\c.gi.lookup (".0":aq)=D/\(∀y∈c.gi,y.2<c.gq)/\x≠".0"/\(x==("__debug__":aq))=ap/\(H9.names.map (·.1)).eraseDups.length=H9.names.length:=by delta mi at d;simp only[ek,beq_iff_eq,f0,decide_eq_true_eq,FH,bne_iff_ne,ne_eq]at d;refine bW d λn l=>?_;obtain⟨⟨⟨⟨⟨⟨⟨⟨e,_⟩,_⟩,f⟩,g⟩,h⟩,i⟩,j⟩,k⟩:=n;refine⟨e,λa b m=>?_,g,h,i,j,by simpa using k,l⟩;have q:=f (a,b) m;simp only[wH,ek,beq_iff_eq,bne_iff_ne,ne_eq]at q;exact q.elim (λq=>q.elim .inl λq=>.inr<|.inl ⟨q.1.1.1,q.1.1.2,q.1.2,q.2⟩) λq=>.inr (.inr q)
end
section
variable {Z:bj}{A:cn}{p aG:bi}{c:cA}{S dH:dw}{ρ bV:bp}{C:cG}{s:al}{m:w}
theorem a3.RH {a:bm}(b:a3 Z p m o)(e:o.get? a=J (g2 o' W))(i:Z.d1.get? a=D)(j:¬p a)(h:o'.size<=4*b5)(k:dc Z p o o'.toList g):a3 Z p (m.a1 a g) o:=⟨b.fs,λd x f=>(rs f).elim (λc=>c.1▸c.2▸⟨i,j,o'.toList,W,e,h,k⟩) λc=>b.U d x c.2,b.a4,b.aQ⟩
theorem L0 {f:aq->j4->j4}:∀{l:List (aq×j4)} {x:aq},(l.map λy=>(y.1,f y.1 y.2)).lookup x=(l.lookup x).map (f x)
 |[],_=>rfl|(a,c)::d,x=>by
  refine f1<|>jD<|>jD<|>?_;cases b:x==a with
  |true=>
   have:x=a:=by simpa using b
   subst this;rfl
  |false=>exact L0
theorem aaH {x:aq}:(qp y S).names.lookup x=(y.names.lookup x).map λa=>if(a==.free&&S.scope.kind==.function&&S.kindOf x==J .cell)then .cell else a:=by refine aY (L0 (f:=λx a=>if(a==oW&&S.scope.kind==.function&&S.kindOf x==J .cell)then .cell else a) ..)<|?_;delta qp;dsimp-iota only;congr 1;apply Ft;rintro⟨b,a⟩ _;dsimp only;split<;>rfl
theorem h7 {d:Type}:∀{l:List (aq×d)} {c:aq} {a:d},l.lookup c=J a->(c,a)∈l
 |[],_,_,b=>by cases b
 |(f,v)::g,c,a,b=>by
  rw[jD]at b;split at b
  ·rename_i e;cases b;have:c=f:=by simpa using e
   subst this;exact .head _
  ·exact .tail _ (h7 b)
theorem KJ {f:Type} [BEq f] [LawfulBEq f](l:List f):l.eraseDups.length<=l.length/\(l.eraseDups.length=l.length->l.Nodup):=by
 induction h:l.length using AZ generalizing l with
 |ind n m=>
  induction l using cj with
  |nil=>exact⟨h▸cL _,λ_=>.nil⟩|cons a b=>subst h;refine List.eraseDups_cons<|>?_;have e:(b.filter λc=>!c==a).length<=b.length:=Fo ..;refine bW (m _ (oQ e) (b.filter λc=>!c==a) rfl) λi j=>⟨jd<|ba i e,λd=>?_⟩;have k:(b.filter λc=>!c==a).length=b.length:=bo e (g0 d▸i);have g:=List.length_filter_eq_length_iff.mp k;rw[wN.mpr g]at j d;exact iY.mpr ⟨λq=>by simpa using g a q,j<|g0 d⟩
theorem Vk {f:Type}{l:List (aq×f)}(d:(l.map (·.1)).eraseDups.length=l.length){e:aq}{a:f}(q:(e,a)∈l):l.lookup e=J a:=by
 have c:=(KJ (l.map (·.1))).2 (by exact d<|>ax<|>rfl);clear d;induction l with
 |nil=>cases q
 |cons x h g=>
  refine jD<|>?_;rw[f1,iY]at c;refine(dE.mp q).elim (λb=>aY (b ..)<|beq_self_eq_true<|>rfl) λq=>?_
  ·exact V (beq_eq_false_iff_ne.mpr λb=>c.1 (eS.mpr ⟨_,q,b⟩) ..)<|g q c.2
theorem B.aeo {d:Type} [Decidable F]{pos:a5}{a:PUnit->cM d}{b:d->al->Prop}(c:B n A (a ()) b s):B n A (if F then(ij pos>>=a)else a ()) b s:=by
 split
 ·exact B.b7 c
 ·exact c
theorem afM {a target iter:am}{ew:List qj}{scope:g1}{pos:a5}(b:dD (aL Z) A (.compLoop (.ListComp a (⟨target,iter,[],0⟩::ew) scope pos) 0 j y9 dH) z s)(h:aS (aL Z) A (xk j) (λc d=>c=j/\d=s) b6 s):dD (aL Z) A (.compStart (.ListComp a (⟨target,iter,[],0⟩::ew) scope pos) 0 j y9 dH) z s:=by
 refine dD.jY rfl ?_;show B _ A ((compStart (.ListComp a (⟨target,iter,[],0⟩::ew) scope pos) 0 j y9 dH).onRaise (λx=>do Bj x dH;ij theWindowsPlace)) _ _;refine B.ox ?_;delta compStart;show B _ A (ask>>=_) _ _;refine B.aD (B.bk<|Ra ?_);refine B.iN ?_;split
 ·exact B.aD (B.cp<|B.cp ⟨rfl,b⟩)
 ·refine B.aD (B.bk<|l2 ?_);show B _ A (ij iter.pos>>=_) _ _;exact B.b7 (B.aD<|B.bk (gt h λc d g=>bW g λe f=>by subst e f;exact B.cp ⟨rfl,b⟩))
theorem XJ {e:g1}{x:aq}{n b:bm}{code:af}(N:mi c e x=ag)(h:dZ Z p c S ρ o)(e':∀b,p b->aG b)(f8:∀v x,aM Z p o v x->aM Z aG d8 v x)(a8:cV o d8)(c':aG n)(t:∃E,d8.Ns n E):dZ Z aG (lG c e x) {newEnv e n S.globals (kz S e.names []) S.qual D code (J S) b with scope:=qp e S} (ρ.set c.gq D) d8/\∀y a,(kz S e.names []).lookup y=J a->p a:=by
 refine Dx (yG N) λa' l b8 b9 G H b' f9=>?_;have r:∀y a,(kz S e.names []).lookup y=J a->(y,oW)∈e.names/\S.cells.lookup y=J a:=λy a q=>by
  rcases Cu _ _ (h7 q)with k|⟨P,A⟩
  ·cases k
  ·refine⟨P,?_⟩;rcases l _ _ P with⟨k,_⟩|⟨_,_,C,m⟩|k
   ·cases k
   ·refine aW (rV.mp m) λi m=>ia (h.lz y i (.inl C) m) λb Q j _=>?_;rw[j]at A⊢;simp only[Option.getD_some]at A;exact A<|>rfl
   ·cases k
 refine⟨⟨by exact a',λy k hk=>?_,h.fC,h.s3,?_,λy i hk d=>?_,c',λy a q=>e' _<|h.tC y a (r y a q).2,λy W i f g=>?_⟩,λy a q=>h.tC y a (r y a q).2⟩
 ·show(qp e S).names.lookup y=J k\/_/\(qp e S).names.lookup y=J .cell;refine V (aaH ..)<|V (show e.names.lookup y=J k from hk)<|?_;by_cases q:(k==.free&&S.scope.kind==.function&&S.kindOf y==J .cell)=ag
  ·simp only[A3,q,if_true];simp only[ek,beq_iff_eq]at q;exact .inr ⟨q.1.1,trivial⟩
  ·simp only[A3,q];exact .inl rfl
 ·refine aW t λE t=>⟨E,t,λy i v hk d z=>?_⟩;have hk:e.names.lookup y=J .local:=hk;rcases l _ _ (h7 hk)with⟨_,k|k⟩|⟨k,_⟩|k
  ·clear hk;subst k;have d:oN _ ((x,c.gq)::c.gi)=J i:=d;rw[jD]at d;have:((".0":aq)==x)=ap:=by simpa usingλq=>H q.symm
   rw[this]at d;dsimp only at d;rw[b9]at d;cases d
  ·clear N l b8 H b' hk;subst k;have d:oN _ ((y,c.gq)::c.gi)=J i:=d;rw[jD]at d;simp only[beq_self_eq_true]at d;cases d;rcases oc z with⟨_,q⟩|⟨q,_⟩
   ·cases q
   ·exact absurd rfl q
  ·cases k
  ·cases k
 ·have F:(y,oW)∈e.names:=by
   rcases hk with hk|hk
   ·rcases l _ _ (h7 (show e.names.lookup y=J _ from hk))with⟨k,_⟩|⟨k,_⟩|k<;>cases k
   ·exact h7 (show e.names.lookup y=J _ from hk)
  rcases l _ _ F with⟨k,_⟩|⟨_,d',C,m⟩|k
  ·cases k
  ·have d:oN _ ((x,c.gq)::c.gi)=J i:=d;rw[jD]at d;have:(y==x)=ap:=by simpa using d'
   rw[this]at d;dsimp only at d;refine em (h.lz y i (.inl C) d) λa Q j e9 z=>?_;obtain⟨e8,c9,c8⟩:=e9;refine aW (L1<|Ct (S:=S) e.names []<|.inl F) λb K=>?_;have M:=(r y b K).2;rw[j]at M;cases M;refine⟨_,Q,K,⟨e8,a8 _ _ c9,c8⟩,λv d9=>?_⟩;rcases oc d9 with⟨_,q⟩|⟨_,q⟩
   ·cases q
   ·exact aU (z v q) λval s a9=>⟨val,s,f8 _ _ a9⟩
  ·cases k
 ·have f:oN _ ((x,c.gq)::c.gi)=J i:=f;have g:oN _ ((x,c.gq)::c.gi)=J i:=g;rw[jD]at f g;cases R:y==x<;>cases T:W==x<;>rw[R]at f<;>rw[T]at g<;>dsimp only at f g
  ·exact h.inj _ _ _ f g
  ·cases g;exact absurd (G _<|h7 f) (eI _)
  ·cases f;exact absurd (G _<|h7 g) (eI _)
  ·have j:y=x:=by simpa using R
   have s:W=x:=by simpa using T
   exact j.trans s.symm
end
section
variable {Z:bj}{A:cn}{p aG:bi}{c:cA}{S dH:dw}{ρ bV:bp}{C:cG}{s:al}{m:w}
theorem Dp (b:cV o d8){a:bm}(d:d8.get? a=D):o.get? a=D:=rm λe c=>nomatch d.symm.trans (b a e c)
theorem pw {a c:bm}(b:∃d,o.get? a=J d)(f:o.get? c=D):a≠c:=λe=>by subst e;exact aW b λd b=>nomatch f.symm.trans b
structure RC where
 zi:w
 aQ:bi
 t1:List O
 dg:w->Prop
 xx:aT->List O->Prop
 dF:List O->w->Prop
 E1:bp
structure RD (Z:bj) (A:cn) (p:bi) (c:cA) (S:dw) (C:cG) (q:aX) (o:O->w->Prop) (d:al) (v:af) (b:RC):Prop where
 mq:∀m:af->al->Prop,(∀g,cV d.heap g->b.xx g b.t1->(∃e,g.get? d.heap.objs.size=J e)->m (.ref d.heap.objs.size) {d with heap:=g})->aS (aL Z) A (xk v) m b6 d
 BI:∀(A:cn) (l:al),b.xx l.heap b.t1->aS (aL Z) A (xk<|.ref d.heap.objs.size) (λr s=>r=.ref d.heap.objs.size/\s=l) b6 l
 zb:∀(A:cn) (aG:bi) (i f:bm),A.handled=D->(∀a,b.aQ a->aG a/\a≠d.heap.objs.size/\a≠i/\a≠f)->aG d.heap.objs.size->d.heap.objs.size≠i->d.heap.objs.size≠f->GU Z A aG d.heap.objs.size i f b.xx b.dg
 aH:b.t1.length<=4*b5
 bK:∀aG:bi,(∀a,aG a->p a\/b.aQ a\/d.heap.get? a=D)->a3 Z aG b.zi d.heap
 C3:∀a e,¬p a->d.heap.get? a=J e->kq e->¬b.aQ a
 cS:∀a,b.aQ a->(∃e,d.heap.get? a=J e)/\Z.d1.get? a=D
 bD:dZ Z p c S b.E1 d.heap
 Cg:∀(f:bm) (h:aT) (j:w) (n:List O),a3 Z (fe p f) j h->(∀a,b.aQ a->a≠f)->(∀a e,b.aQ a->d.heap.get? a=J e->h.get? a=J e)->kr p (fe p f) d.heap h->b.dF n j->∃k,a3 Z (fe p f) k h/\k.U=j.U/\hc k n o
 tH:pE (λv=>ao C q<|b.E1.set c.gq<|J v) b.dg b.t1 [] b.zi b.dF
noncomputable def gc (p b:bi)(d e c:bm):bi:=λa=>p a\/b a\/a=d\/a=e\/a=c
@[elab_as_elim] theorem Lp {p e:bi}{f g c a:bm}{b:bm->Prop}(q:gc p e f g c a)(h:∀a,p a->b a)(k:∀a,e a->b a)(i:b f)(j:b g)(l:b c):b a:=Or.elim q (h a) λq=>q.elim (k a) λq=>q.elim (λd=>d▸i) λq=>q.elim (λd=>d▸j) λd=>d▸l
theorem Ux {x:aq}(f:mi c y x=ag)(d:dZ Z p c S ρ o)(b:aq)(g:(b,oW)∈y.names):(S.cells.lookup b).isSome=ag:=((yG f).2.1 _ _ g).elim (λa=>nomatch a.1) λq=>q.elim (λa=>aW (rV.mp a.2.2.2) λi h=>ia (d.lz b i (.inl a.2.2.1) h) λj k e _=>e▸rfl) λa=>nomatch a
theorem Oy {x:aq}{o:g1}{pos B9 A':a5}{n8:Option (af->cM Unit)}(g8:A.handled=D)(g':mi c o x=ag)(v':∀aG cenv bV,b4 Z A aG (lG c o x) cenv bV t (ao C G bV))(a:dh Z p c S ρ m s)(w8:B (aL Z) A (c5 A8 S) (λv h=>∃k,dG Z p s h/\RD Z A p c S C G H h v k) s)(w9:∀v,o0 A8 S v=cr v)(t9:∀b8 z M d8,dG Z p s M->a3 Z (fe p z) d8 M.heap->(∃d9,M.heap.Ns z d9)->eW Z (fe p z) M.heap->dZ Z (fe p z) c S ρ M.heap->H (.ah b8) d8->b8≠z->¬p z->(∀e,kq e->s.heap.get? z=J e->False)->match n8 with
 |none=>∀r,hj z M.heap r->d (.ref b8) {M with heap:=r}|some u=>aS (aL Z) A (u<|.ref b8) (λ_ m9=>(∃d9,m9.heap.Ns z d9)/\∀r,hj z m9.heap r->d .none {m9 with heap:=r}) b6 M):B (aL Z) A (uA (.ListComp t [⟨.Name x B9,A8,[],0⟩] o pos) o S A' (xj []) ap (c5 A8 S) n8) d s:=by
 refine Dx (yG g') λf' u' v8 E' F8 F9 F' v9=>?_;delta uA;refine B.aD (w8.bb λv h t'=>aU t' λk a' n=>B.b7 ?_);delta clausesOf;refine B.aD (B.cX (w9 v)<|B.cp<|B.aD<|B.d5<|B.bk<|n.mq _ λj f8 x8 f9=>B.aeo<|B.aD<|B.bk<|Bs (s:={h with heap:=j}) ?_);refine B.aD (B.bk<|Un (Ux g' n.bD) ?_ o rfl);refine B.aD (B.bk<|wpAny_newFunctionEnv (λy Q=>(u' _ _ Q).elim (λE=>E.1▸by decide) λq=>q.elim (λE=>E.1▸by decide) λE=>E▸by decide) (λy Q=>nomatch Q) (λF c8 m'=>?_) f');dsimp only;generalize g9:(j.push {cls:=.type "list",dict:=D,data:=.seq ([]:List af).toArray})=g at c8 m'⊢;dsimp only at c8 m'⊢;have W:cV j g:=g9▸cV.hB _ _;have b9:cV g F:=λb e f=>m'.extBut b e (pw ⟨e,f⟩<|hJ g) (oV _ f);have P:cV h.heap F:=(f8.ak W).ak b9;have p9:=hJ h.heap;have p8:=Dp f8 (hJ j);have j9:=Dp f8 (Dp W<|hJ g);have u8:∃e,g.get? j.objs.size=J e:=⟨_,g9▸ii _ rfl⟩;have i8:h.heap.objs.size≠j.objs.size:=pw f9 (hJ j);have i9:h.heap.objs.size≠g.objs.size:=pw (aW f9 λe f=>⟨e,W _ _ f⟩) (hJ g);have e':j.objs.size≠g.objs.size:=pw u8 (hJ g);have n':F.get? j.objs.size=J (g2 ([]:List af).toArray 0):=b9 _ _ (g9▸ii _ rfl);have a8:=a.cS.bb a'.ca;have k9:∀b,(∃e,h.heap.get? b=J e)->b≠h.heap.objs.size/\b≠j.objs.size/\b≠g.objs.size:=λb f=>⟨pw f p9,pw f p8,pw f j9⟩;have j':=λb q=>k9 b (a8.cS b q);have k8:=λb q=>k9 b (n.cS b q).1;have e8:gc p k.aQ h.heap.objs.size j.objs.size g.objs.size h.heap.objs.size:=.inr (.inr<|.inl rfl);have d':gc p k.aQ h.heap.objs.size j.objs.size g.objs.size j.objs.size:=.inr (.inr<|.inr<|.inl rfl);have k':gc p k.aQ h.heap.objs.size j.objs.size g.objs.size g.objs.size:=.inr (.inr<|.inr<|.inr rfl);have R:∀b,fe p g.objs.size b->gc p k.aQ h.heap.objs.size j.objs.size g.objs.size b:=λb q=>q.elim .inl λT=>T▸k';have new:∀b,gc p k.aQ h.heap.objs.size j.objs.size g.objs.size b->p b\/k.aQ b\/h.heap.get? b=D:=λb q=>Lp q (λ_=>.inl) (λ_ q=>.inr<|.inl q) (.inr<|.inr p9) (.inr<|.inr p8) (.inr<|.inr j9);have o':∀b,gc p k.aQ h.heap.objs.size j.objs.size g.objs.size b->h.heap.get? b=D->∃e,F.get? b=J e:=λb q=>Lp q (λb q l=>aW (a8.cS b q) λe f=>nomatch l.symm.trans f) (λb q l=>aW (n.cS b q).1 λe f=>nomatch l.symm.trans f) (λ_=>aW f9 λe f=>⟨e,b9 _ _<|W _ _ f⟩) (λ_=>⟨_,n'⟩) λ_=>kF c8 λe _ _ h8 _=>⟨e,h8⟩;have e9:∀b,k.aQ b->gc p k.aQ h.heap.objs.size j.objs.size g.objs.size b:=λb q=>.inr (.inl q);generalize gc p k.aQ h.heap.objs.size j.objs.size g.objs.size=aG at e8 d' k' R new o' e9;have q8:∀b,p b->aG b:=λb q=>R b (.inl q);have r9:=n.bK p λ_=>.inl;have i':∀b e,¬p b->h.heap.get? b=J e->kq e->¬aG b:=λb e l f i q=>(new b q).elim l λq=>q.elim (n.C3 b e l f i) λq=>nomatch q.symm.trans f;have r':a3 Z aG k.zi F:=(n.bK aG new).gv P;have c':eW Z aG F:=⟨λb q9=>(new b q9).elim (λq=>aW (a8.cS b q) λe f=>⟨e,P _ _ f⟩) λq=>q.elim (λq=>aW (n.cS b q).1 λe f=>⟨e,P _ _ f⟩) λl=>o' b q9 l,λb q=>(new b q).elim (a8.iq b) λq=>q.elim (λq=>(n.cS b q).2) r9.nF⟩;refine bW (XJ (code:=.none) (b:=oZ) g' n.bD q8 (λ_ _ m8=>m8.d7 λb e l f i=>⟨i' b e l f i,P _ _ f⟩) P k' ⟨_,c8⟩) λq' s9=>?_;have o8:k.xx F k.t1:=(n.zb A aG j.objs.size g.objs.size g8 (λb q=>⟨e9 b q,k8 b q⟩) e8 i8 i9).bD _ _ _ x8 λb e _ _ _ f=>b9 _ _ (W _ _ f);refine B.d5 (B.aD<|B.S1<|B.d5<|B.tH g8<|afM ?_<|n.BI _ _ o8);refine Uy (gs:={h with heap:=F,toks:=h.toks+0}) (nT:=c.gq) (o4:=lG c o x) (aG:=aG) (ρ:=k.E1) (K:=k.dF) (n.zb _ aG j.objs.size g.objs.size g8 (λb q=>⟨e9 b q,k8 b q⟩) e8 i8 i9) ⟨e8,d',i8,i9,e'⟩ (λv=>v' _ _ _) v8 (by simp[lG]) (λy b q=>gR (j' b<|s9 y b q) λl8 l9 l'=>⟨l',l8,l9⟩) c'.iq ?_ k.t1 [] k.zi _ ⟨⟨r',q',c'⟩,o8,⟨[],0,n',dB _,.L⟩,⟨_,_,rfl⟩⟩ .cf .cf (by exact Fp<|>jG<|>n.aH) n.tH;intro N y' C' G8 l n9 t8 x9 B8 a9 u9 w' C9 E8;have c9:∀b e,p b\/k.aQ b->h.heap.get? b=J e->N.heap.get? b=J e:=λb e q f=>gR (k9 b ⟨e,f⟩) λl8 l9 l'=>x9 b e ⟨q.elim (q8 b)<|e9 b,l8,l9,l'⟩ (P _ _ f);have j8:kr p (fe p g.objs.size) h.heap N.heap:=λb e l f i=>⟨λq=>i' b e l f i<|R b q,B8 b e (i' b e l f i) i<|P _ _ f⟩;have D9:dG Z p s N:=a'.ak ⟨fZ t8 λr D' T=>⟨r,D',T⟩,λb e q=>c9 b e<|.inl q,λb e l i f=>(j8 b e l f i).2⟩;have z':¬p j.objs.size:=λq=>(j' _ q).2.1 rfl;have p':¬p g.objs.size:=λq=>(j' _ q).2.2 rfl;refine eP (n.Cg g.objs.size N.heap y' C' (n9.nr R) (λb q=>(k8 b q).2.2) (λb e q=>c9 b e<|.inr q) j8 E8) λz8 s8 s' E9=>?_;have z9:z8.U j.objs.size=.none:=s'▸rm λy q=>(n9.U _ _ q).2.1 d';have r8:dZ Z (fe p g.objs.size) c S ρ N.heap:=(a.bD.ca a'.ca a'.d2).d7 (λ_ q=>.inl q) (λb e q f=>c9 b e (.inl<|a.bD.zF q) f) (λv x m8=>m8.d7 j8) λ_ _ q=>q;have x':eW Z (fe p g.objs.size) N.heap:=⟨λb q=>q.elim (λq=>aW (a8.cS b q) λe f=>⟨e,c9 b e (.inl q) f⟩) λT=>T▸ML a9 λd9 e _ _ h8 _=>⟨e,h8⟩,λb q=>c'.iq b<|R b q⟩;have o9:=t9 j.objs.size g.objs.size N _ D9 (s8.RH u9 (c'.iq _ d') (λq=>q.elim z' e') w'<|C9.js R) a9 x' r8 (E9.2 _ z9) e' p' λe i f=>nomatch j9.symm.trans (a'.d2 _ e p' i f);have h':∀y∈(o.names.filter λx=>(x.2==.local||x.2==.cell)&&x.1 !=(".0":aq)).reverse,y.2=.local->(qp o S).names.lookup y.1=J .local:=λy Q b'=>lookup_relabel_local (by exact aY (b' ..)<|Vk v9 (uh.mp<|List.mem_reverse.mp Q).1);dsimp only;refine aW a9 λy8 a9=>?_;induction n8 with
 |none=>exact B.aD (B.d5<|B.bk<|Rc (cenv:={newEnv o g.objs.size S.globals (kz S o.names []) S.qual D j5 (J S) oZ with scope:=qp o S}) f' _ N y8 h' a9 λr d8 _ h9=>B.cp<|o9 r h9)|some u=>refine B.aD (B.bk<|l2<|B.aD<|B.d5<|B.bk<|gt o9 λ_ D8 q=>bW q λB' C8=>aW B' λy9 A9=>?_);exact B.aD (B.bk<|Rc (cenv:={newEnv o g.objs.size S.globals (kz S o.names []) S.qual D j5 (J S) oZ with scope:=qp o S}) f' _ D8 y9 (λy Q b'=>(hi.mp Q).elim (λE=>h' y (li E) b') λE=>h' y (lj E) b') A9 λr d8 _ h9=>B.cp<|C8 r h9)
theorem Ox {x:aq}{pos e' e9:a5}{K:l5}{qx:Option (af->cM Unit)}{P:O->w->Prop}(r:A.handled=D)(b9:mi c y x=ag)(a':∀aG dH bV,b4 Z A aG (lG c y x) dH bV t (ao C G bV))(b8:m0 Z A p c S ρ A8 (lQ C K ρ))(b':∀v,o0 A8 S v=cr v)(a:dh Z p c S ρ m s)(H:ao C (.jr G c.gq K) ρ m P)(a8:∀l b e M,dG Z p s e->a3 Z (fe p b) M e.heap->(∃z,e.heap.Ns b z)->eW Z (fe p b) e.heap->dZ Z (fe p b) c S ρ e.heap->P (.ah l) M->l≠b->¬p b->(∀g,kq g->s.heap.get? b=J g->False)->match qx with
 |none=>∀j,hj b e.heap j->d (.ref l) {e with heap:=j}|some u=>aS (aL Z) A (u<|.ref l) (λ_ E=>(∃z,E.heap.Ns b z)/\∀j,hj b E.heap j->d .none {E with heap:=j}) b6 e):B (aL Z) A (uA (.ListComp t [⟨.Name x e',A8,[],0⟩] y pos) y S e9 (xj []) ap (c5 A8 S) qx) d s:=Oy r b9 a' a ((b8 s m _ a H).bb λv R a9=>zq a9 λc9 n N F T iter _ c8 f8=>⟨⟨c9,λ_=>False,n,N,λh n=>hq Z h R.heap.objs.size n N,λQ m=>hc m Q P,ρ⟩,F,{mq:=λd f=>iter A R d rfl f,BI:=λA e i=>Ye (h:=e.heap) i ⟨rfl,rfl⟩,zb:=λA aG l b r _ e8 d9 d'=>⟨λs m v n d k i g f=>LH k i g f,λs m d k i g f=>LG r k i g f,λh j n i f=>i.b7 λg o=>f _ g e8 d9 d' o⟩,aH:=c8,bK:=λaG f=>T.Md λW g d8 o q=>(f W q).elim d8 λq=>q.elim id λq=>(nomatch q.symm.trans o),C3:=λ_ _ _ _ _ q=>q,cS:=λ_ q=>q.elim,bD:=a.bD.ca F.ca F.d2,Cg:=λb f9 c' Q k _ _ _ H=>⟨c',k,rfl,H⟩,tH:=f8}⟩) b' a8
end
section
variable {Z:bj}{A:cn}{p aG:bi}{c:cA}{S dH:dw}{ρ bV:bp}{C:cG}{s:al}{m:w}
noncomputable def tl (m:w)(b:Nat):w:={m with aQ:=λa=>if a=b then D else m.aQ a}
theorem YS {b a:Nat}{y:List (Int×O)}(q:(tl m b).aQ a=J y):a≠b/\m.aQ a=J y:=by
 have q:(if a=b then D else m.aQ a)=J y:=q;by_cases c:a=b
 ·rw[if_pos c]at q;cases q
 ·rw[if_neg c]at q;exact⟨c,q⟩
theorem a3.XD {x:List (Int×O)}(R:a3 Z p m o)(d:m.aQ r=J x)(z:∀b,aG b->p b\/b=r\/o.get? b=D):a3 Z aG (tl m r) o:=my (R.aQ _ _ d) λA C E M l F=>k1 (id l) λc H G s K n k=>by have h:∀b c,b≠r->¬p b->o.get? b=J c->¬aG b:=λb c j e g q=>(z b q).elim e λq=>q.elim j λq=>nomatch q.symm.trans g;have t:kr p aG o o:=λb c e g i=>⟨h b c (λf=>By l (f▸g) i) e g,g⟩;exact⟨R.fs,λa y q=>(R.U a y q).d7 t λc e d=>⟨h a c (to (R:=R) s (λk k f=>nomatch n.symm.trans (congrArg rY f)) q) e d,d⟩,λa y q=>(R.a4 a y q).d7 λc e d=>⟨h a c (Dq (R:=R) s (λk f=>nomatch n.symm.trans (congrArg rY f)) q) e d,d⟩,λa y q=>bW (YS q) λj q=>(R.aQ a y q).d7 t λc e d=>⟨h a c j e d,d⟩⟩
theorem a3.afe {x:List (Int×O)}(b:a3 Z p (tl m r) o)(e:m.aQ r=J x)(f:Z.d1.get? r=D)(h:¬p r)(g:x.length<=4*b5)(d:o.DictOf (kp Z) r Q)(i:hn Z p o Q x):a3 Z p m o:=by
 refine⟨b.fs,b.U,b.a4,λa y q=>?_⟩;by_cases c:a=r
 ·clear b;subst c;rw[e]at q;cases q;exact⟨f,h,g,Q,d,i⟩
 ·exact b.aQ a y ((if_neg c).trans q)
theorem Vc {x:List (Int×O)}(d:hn Z p o Q x):Q.map (λb=>O.I b.1)=x.map λb=>O.I b.1:=by
 induction d with
 |L=>rfl|Y a _ c=>exact V (f1 ..)<|V (f1 ..)<|V (c ..)<|V (a.1 ..)<|rfl
theorem Yv (e:W<ρ.length){d:List O->w->Prop}(l:List (Int×af)):∀a,d (a++l.map λb=>O.I b.1) m->pE (λv=>ao C (.bt .I<|.X W)<|ρ.set W<|J v) (λh=>True) (l.map λb=>O.I b.1) a m d:=by
 induction l with
 |nil=>exactλa c=>⟨trivial,dn a▸c⟩|cons b g f=>exactλa c=>⟨trivial,gf (x:=.I b.1) (by delta bp.b7;refine rF e<|>?_;rfl)<|f (a++[O.I b.1])<|by exact bN<|>c⟩
def xy (Z:bj)(b e:bm)(a:List (Int×af))(c:Nat)(d:aT)(g:List O):Prop:=∃i,d.IsKeyIter e b i a.length c/\d.DictAt (kp Z) b a c/\(a.drop i).map (λf=>O.I f.1)=g
theorem Yx {v:O}(q:J8≠r)(c:xy Z J8 r Q W s.heap (v::g))(k:∀val a t,hj r s.heap a->xy Z J8 r Q W a g->aM Z aG s.heap val v->(∃d,a.get? r=J d)->P (J val) {s with heap:=a,toks:=t}):aS (aL Z) A (r7<|.ref r) P b6 s:=by
 refine eP c λi p e b=>?_;have f:i<Q.length:=w2.mp λn=>by rw[oK n]at b;cases b
 rw[p4 f]at b;refine wpAny_pyNext_dict_item (k:=(Q[i]).1) (v:=(Q[i]).2) p e (du f) λval a o h j=>k val a s.toks j ⟨i+1,h,e.extBut j.extBut q,(p3 b).2⟩ ?_ (aU h λd m x=>⟨d,m⟩);exact aW (show∃c,val=.int (Q[i]).1 c from Value.isInt_shape o) λc l=>by exact V (l ..)<|aY ((p3 b).1 ..)<|aM.I _ c
theorem Yw (d:A.handled=D)(g:xy Z J8 r Q W s.heap [])(f:∀a,je r s.heap a->P D {s with heap:=a}):aS (aL Z) A (r7<|.ref r) P b6 s:=eP g λi e b c=>wpAny_pyNext_dict_end d e b (p5<|Pd.mp<|Px.mp c) f
theorem Oz {x:aq}{pos k' k9:a5}{qx:Option (af->cM Unit)}{P:O->w->Prop}(W:A.handled=D)(h':mi c H9 x=ag)(h8:∀aG dH bV,b4 Z A aG (lG c H9 x) dH bV t (ao C (.bt .I<|.X c.gq) bV))(d':hp Z)(h9:b4 Z A p c S ρ A8 (ao C G ρ))(i8:∀v,o0 A8 S v=cr v)(a:dh Z p c S ρ m s)(E:ao C (.oo G) ρ m P)(g8:∀z f l c',dG Z p s l->a3 Z (fe p f) c' l.heap->(∃a9,l.heap.Ns f a9)->eW Z (fe p f) l.heap->dZ Z (fe p f) c S ρ l.heap->P (.ah z) c'->z≠f->¬p f->(∀e,kq e->s.heap.get? f=J e->False)->match qx with
 |none=>∀r,hj f l.heap r->d (.ref z) {l with heap:=r}|some u=>aS (aL Z) A (u<|.ref z) (λk b8=>(∃a9,b8.heap.Ns f a9)/\∀r,hj f b8.heap r->d .none {b8 with heap:=r}) b6 l):B (aL Z) A (uA (.ListComp t [⟨.Name x k',A8,[],0⟩] H9 pos) H9 S k9 (xj []) ap (c5 A8 S) qx) d s:=by
 refine Oy W h' h8 a ((h9 s m _ a E).bb λv d9 g9=>fb g9 λN y b9 b' l8 F=>zz F λb g F=>tZ g l8<|td F λm8 T F=>my (b'.aQ _ _ T) λQ e' c9 M H R=>aW H.dictAt λf' c8=>?_) i8 g8;have f9:(b==qq)=ap:=beq_eq_false_iff_ne.mpr λg=>by have h:=d'.zh;rw[<-g,Q]at h;cases h
 have g':∃e,d9.heap.get? b=J e:=kF H λe k k i9 k=>⟨e,i9⟩;refine⟨⟨tl N b,(·=b),M.map λg=>O.I g.1,λk=>True,xy Z b d9.heap.objs.size M f',λd8 m=>m=tl N b/\d8=M.map λg=>O.I g.1,ρ++dK (c.gq+1) D⟩,b9,{mq:=λd h=>wpAny_pyIter_dict f9 c8 (h _ (cV.hB _ _) ⟨0,⟨_,ii _ rfl,rfl,rfl⟩,c8.at' λe n=>cV.hB _ _ _ _ n,rfl⟩ ⟨_,ii _ rfl⟩),BI:=λA l o=>aU o λi a8 k=>wpAny_pyIter_keyiter a8 ⟨rfl,rfl⟩,zb:=λA aG z f W K k8 j' a'=>⟨λs m v l9 d k o k h=>Yx (K b rfl).2.1 o h,λs m d k o k h=>Yw W o h,λj r l9 o h=>eP o λi a8 f8 g=>⟨i,a8.at λe n=>h _ e k8 j' a' n,f8.at' λe n=>h b e (K b rfl).1 (K b rfl).2.2.1 (K b rfl).2.2.2 n,g⟩⟩,aH:=ba (fv<|(ax ..).trans R.eE) c9,bK:=λaG h=>b'.XD T h,C3:=λe9 e k n i g=>By H (g▸n) i,cS:=λe9 g=>g▸⟨g',Q⟩,bD:=(a.bD.ca b9.ca b9.d2).K4 λi v j=>?_,Cg:=λf i' l' d8 e8 a' j8 j9 E=>⟨N,(E.1▸e8:a3 Z (fe p f) (tl N b) i').afe T Q (λq=>q.elim e'<|a' b rfl) c9 (GS H λe=>j8 b e rfl)<|R.d7 j9,E.1▸rfl,E.2▸Vc R▸F⟩,tH:=Yv (by exact a2<|>hh<|>ac 20952633) M [] ⟨rfl,rfl⟩}⟩;have j:bp.b7 (ρ++dK (c.gq+1) D) i=J v:=j;delta bp.b7 at*;rw[Fj]at j;by_cases q:i<ρ.length
 ·rw[if_pos q]at j;exact j
 ·rw[if_neg q,AJ]at j;by_cases q:i-ρ.length<c.gq+1
  ·rw[if_pos q]at j;cases j
  ·rw[if_neg q]at j;cases j
end
section
variable {Z:bj}{A:cn}{p aG:bi}{c:cA}{S dH:dw}{ρ bV:bp}{C:cG}{s:al}{m:w}
theorem Xb:cd.fX.all (λq=>dk (q.2<lv.fX.length)&&!(q.1==("__debug__":aq)))=ag:=by decide+kernel
theorem Us:cd.lB.all (λq=>dk (q.2<gu.length)&&!(q.1==("__debug__":aq)))=ag:=by decide+kernel
theorem Xa {x:aq}{i:Nat}(a:cd.fX.lookup x=J i):i<lv.fX.length/\(x==("__debug__":aq))=ap:=by have:=f0.mp Xb _ (h7 a);simpa using this
theorem Ur {x:aq}{i:Nat}(a:cd.lB.lookup x=J i):i<gu.length/\(x==("__debug__":aq))=ap:=by have:=f0.mp Us _ (h7 a);simpa using this
def uS (a:am):Prop:=mz a.ctorIdx=ag/\∀x S (b:cM af),lp a x S b=b
set_option tactic.hygienic true in
theorem tJ {d:Nat}(b:am):di (fE cd d c b) λ_=>uS b:=by
 induction d using ey with
 |zero=>exact ib|succ d=>
  have a:∀{b:am},(∀x S (e:cM af),lp b x S e=e)->mz b.ctorIdx=ag->∀{j:Option aX},di j λ_=>uS b:=λi q _ _ _=>⟨q,i⟩;refine v7 (P:=ph λg _=>uS g) (λ_ _=>a (λ_ _ _=>rfl) rfl)<|DB (λ_ _ _=>a (λ_ _ _=>rfl) rfl)<|zo (λ_ _ _=>a (λ_ _ _=>rfl) rfl)<|MB (λ_ _ _ _=>a (λ_ _ _=>rfl) rfl)<|MQ (λ_ _ _=>a (λ_ _ _=>rfl) rfl)<|MD (λ_ _ _ _=>a (λ_ _ _=>rfl) rfl)<|MC (λ_ _ _=>a (λ_ _ _=>rfl) rfl)<|MO (λ_ _ _ _=>a (λ_ _ _=>rfl) rfl)<|DK (λ_ _ _=>a (λ_ _ _=>rfl) rfl)<|zu (λ_ _ _=>a (λ_ _ _=>rfl) rfl)<|MP (λ_ _=>a (λ_ _ _=>rfl) rfl)<|MF (λ_ _ _=>a (λ_ _ _=>rfl) rfl)<|v4 (λh f ks pos=>fp λ_=>?_)<|DH (λ_ _ _ _=>a (λ_ _ _=>rfl) rfl) ib;cases h<;>try exact a (λ_ _ _=>rfl) rfl
  rename_i k l;refine fp λq=>a (λx S e=>?_) rfl;rw[ek]at q;induction f using cj with
  |cons _ _=>rfl|nil=>induction ks using cj with
   |cons _ _=>rfl|nil=>delta lp;dsimp only;refine V (q.2 ..)<|?_;simp-iota
theorem aes {i:am}(b a:af)(c:mz i.ctorIdx=ag):uC i ap b a=mU [b,a] (o1 b a):=(zy c).as b a
theorem vJ {i:am}(v:af)(a:mz i.ctorIdx=ag):o0 i S v=cr v:=(zy a).WQ S v
theorem YW {kg:qi}(a:mz t.ctorIdx=ag):xe kg t=ap:=(zy a).YV kg
theorem WM {x:aq}{a:lt}(b:CS x=J a):(x==("__debug__":aq))=ap:=eq_of_beq (f0.mp (show CT.all (λq=>(q.1==("__debug__":aq))==ap)=ag by decide+kernel) _<|zf b)
theorem aao {a c:aX}:di (Nh a c) λd=>∃i b:Int,a=.ab (.I i)/\c=.ab (.I b)/\(0<=i/\i<=16/\0<=b/\b<=64)/\d=.ab (.I<|i^b.toNat):=cB λi e=>cB λb f=>fp λg=>gy ⟨i,b,yn e,yn f,of_decide_eq_true g,rfl⟩
theorem Zk {a:aX}:di (Mm a) λb=>∃i:Int,a=.ab (.I i)/\b=.ab (.I (-i)):=eu λi c=>⟨i,yn c,rfl⟩
theorem Wc {l d:am}{pos:a5}{i a:Int}(h:b4 Z A p c S ρ l (ao C (.ab<|.I i) ρ))(j:b4 Z A p c S ρ d (ao C (.ab<|.I a) ρ))(o:0<=i)(r:i<=16)(t:0<=a)(z:a<=64):b4 Z A p c S ρ (.BinOp l .Pow d pos) (ao C (.ab<|.I<|i^a.toNat) ρ):=by intro s m Q g n;have b:ao C (.ab<|.I i) ρ m λx m=>ao C (.ab<|.I a) ρ m λy m=>x=.I i/\y=.I a/\Q (.I<|i^a.toNat) m:=⟨rfl,rfl,n⟩;refine B.aD ((vH (Q:=λv b e=>B (aL Z) A (ij pos>>=λ_=>mU [v,b]<|xf .Pow v b) (c1 Z p Q s) e) h j g b λv b x y M e K f G H k=>gR k λE F q=>?_).bb λv N q=>B.aD<|B.d5 q);exact fc E G λP=>fc F H λR=>B.b7 (B.tA<|B.bk<|pow_int_small t (fU z<|~~~_) (cz.mp (by rw[Int.natAbs_of_nonneg o];exact iU r<|~~~_)) ((fO f.bK (.I _ _) q).fL K))
theorem V4 {x:am}{pos:a5}{i:Int}(h:b4 Z A p c S ρ x (ao C (.ab<|.I i) ρ)):b4 Z A p c S ρ (.UnaryOp .USub x pos) (ao C (.ab<|.I (-i)) ρ):=by
 intro s m e g k;have o:ao C (.ab<|.I i) ρ m λx m=>x=.I i/\e (.I (-i)) m:=⟨rfl,k⟩;refine B.aD ((h s m _ g o).bb λv r j=>MI j λq y d a n l b=>B.b7 ?_);refine fc l n λt=>?_;first
  |exact B.d5 (B.bk<|neg_int ((fO a (.I _ _) b).fL d))|exact f.tA (f.bk<|neg_int ((fO a (.I _ _) b).from d))
theorem Nq:di (Np c t) λb=>∃a pos,t=.Call (.Name "range" a) b [] pos/\c.fC "range"=ag:=v4 (P:=λe g=>di g λb=>∃a pos,e=.Call (.Name "range" a) b [] pos/\c.fC "range"=ag) (λh b ks pos=>fp λd=>gy<|by rw[ek,ek]at d;exact aW (oa<|beq_iff_eq.mp d.1.1) λa f=>⟨a,pos,by exact f<|>jZ.mp d.2<|>rfl,d.1.2⟩) ib
theorem IV {f:w}(g:dG Z p s K)(h:a3 Z (fe p J8) f K.heap)(low:eW Z (fe p J8) K.heap)(q:H (.ah r) f)(l:¬p J8)(k:∀a,kq a->s.heap.get? J8=J a->False)(e:hj J8 K.heap o):c1 Z p H s (.ref r) {K with heap:=o}:=bW (h.gc e.extBut (.inr rfl)<|low.iq _<|.inr rfl) λj _=>⟨f,.ah r,⟨fZ g.cX λn m c=>⟨o,m,by exact c<|>rfl⟩,λb a q d=>e.extBut b a (λc=>l<|c▸q)<|g.ca b a q d,λb a q i d=>e.extBut b a (λc=>k a i<|c▸d)<|g.d2 b a q i d⟩,j.nr λ_ q=>.inl q,.ah _,q⟩
theorem VT {x:aq}{pos o:a5}{b:l5}(f:A.handled=D)(i:mi c y x=ag)(g:∀aG dH bV,b4 Z A aG (lG c y x) dH bV t (ao C G bV))(h:m0 Z A p c S ρ A8 (lQ C b ρ))(j:∀v,o0 A8 S v=cr v):b4 Z A p c S ρ (.ListComp t [⟨.Name x o,A8,[],0⟩] y pos) (ao C (.jr G c.gq b) ρ):=λs m d a z=>by exact QN<|>Ox (qx:=D) (P:=d) f i g h j a z λF E M K r e _ low _ q _ n l H k=>IV r e low q n l k
theorem VX {x:aq}{pos o:a5}(b:hp Z)(f:A.handled=D)(i:mi c y x=ag)(g:∀aG dH bV,b4 Z A aG (lG c y x) dH bV t (ao C (.bt .I<|.X c.gq) bV))(h:b4 Z A p c S ρ A8 (ao C G ρ))(j:∀v,o0 A8 S v=cr v):b4 Z A p c S ρ (.ListComp t [⟨.Name x o,A8,[],0⟩] y pos) (ao C (.oo G) ρ):=λs m d a z=>by exact QN<|>Oz (qx:=D) (P:=d) f i g b h j a z λF E M K r e _ low _ q _ n l H k=>IV r e low q n l k
theorem VZ {x:aq}{pos:a5}{i:Nat}(e:(x==("__debug__":aq))=ap)(d:c.gG.lookup x=J .local)(f:c.gi.lookup x=J i):b4 Z A p c S ρ (.Name x pos) (ao C (.X i) ρ):=λs m j a b=>gg b λv g b=>B.bk (GF (CO (λq=>nomatch d.symm.trans q) a (show c.fr x=J i by delta cA.fr;exact d<|>f) g λval h=>lL a.bK h b) e)
theorem KQ {x:aq}(h:jp Z)(f:hp Z)(s:gE W A)(l:mi c H9 x=ag):LL H9 x t=ag->b4 Z A aG (lG c H9 x) dH bV t (ao C (.bt .I<|.X c.gq) bV):=by refine Dx (yG l) λF G j H K M k N=>v4 (P:=λt q=>q=ag->b4 Z A aG (lG c H9 x) dH bV t (ao C (.bt .I<|.X c.gq) bV)) (λE z ks pos b=>?_) λi=>nomatch i;rw[ek,ek,ek]at b;refine bW b λr m=>?_;obtain⟨⟨d,n⟩,o⟩:=r;refine aW (oa<|beq_iff_eq.mp d) λQ a=>?_;clear d;subst a;refine aU (lm.mp<|beq_iff_eq.mp n) λy p e=>aW (oa e) λR a=>?_;clear e;subst a;obtain rfl:=mC p;obtain rfl:=jZ.mp o;exact KO h f s (g:=.I) rfl (KL (VZ k j<|by simp-iota [lG]) KM rfl) rfl (by decide+kernel) m
def uP (Z:bj)(A:cn)(p:bi)(c:cA)(S:dw)(ρ:bp)(C:cG)(b:am)(a:aX):Prop:=b4 Z A p c S ρ b (ao C a ρ)/\jN Z A p c S ρ b (ao C a ρ)
def Rx (Z:bj)(d:cA->am->Option aX):Prop:=∀c a A p S ρ C,kl Z a C->gE a A->∀b,di (d c b) (uP Z A p c S ρ C b)
theorem ip (a:b4 Z A p c S ρ t (ao C G ρ))(q:mT t S (c5 t S)=(do let v<-c5 t S;ij t.pos;kf [v] (Bn v))):uP Z A p c S ρ C t G:=⟨a,VJ a q⟩
theorem Zr (b:hp Z){x:aq}{pos:a5}:di (Mq cd c x) (uP Z A p c S ρ C<|.Name x pos):=fp λa=>by rw[ek,bne,bne,As,As]at a;exact mA (λ_=>fp λd=>eu λv f=>ip (VU b a.1 d f) rfl) λi e=>gy (ip (VY a.1 a.2 e) rfl)
set_option tactic.hygienic true in
theorem UC {a:uu}{d:Nat}{pos:a5}:di (IW a) (uP Z A p c S ρ C<|.Constant a d pos):=by
 cases a;case none=>exact gy (ip VS rfl)
 case bool=>exact gy (ip VO rfl)
 case int=>exact gy (ip VQ rfl)
 case bytes e=>exact fp λb=>by exact jZ.mp b<|>gy (ip VP rfl)
 all_goals exact ib
section
variable {f:am->Option aX}{n:Nat}(T:iH Z)(xp:jp Z)(sc:kl Z n C)(o7:gE n A)(hW:∀a,di (f a) λ_=>uS a)(hD:∀p a,di (f a) λb=>b4 Z A p c S ρ a<|ao C b ρ)
include hW hD
theorem ob (a:List am):di (nD f a) λd=>ho Z A p c S ρ a (gj C d ρ)/\fa (eJ a S):=Ha (λg b e=>(hW g b e).1) (hD p) a
theorem HL {a:am}(b:f a=J G):ho Z A p c S ρ [a] (gj C (.Y G .L) ρ)/\fa (eJ [a] S):=ob hW hD [a] _ (show(f a).bind _=_ by refine b<|>?_;rfl)
theorem HM {a b:am}(d:f a=J G)(e:f b=J S8):ho Z A p c S ρ [a,b] (gj C (.Y G<|.Y S8 .L) ρ)/\fa (eJ [a,b] S):=ob hW hD [a,b] _ (show(f a).bind _=_ by refine d<|>?_;show((f b).bind _).map _=_;refine e<|>?_;rfl)
theorem SV {a b d:am}(e:f a=J G)(g:f b=J S8)(l:f d=J T8):ho Z A p c S ρ [a,b,d] (gj C (.Y G<|.Y S8<|.Y T8 .L) ρ)/\fa (eJ [a,b,d] S):=ob hW hD [a,b,d] _ (show(f a).bind _=_ by refine e<|>?_;show((f b).bind _).map _=_;refine g<|>?_;show(((f d).bind _).map _).map _=_;refine V (l ..)<|?_;rfl)
include T xp sc o7
theorem Zq {x:aq}{r pos:a5}(e:c.fC x=ag):di (NL cd x x8 f) λj=>b4 Z A p c S ρ (.Call (.Name x r) x8 [] pos) (ao C j ρ):=have h:=T.tohp;mA (λ_=>mA (λ_=>mA (λ_=>cB λq o=>cB λj d=>cB λs l=>by refine tR o<|>?_;have b:=HM (p:=p) hW hD d l;exact ow (λm=>by rw[beq_iff_eq.mp m]at e⊢;exact gy<|V3 h o7 b.1 b.2 e) λ_=>fp λm=>by rw[beq_iff_eq.mp m]at e⊢;exact gy<|V2 h o7 b.1 b.2 e) λa n=>cB λt d=>eu λj l=>by refine mC n<|>?_;have b:=HL (p:=p) hW hD l;exact KO xp h o7 d b.1 b.2 (WM d) e) λi g=>eu λk d=>have b:=ob hW hD x8 k d;have q:=Ur g;V5 T sc o7 q.1 b.1 b.2 q.2 e g) λi g=>eu λk d=>have b:=ob hW hD x8 k d;have q:=Xa g;VN (N:=0) T sc o7 q.1 b.1 b.2 q.2 e g
theorem Y7 {x:aq}{h pos:a5}(j:(h.endLine !=pos.line)=ap)(i:N.length<30):di (NK cd t x N f) λa=>b4 Z A p c S ρ (.Call (.Attribute t x h) N [] pos) (ao C a ρ):=mA (λ_=>cB λk g=>cB λa b=>eu λd e=>have q:=ob hW hD N d e;V1 T sc o7 ((hW t a b).2 _ _ _) (hD p t a b) q.1 q.2 j i g) λk g=>cB λa b=>eu λd e=>have q:=ob hW hD N d e;VM T.tohp ((hW t a b).2 _ _ _) (hD p t a b) q.1 q.2 j i g
theorem SY {pos:a5}:di (HQ cd c f N pos t) λg=>b4 Z A p c S ρ (.Call t N [] pos) (ao C g ρ):=zo (P:=λt m=>di m λg=>b4 Z A p c S ρ (.Call t N [] pos)<|ao C g ρ) (λm x s=>fp λl=>by
 rw[ek]at l;have k:(s.endLine !=pos.line)=ap:=by rw[bne,l.1];rfl
 refine ow (λn=>cB λq h=>fp λb=>cB λa d=>cB λj r=>cB λj y=>fp λz=>?_) λ_=>ow (λn=>cB λi e=>cB λq h=>fp λb=>eu λg d=>?_) λ_=>Y7 T xp sc o7 hW hD k (of_decide_eq_true l.2)
 ·refine beq_iff_eq.mp n<|>tR h<|>fZ (LB b) λF G b=>?_;have o:=hD p _ _ r;rw[yn y,show j=((j.toNat:Nat):Int)from(ie<|of_decide_eq_true z).symm]at o;exact gy (Wf ((hW m a d).2 _ _ _) (hD p _ _ d) o b (Es (hW _ _ r).1) k)
 ·refine beq_iff_eq.mp n<|>tR h<|>?_;rw[ek,ek]at b;refine aW (oa e) λH e=>?_;rw[beq_iff_eq.mp b.1.2]at e;exact fZ (LB b.1.1) λF G E=>V7 T.tohp (λaG=>hD aG _ _ d) e (by refine e<|>?_;rfl) E b.2 (Es (hW _ _ d).1) k) ib
omit xp sc
theorem Dd:di (y7 c f t) λo=>m0 Z A p c S ρ t (lQ C o ρ):=have e:=T.tohp;mA (λ_=>eu λk d=>VF<|hD p t k d) λj d=>by
 refine ia (Nq j d) λE pos d i=>d<|>?_;induction j using cj with
 |nil=>exact ib|cons a F=>
  refine cB λx g=>ow (λr=>?_) λ_=>mA (λ_=>cB λq n=>cB λy h=>eu λz l=>?_) λs m=>eu λy h=>?_
  ·refine jZ.mp r<|>?_;have b:=HL (p:=p) hW hD g;exact gy (VC e b.1 b.2 i)
  ·refine tR n<|>?_;have b:=SV (p:=p) hW hD g h l;exact VE e b.1 b.2 i
  ·refine mC m<|>?_;have b:=HM (p:=p) hW hD g h;exact VD e b.1 b.2 i
end
theorem Dc:di (y7 c (fE cd W c) t) λ_=>mz t.ctorIdx=ag:=mA (λ_=>eu λd a=>(tJ t d a).1) λb a _ _=>by refine ia (Nq b a) λe pos a _=>a<|>?_;rfl
theorem pN (s:iH Z)(F:jp Z):∀n,Rx Z (fE cd n)
 |0=>λ_ _ _ _ _ _ _ _ _ _=>ib|n+1=>λc a8 A p S ρ C z m g=>by
  have W:=pN s F n;have y:=s.tohp;have b8:=m.jv;have b':A.units+20<kd:=by have:=m.EK;exact aj 0x64cf53ee864d5c75f3 this
  have k:∀g,di (fE cd n c g) λ_=>uS g:=tJ;have d:∀p g,di (fE cd n c g) λe=>b4 Z A p c S ρ g (ao C e ρ):=λp g e j=>(W c a8 A p S ρ C z m g e j).1;have t:∀g,di (fE cd n c g) λe=>jN Z A p c S ρ g (ao C e ρ):=λg e j=>(W c a8 A p S ρ C z m g e j).2;show di (NY cd (fE cd n) c g) _;generalize d8:fE cd n=f8 at*;refine v7 (P:=ph<|uP Z A p c S ρ C) (λx pos=>Zr y)<|DB (λE h' pos=>UC)<|zo (λG a pos=>cB λe b=>eu λi f=>ip (VK s ((k G e b).2 _ _ _) (d p _ _ b) f) rfl)<|MB (λl kg e' pos=>cB λa b=>cB λH f=>ow (λh=>λe Q=>?_) λ_=>eu λG R=>ip (VL (d p _ _ b) (d p _ _ f) R) rfl)<|MQ (λkg x pos=>cB λa b=>ow (λh=>gy ?_) λ_=>fp λh e Q=>?_)<|MD (λl i8 i' pos=>cB λkg R=>cB λe' e8=>cB λa b=>cB λH f=>eu λG o=>?_)<|MC (λkg a9 pos e j=>⟨KP (d p) a9 e j,KN t a9 e j⟩)<|MO (λj9 a H pos=>cB λj' b=>cB λf9 f=>eu λg8 o=>⟨VW (t _ _ b) (d p _ _ f)<|d p _ _ o,VH (t _ _ b) (t _ _ f)<|t _ _ o⟩)<|DK (λG i pos=>cB λa b=>mA (λ_=>eu λH f=>ip (We (d p _ _ b) (d p _ _ f) λ_ _=>aes _ _ (k _ _ f).1) rfl) λq r=>cB λl f=>eu λj o=>?_)<|zu (λM E pos=>fp λd'=>eu λa' b=>ip (Wg (ob k d M a' b).1<|ba (gY<|of_decide_eq_true d')<|~~~_) rfl)<|MP (λM pos=>eu λa' b=>ip (V0 (ob k d M a' b).1) rfl)<|MF (λks a9 pos=>fp λh=>gy ?_)<|v4 (λg' f' ks pos=>fp λh=>mA (λ_ e j=>?_) λx T=>fp λb9 e j=>?_)<|DH (λg9 h8 j8 pos=>cB λq r=>fp λN=>?_) ib
  ·refine fb (aao e Q) λi E K c9 q c'=>?_;subst K;subst c9;subst c';exact V (show kg=.Pow from by cases kg<;>first|rfl|exact nomatch h)<|ip (Wc (d p _ _ b) (d p _ _ f) q.1 q.2.1 q.2.2.1 q.2.2.2) rfl
  ·exact V (show kg=.Not from by cases kg<;>first|rfl|exact nomatch h)<|⟨V6<|d p _ _ b,VI<|t _ _ b⟩
  ·refine V (show kg=.USub from by cases kg<;>first|rfl|exact nomatch h)<|aU (Zk e Q) λi c8 K=>?_;subst c8;subst K;exact ip (V4<|d p _ _ b) rfl
  ·refine mC R<|>mC e8<|>?_;have E:=YW (kg:=kg) (k _ _ f).1;exact⟨VR y b' (d p _ _ b) (d p _ _ f) o E,VG y b' (d p _ _ b) (d p _ _ f) o E⟩
  ·exact aW (HJ r) λe9 r=>r<|>ip (Wd (d p _ _ b) (yP (d p) _ _ f)<|yP (d p) _ _ o) rfl
  ·rw[ek]at h;exact jZ.mp h.1<|>jZ.mp h.2<|>ip VV rfl
  ·exact jZ.mp h<|>ip (SY s F z m k d e j) rfl
  ·refine aW (oa T) λe9 T=>?_;rw[ek,ek]at b9;exact jZ.mp h<|>T<|>ip (Zq s F z m k d b9.1.1 e j) rfl
  ·exact Lk r λi9 r=>r<|>ow (λd9=>eu λh9 b=>ip (VX y b8 N (λaG dH bV=>KQ F y m N d9) (d p _ _ b) λv=>vJ v (k _ _ b).1) rfl) λ_=>cB λe b=>eu λi f=>ip (VT b8 N (λaG dH bV=>(W _ a8 A aG dH bV C z m _ _ b).1) (Dd s m k d _ f) λv=>vJ v (by subst d8;exact Dc _ f)) rfl
end
section
variable {Z:bj}{A:cn}{p aG:bi}{c:cA}{S dH:dw}{ρ bV:bp}{C:cG}{s:al}{m:w}
structure jo (c:cA) (S:dw):Prop where
 Mu:∀x,c.gG.lookup x≠J .free
 eq:∀y a,S.cells.lookup y=J a->a≠S.locals
 inj:∀x y a,S.cells.lookup x=J a->S.cells.lookup y=J a->x=y
structure gp (Z:bj) (p:bi) (S:dw) (s b:al):Prop where
 cX:∃c d,b={s with heap:=c,toks:=d}
 ca:hZ (λa=>p a/\¬hP S a) s.heap b.heap
 d2:e3 Z p s.heap b.heap
theorem dG.hO (b:dG Z p s K):gp Z p S s K:=⟨b.cX,λa d q c=>b.ca a d q.1 c,b.d2⟩
theorem gp.cf:gp Z p S s s:=dG.cf.hO
theorem gp.ak (a:gp Z p S s K)(b:gp Z p S K G8):gp Z p S s G8:=by refine fZ a.cX λf g c=>?_;subst c;refine fZ b.cX λd e c=>?_;subst c;exact⟨⟨d,e,rfl⟩,a.ca.ak b.ca,a.d2.ak b.d2⟩
theorem dZ.Tx {x:aq}{i:Nat}{a:bm}{val:af}{v:O}(b:dZ Z p c S ρ o)(A:jo c S)(C:c.gG.lookup x=J .cell)(k:c.gi.lookup x=J i)(g:S.cells.lookup x=J a)(E:hj a o d8)(M:d8.IsCell a (J val))(W:aM Z p o val v)(m:e3 Z p o d8):dZ Z p c S (ρ.set i<|J v) d8:=by
 refine⟨b.ee,b.nv,b.fC,b.s3,?_,λy j h e=>?_,b.pT,b.tC,b.inj⟩
 ·refine aU b.iP λP R t=>?_;obtain⟨z,K,H,s,a8⟩:=R;refine⟨P,⟨z,K,H,E.extBut _ _ (λq=>A.eq _ _ g q.symm) s,a8⟩,λy j l h e d=>?_⟩;rcases oc d with⟨q,_⟩|⟨_,q⟩
  ·clear d;subst q;have:=b.inj _ _ _ e k;clear g k;subst this;rw[C]at h;cases h
  ·exact aU (t y j l h e q) λu f r=>⟨u,f,m.eR r⟩
 ·refine em (b.lz y j h e) λF Q f T t=>?_;obtain⟨z,s,N⟩:=T;by_cases n:y=x
  ·clear C;subst n;rw[g]at f;cases f;rw[k]at e;cases e;refine⟨_,_,g,M,λl d=>?_⟩;rcases oc d with⟨_,q⟩|⟨q,_⟩
   ·cases q;exact⟨val,rfl,m.eR W⟩
   ·exact absurd rfl q
  ·refine⟨F,Q,f,⟨z,E.extBut _ _ (λq=>n<|A.inj _ _ _ f<|q▸g) s,N⟩,λl d=>?_⟩;rcases oc d with⟨q,_⟩|⟨_,q⟩
   ·clear d;subst q;exact absurd (b.inj _ _ _ e k) n
   ·exact aU (t l q) λu r G=>⟨u,r,m.eR G⟩
theorem Ch {x:aq}{i:Nat}{val:af}{v:O}(j:jo c S)(a:dh Z p c S ρ m s)(h:c.fr x=J i)(E:aM Z p s.heap val v):aS (aL Z) A (GC S x val) (λ_ F=>dh Z p c S (ρ.set i<|J v) m F/\gp Z p S s F) b6 s:=by
 refine bW (Em h) λh b=>b.elim (λb=>?_) λb=>b.elim (λb=>?_) λb=>absurd b (j.Mu x)
 ·refine aU a.bD.iP λT y K=>Rp (a.bD.jz b) y (λo z d=>?_) (by refine V (a.bD.ee ..)<|?_;rfl);exact bW (a.bK.gc d.extBut a.bD.pT<|a.cS.iq _ a.bD.pT) λk g=>kF (id z) λe P N r _=>⟨⟨k,a.bD.Is y K b h d z E g j.eq,rh a.cS d.extBut ⟨e,r⟩⟩,⟨o,_,rfl⟩,λl e q n=>d.extBut l e (λf=>q.2<|.inl f) n,g⟩
 ·refine em (a.bD.lz x i (.inl b) h) λM W f H R=>wpAny_storeName_cell a.bD.ee (a.bD.IL b) f H λo t d=>?_;have C:=a.bD.tC _ _ f;exact bW (a.bK.gc d.extBut C<|a.cS.iq _ C) λk g=>aU (id t) λe r Q=>⟨⟨k,a.bD.Tx j b h f d t E g,rh a.cS d.extBut ⟨e,r⟩⟩,⟨o,s.toks,rfl⟩,λl e q n=>d.extBut l e (λG=>q.2<|.inr ⟨x,by exact f<|>G<|>rfl⟩) n,g⟩
theorem TB {x:aq}{i:Nat}{val:af}{v:O}(d:jo c S)(a:dh Z p c S ρ m s)(e:c.fr x=J i)(f:aM Z p s.heap val v):aS (aL Z) A (Bg S x val) (λ_ b=>dh Z p c S (ρ.set i<|J v) m b/\gp Z p S s b) b6 s:=Rb (Ch d a e f)
theorem yq {x:aq}{i:Nat}{pos:a5}{val:af}{v:O}(d:jo c S)(a:dh Z p c S ρ m s)(e:c.fr x=J i)(f:aM Z p s.heap val v):aS (aL Z) A (kb (.Name x pos) S val) (λ_ b=>dh Z p c S (ρ.set i<|J v) m b/\gp Z p S s b) b6 s:=EW (Ch d a e f)
theorem dZ.Zj (d:dZ Z aG c S ρ o)(e:∀a,p a->aG a)(f:∀b,hP S b->p b):dZ Z p c S ρ o:=d.Me f (λ_ _ _ q=>q) (λ_ _ g=>g.js e) λ_ _ q=>q
theorem dZ.wg (b:dZ Z p c S ρ o)(a:bm):hP S a->p a:=b.zF
theorem dh.nr (d:∀a,p a->aG a)(a:dh Z aG c S ρ m s)(e:∀b,hP S b->p b):dh Z p c S ρ m s:=by refine⟨a.bK.nr d,a.bD.Zj d e,⟨λb q=>a.cS.cS b<|d b q,λb q=>a.cS.iq b<|d b q⟩⟩
end
section
variable {Z:bj}{A:cn}{p aG:bi}{c:cA}{S dH:dw}{ρ bV:bp}{C:cG}{s:al}{m:w}
def Rv (Z:bj)(p:bi)(a:aT):lV->xu->Prop
 |.next,.cO=>True
 |.ret v,.aI x=>aM Z p a v x|_,_=>False
def qE (Z:bj)(p:bi)(c:cA)(S:dw)(e:db)(s:al)(f:lV)(a:al):Prop:=∃b bV d,Rv Z p a.heap f b/\gp Z p S s a/\dh Z p c S bV d a/\e b bV d
theorem qE.fL {b:db}{d:lV}(j:gp Z p S s K)(q:qE Z p c S b K d G8):qE Z p c S b s d G8:=k1 q λh bV i a e f g=>⟨h,bV,i,a,j.ak e,f,g⟩
def hY (Z:bj)(A:cn)(p:bi)(c:cA)(S:dw)(d:dC)(b:bp->w->db->Prop):Prop:=∀(ρ:bp) (s:al) (m:w) (a:db),dh Z p c S ρ m s->b ρ m a->B (aL Z) A (exec d S) (qE Z p c S a s) s
def m1 (Z:bj)(A:cn)(p:bi)(c:cA)(S:dw)(d:List dC)(b:bp->w->db->Prop):Prop:=∀(ρ:bp) (s:al) (m:w) (a:db),dh Z p c S ρ m s->b ρ m a->B (aL Z) A (lX d S) (qE Z p c S a s) s
theorem jU {b:db}(d:gp Z p S s K)(a:dh Z p c S ρ m K)(q:b .cO ρ m):qE Z p c S b s .next K:=⟨.cO,ρ,m,trivial,d,a,q⟩
theorem Wk:m1 Z A p c S [] (a6 C .L):=λρ s m d a b=>by exact B.cp (jU .cf a b)
theorem Wj {g:dC}{h:na}{d:b2}(r:hY Z A p c S g (hS C h))(t:m1 Z A p c S l' (a6 C d)):m1 Z A p c S (g::l') (a6 C<|.Y h d):=λρ s m k a y=>by
 refine Gr<|>B.aD ((r ρ s m _ a y).bb λl x o=>k1 o λn j f e i b q=>?_);cases l<;>cases n<;>try exact e.elim
 ·exact(t j x f k b q).bb λ_ _ z=>z.fL i
 ·exact B.cp ⟨.aI _,j,f,e,i,b,q⟩
theorem Wq {v:am}{pos:a5}(f:∀ρ,b4 Z A p c S ρ v (ao C G ρ)):hY Z A p c S (.Return (J v) pos) (hS C<|.aI G):=λρ s m j a i=>by refine exec_Return_some<|>B.b7 (B.aD<|(f ρ s m _ a i).bb λv k e=>fb e λg x b d h q=>B.cp ⟨.aI x,ρ,g,h,b.hO,a.dV b d,q⟩)
theorem Wr {pos:a5}:hY Z A p c S (.Return D pos) (hS C<|.aI<|.ab .bE):=λρ s m d a b=>by exact exec_Return_none<|>B.b7 (B.cp ⟨.aI .bE,ρ,m,aM.bE (Z:=Z) (p:=p) (h:=s.heap),.cf,a,b⟩)
theorem Wp {pos:a5}{g h:b2}(o:∀ρ,jN Z A p c S ρ t (ao C G ρ))(r:m1 Z A p c S l' (a6 C g))(x:m1 Z A p c S m' (a6 C h)):hY Z A p c S (.If t l' m' pos) (hS C<|.bJ G g h):=λρ s m e a y=>by
 refine exec_If<|>B.b7 (B.aD<|(o ρ s m _ a y).bb λl j n=>eP n λi b k q=>?_);have f:=a.dV b k;induction l with
 |true=>exact(r ρ j i e f q).bb λ_ _ d=>d.fL b.hO|false=>exact(x ρ j i e f q).bb λ_ _ d=>d.fL b.hO
theorem X4 {v:am}:Da v=ag->∃b a ks p,v=.Call b a ks p:=v4 (P:=λv d=>d=ag->∃b a ks p,v=.Call b a ks p) (λ_ _ _ _ _=>⟨_,_,_,_,rfl⟩) λc=>nomatch c
theorem Wo {v:am}{pos:a5}(f:Da v=ag)(l:∀ρ,b4 Z A p c S ρ v (ao C G ρ)):hY Z A p c S (.Expr v pos) (hS C<|.bX G):=λρ s m t a r=>by
 have n:QQ S=ap:=by delta QQ;refine V (a.bD.ee ..)<|?_;rfl
 refine MK (X4 f) λ_ _ _ _ j=>?_;clear f;subst j;refine exec_Expr _ _ _ n rfl<|>B.b7 (B.aD<|(l ρ s m _ a r).bb λv z k=>fb k λy x b g e q=>?_);have d:=a.dV b g;exact zD q (λG q=>Ag G e<|B.cp<|jU b.hO d q) (λh G q=>Ah G e<|B.cp<|jU b.hO d q) zn (λi G q=>fc G e λo=>B.cp<|jU b.hO d q) (λh G q=>lc G e λo _=>B.cp<|jU b.hO d q) cF
theorem X3 {b:oX}{f:l4}{i:Int}{v h:af}{y:O}(k:(b==.Add||b==.RShift)=ag)(e:s2 b=J f)(d:a3 Z p m s.heap)(l:aM Z p s.heap v (.I i))(g:aM Z p s.heap h y)(a:oe f (.I i) y m H):aS (aL Z) A (inplaceOp b v h) (c1 Z p H s) b6 s:=by
 refine fc rfl l λn=>?_;cases b<;>try exact absurd k (~~~_)
 ·cases e;exact iQ a λj c a=>fc c g λu=>iadd_int (fO d (.I _ _) a)
 ·cases e;refine iQ a λj c a=>fc c g λu=>irshift_int a.1.1 (fO d (.I _ _) ?_);exact E5 _ (~~~kM (OW<|~~~_))<|>a.2
theorem Wn {x:aq}{i:Nat}{H pos:a5}{e:oX}{k:l4}{v:am}(g:jo c S)(j:c.fr x=J i)(F:(e==.Add||e==.RShift)=ag)(E:s2 e=J k)(t:∀ρ,b4 Z A p c S ρ v (ao C G ρ)):hY Z A p c S (.AugAssign (.Name x H) e v pos) (hS C<|.od i k G):=λρ s m R a d=>by refine exec_AugAssign_Name<|>gg d λT z d=>iQ d λi r d=>B.b7 (B.aD<|B.bk<|CO (λq=>absurd q<|g.Mu x) a j z λval M=>?_);refine B.aD (B.d5<|(t ρ s m _ a d).bb λb9 a9 b=>fb b λW y f h N q=>?_);refine B.b7 (B.aD<|B.tA<|B.bk<|gt (X3 F E h (f.d2.eR<|r▸M) N q) λu a' b=>fb b λa8 b' l n P K=>?_);exact B.b7 (B.aD<|B.bk<|gt (TB g ((a.dV f h).dV l n) j P) λ_ b8 b=>bW b λo Q=>B.cp<|jU ((f.ak l).hO.ak Q) o K)
end
section
variable {Z:bj}{A:cn}{p aG:bi}{c:cA}{S dH:dw}{ρ bV:bp}{C:cG}{s:al}{m:w}
theorem Ob {a i v:am}{b:a5}{line:Nat}:uE [.Subscript a i b] v line S=cr ap:=by cases v<;>rfl
theorem aeF {v:am}{a:a5}{line:Nat}:uE [.Tuple N W a] v line S=cr ap:=by cases v<;>rfl
theorem aeE {x:aq}{v:am}{b:a5}{line:Nat}:mz v.ctorIdx=ag->tp v=ag->uE [.Name x b] v line S=cr ap:=by cases v<;>first|exactλ_ _=>rfl|exactλa=>nomatch(show ap=ag from a)|exactλ_ a=>nomatch(show ap=ag from a)
noncomputable def aaE (i:am)(v b a:af):List af:=match i with
 |.Slice _ _ D _=>[a,v,b]|_=>[v,b,a]
theorem HN {c i:am}{d:a5}{v:af}:kb (.Subscript c i d) S v=(do
 let a<-kf [v] (c5 c S);let b<-kf [v,a] (c5 i S);ij d;kf [v,a,b] (mV a b v);GA (aaE i v a b) []):=rfl
theorem N3 {a i v:am}{b:a5}:uD [.Subscript a i b] v S=cr D:=by cases v<;>rfl
theorem N2 {x:aq}{v:am}{a:a5}:uD [.Name x a] v S=cr D:=by cases v<;>rfl
theorem EY {d ks:List af}(b:f () s):B n A (GA d ks) f s:=λg p a e c=>by exact Sem.wp_release<|>b
theorem wE {a v:am}{pos:a5}(d:uE [a] v pos.line S=cr ap)(e:uD [a] v S=cr D)(f:∀v,assignAll v ((uy [a] S).map (·.2))=kb a S v)(c:B (aL Z) A (c5 v S) (λv=>B (aL Z) A (kb a S v)<|λ_ b=>E .next b) s):B (aL Z) A (exec (.Assign [a] v pos) S) E s:=by refine FI<|>B.b7 ?_;refine d<|>B.aD (B.cp ?_);refine if_neg (~~~_)<|>B.aD (c.bb λv g q=>?_);refine e<|>B.aD (B.cp ?_);show B _ _ (do assignAll v ((uy [a] S).map (·.2));cr A6:cM lV) _ _;exact f<|>B.aD (q.bb λ_ b q=>B.cp q)
theorem Wt {j i v:am}{H pos:a5}(r:∀ρ,b4 Z A p c S ρ v (ao C T8 ρ))(t:∀ρ,b4 Z A p c S ρ j (ao C G ρ))(z:∀ρ,b4 Z A p c S ρ i (ao C S8 ρ)):hY Z A p c S (.Assign [.Subscript j i H] v pos) (hS C<|.as G S8 T8):=λρ s m a' a a9=>by refine wE Ob N3 (λ_=>rfl) ((r ρ s m _ a a9).bb λv W b=>fb b λE x k n Q K=>?_);have g:=a.dV k n;refine HN<|>B.aD (B.d5<|(t ρ W E _ g K).bb λc8 a8 b=>fb b λF y e o R M=>?_);have h:=g.dV e o;refine B.aD (B.d5<|(z ρ a8 F _ h M).bb λb8 c9 b=>fb b λb9 d8 d f T N=>B.b7 ?_);refine B.aD (B.d5<|B.bk<|gt (adJ f (d.d2.eR R) T (d.d2.eR<|e.d2.eR Q) N) λ_ c' b=>eP b λb' l q P=>?_);exact EY (jU (((k.ak e).ak d).ak l).hO ((h.dV d f).dV l q) P)
theorem Ws {j v:am}{i h:Option am}{K M pos:a5}(t:∀ρ,b4 Z A p c S ρ v (ao C U8 ρ))(z:∀ρ,b4 Z A p c S ρ j (ao C G ρ))(E:∀ρ,qy Z A p c S ρ i (ao C S8 ρ))(F:∀ρ,qy Z A p c S ρ h (ao C T8 ρ)):hY Z A p c S (.Assign [.Subscript j (.Slice i h D M) K] v pos) (hS C<|.eF G S8 T8 U8):=λρ s m b9 a b8=>by refine wE Ob N3 (λ_=>rfl) ((t ρ s m _ a b8).bb λv a' b=>fb b λH x k o T N=>?_);have f:=a.dV k o;refine HN<|>B.aD (B.d5<|(z ρ a' H _ f N).bb λd9 d' b=>fb b λc9 y d q W P=>?_);refine B.aD (B.d5<|NQ (E ρ) (F ρ) (f.dV d q) P λc8 b' l u c' e8 e g a8 a9 Q=>B.b7 ?_);refine B.aD (B.d5<|(ad5 g.bK (e.d2.eR W) a8 a9 (e.d2.eR<|d.d2.eR T) Q).bb λ_ e9 b=>eP b λd8 n r R=>?_);exact EY (jU (((k.ak d).ak e).ak n).hO (g.dV n r) R)
theorem Wl {x:aq}{i:Nat}{v:am}{n pos:a5}(e:jo c S)(l:c.fr x=J i)(k:mz v.ctorIdx=ag)(j:tp v=ag)(h:∀ρ,b4 Z A p c S ρ v (ao C G ρ)):hY Z A p c S (.Assign [.Name x n] v pos) (hS C<|.aE i G):=λρ s m y a t=>by exact wE (aeE k j) N2 (λ_=>rfl) ((h ρ s m _ a t).bb λv E b=>fb b λz x d f q o=>B.bk<|gt (yq e (a.dV d f) l q) λ_ F b=>bW b λg r=>jU (d.hO.ak r) g o)
end
section
variable {Z:bj}{A:cn}{p aG:bi}{c:cA}{S dH:dw}{ρ bV:bp}{C:cG}{s:al}{m:w}
def GZ (Z:bj)(c:cA)(S:dw)(e:List (af->cM Unit))(d:List Nat):Prop:=∀(j:Nat) (b:af->cM Unit) (i:Nat),e[j]?=J b->d[j]?=J i->∃x,c.fr x=J i/\∀v (A:cn) (s:al) (a:Unit->al->Prop),aS (aL Z) A (GC S x v) a b6 s->aS (aL Z) A (b v) a b6 s
set_option tactic.hygienic true in
theorem L3 (r:jo c S){d:List (af->cM Unit)}:∀{fR:List Nat},d.length=fR.length->GZ Z c S d fR->∀{e:List af} {f:List O} {ρ bV:bp} {s:al},dh Z p c S ρ m s->dc Z p s.heap e f->gU ρ fR f=J bV->aS (aL Z) A (QG d e) (λ_ o=>dh Z p c S bV m o/\gp Z p S s o) b6 s:=by
 induction d with
 |nil=>
  intro fR g _ e f ρ bV s a k b;induction fR using cj with
  |cons _ _=>cases g
  |nil=>
   cases k with
   |Y _ _=>cases b
   |L=>exact ck ⟨dr b▸a,.cf⟩
 |cons l d H=>
  intro fR g n e f ρ bV s a k b;induction fR using cj with
  |nil=>cases g
  |cons i fR=>
   cases k with
   |L=>cases b
   |@Y v x e f K M=>refine aU (n 0 l i rfl rfl) λy G F=>aB (mW<|F v A s _<|gt (Ch r a G K) λ_ P h=>bW h λt q=>?_);exact gt (H (g0 g) (λj l i C E=>n (j+1) l i C E) t (q.d2.le M) b) λ_ Q h=>bW h λz N=>⟨z,q.ak N⟩
theorem adY (a:jV c (t::N)=J M):∃x pos i l,t=.Name x pos/\M=i::l/\c.fr x=J i/\jV c N=J l:=aU (lm.mp a) λx b a=>bW (Lj a) λ_ a=>aU (lm.mp a) λi d a=>aU (fw.mp a) λl e a=>aW (oa b) λpos b=>⟨x,pos,i,l,b,a.symm,d,e⟩
theorem Ed (a:jV c (t::N)=J M)(b:∀x pos i l,t=.Name x pos->M=i::l->c.fr x=J i->jV c N=J l->F):F:=kG (adY a) b
theorem adZ:∀{b:List Nat},jV c N=J b->N.length=b.length:=by
 induction N with
 |nil=>exactλa=>dr a▸rfl|cons h g f=>exactλa=>Ed a λx pos i l _ d _ e=>d▸congrArg (·+1) (f e)
theorem adX:∀{b:List Nat},jV c N=J b->∀(j:Nat) (d:am),N[j]?=J d->∃x pos i,d=.Name x pos/\b[j]?=J i/\c.fr x=J i:=by
 induction N with
 |nil=>exactλ_ _ _ a=>nomatch a|cons d o m=>
  intro b e j n a;refine Ed e λx pos i l f g h k=>?_;clear e;subst g;induction j using ey with
  |zero=>exact⟨x,pos,i,(dr a).symm.trans f,rfl,h⟩|succ j=>exact m k j n a
theorem SW (Z:bj)(S:dw):∀{b:List Nat},jV c N=J b->((uy N S).map (·.2)).length=b.length/\(uy N S).findIdx? (·.1)=D/\GZ Z c S ((uy N S).map (·.2)) b:=by
 induction N with
 |nil=>exactλa=>dr a▸⟨rfl,rfl,λj d i g=>nomatch g⟩|cons d y p=>
  intro b a;refine Ed a λx pos i l h k m n=>gR (p n) λq r t=>?_;subst h k;refine⟨congrArg (·+1) q,?_,λj d o e f=>?_⟩
  ·show List.findIdx? _ ((ap,kb (.Name x pos) S)::uy y S)=D;refine List.findIdx?_cons<|>r<|>?_;rfl
  ·induction j using ey with
   |zero=>exact⟨x,(dr f)▸m,λv A s z a=>(dr e:kb (.Name x pos) S=d)▸EW a⟩|succ j=>exact t j d o e f
theorem C4 {d e:Type}{P:List d->List e->Prop}(f:P [] [])(g:∀a l c m,l.length=m.length->P l m->P (a::l) (c::m)){l:List d}:∀{m:List e},l.length=m.length->P l m:=by
 induction l with
 |nil=>exactλ{m} b=>Pf b.symm▸f|cons a l h=>
  intro m b;induction m using cj with
  |nil=>cases b
  |cons c m=>exact g a l c m (g0 b) (h<|g0 b)
theorem adH {i:Nat}{v:O}(b:M.length=g.length):∀{ρ:bp},i∉M->gU (ρ.set i<|J v) M g=(gU ρ M g).map (·.set i (J v)):=C4 (P:=λM g=>∀{ρ:bp},i∉M->gU (ρ.set i<|J v) M g=(gU ρ M g).map (·.set i (J v))) (λ_=>rfl) (λj M x g _ c ρ a=>by show gU ((ρ.set i<|J v).set j<|J x) M g=(gU (ρ.set j<|J x) M g).map _;exact V (show(ρ.set i<|J v).set j (J x)=(ρ.set j<|J x).set i (J v)from List.set_comm _ _ λq=>a<|q▸.head _)<|V (c λq=>a (.tail _ q) ..)<|rfl) b
theorem adF (a:V8.length=r8.length):∀{ρ:bp},gU ρ (V8++M) (r8++g)=(gU ρ V8 r8).bind λρ=>gU ρ M g:=C4 (P:=λV8 r8=>∀{ρ:bp},gU ρ (V8++M) (r8++g)=(gU ρ V8 r8).bind λρ=>gU ρ M g) rfl (λ_ _ _ _ _ b=>b) a
theorem NE:∀{a:List O} {ρ bV:bp},gU ρ M a=J bV->M.length=a.length:=by
 induction M with
 |nil=>exactλ{a ρ bV} b=>by induction a using cj with
  |nil=>rfl|cons _ _=>cases b
 |cons i M c=>exactλ{a ρ bV} b=>by induction a using cj with
  |nil=>cases b
  |cons x a=>exact congrArg (·+1) (c b)
theorem adG (a:M.length=g.length):∀{ρ:bp},M.Nodup->gU ρ M.reverse g.reverse=gU ρ M g:=C4 (P:=λM g=>∀{ρ:bp},M.Nodup->gU ρ M.reverse g.reverse=gU ρ M g) (λ_=>rfl) (λi M x g a c ρ b=>by refine qc<|>qc<|>adF (by rw[jb,jb,a])<|>c (iY.mp b).2<|>?_;show _=gU (ρ.set i<|J x) M g;refine adH a (iY.mp b).1<|>?_;cases gU ρ M g<;>rfl) a
theorem Zx (a:(M.eraseDups.length==M.length)=ag):M.Nodup:=(KJ M).2 (beq_iff_eq.mp a)
theorem aff {v:O}{c:bp->Prop}(a:tS M v ρ c):∃b bV,v=.ce b/\gU ρ M b=J bV/\c bV:=Z0 a λb d a=>gg a λbV e a=>⟨b,bV,d,e,a⟩
theorem Oj {v:O}{a:bp->Prop}(c:tS M v ρ a)(d:∀b bV,v=.ce b->gU ρ M b=J bV->a bV->F):F:=em (aff c) d
theorem dh.vw (a:dh Z p c S ρ m s)(h:je s.heap.objs.size s.heap o):dh Z p c S ρ m {s with heap:=o}/\dG Z p s {s with heap:=o}:=by have b:cV s.heap o:=λg e d=>h g e (pw ⟨e,d⟩<|hJ _) d;have f:dG Z p s {s with heap:=o,toks:=s.toks}:=dG.gv b;exact⟨a.dV f<|a.bK.gv b,f⟩
theorem WI {f i:Type}{b:f->Option i}{l:List f}:(l.filterMap b).length=l.length->∀(j:Nat) (x:f),l[j]?=J x->∃y,b x=J y/\(l.filterMap b)[j]?=J y:=by
 induction l with
 |nil=>exactλ_ _ _ c=>nomatch c|cons a l h=>
  intro d j x c;cases e:b a with
  |none=>rw[Ph e]at d;exact absurd (List.length_filterMap_le b l) (w2.mpr<|d▸nN _)|some g=>
   rw[Fg e]at d⊢;induction j using ey with
   |zero=>exact⟨g,dr c▸e,rfl⟩|succ j=>exact h (g0 d) j x c
def BE (c:cA)(a:List Nat)(b:cM (Option<|List aq)):Prop:=b=cr D\/∃names:List aq,b=cr (J names)/\names.length=a.length/\∀(j:Nat) (x:aq),names[j]?=J x->∃i,a[j]?=J i/\c.fr x=J i
theorem Aa {q:Prop} [Decidable q]{b:cM (Option<|List aq)}(d:¬q->BE c M b):BE c M (if q then cr D else b):=by
 by_cases a:q
 ·exact if_pos a<|>.inl rfl
 ·exact if_neg a<|>d a
set_option tactic.hygienic true in
theorem aer {b:List am}{k:Nat}{sf:a5}{v:am}{l:List Nat}(e:EL v=ag)(h:jV c b=J l):BE c l (uD [.Tuple b k sf] v S):=by
 cases v<;>try exact .inl rfl
 rename_i q z A;have e:(q.all<|QM 8)=ap:=aY (As ..)<|e;delta uD;dsimp only;refine Aa λr=>Aa λs=>Aa λd=>Aa λt=>e<|>?_;rw[wH,not_or,bne_iff_ne,afT]at d;refine .inr ⟨_,rfl,d.1.trans<|adZ h,λj x f=>?_⟩;have g:j<b.length:=d.1▸(dv.mp f).1;refine aU (WI d.1 j b[j]<|du g) λy a m=>v5 (adX h j b[j]<|du g) λC pos i n o p=>?_;rw[n]at a;cases dr (f.symm.trans m);dsimp only at a;split at a
 ·exact⟨i,o,dr a▸p⟩
 ·cases a
theorem Oh {F:a5}{v:af}{x:O}{b:bp->Prop}(t:A.handled=D)(i:jo c S)(z:jV c N=J M)(a:dh Z p c S ρ m s)(G:aM Z p s.heap v x)(r:tS M x ρ b):aS (aL Z) A (kb (.Tuple N W F) S v) (λ_ g=>∃bV,b bV/\dh Z p c S bV m g/\gp Z p S s g) b6 s:=Oj r λT bV l d q=>Aj l G λP K y _ f=>gR (SW Z S z) λe C E=>wpAny_assign_Tuple (items:=K.toArray) t y ((ax ..).symm.trans<|e.trans<|(NE d).trans f.eE.symm) C λQ n=>bW (a.vw n) λj h=>gt (L3 i e E j (h.d2.le f) d) λ_ R o=>bW o λk H=>⟨bV,q,k,h.hO.ak H⟩
theorem Wu {k:Nat}{sf pos:a5}{fR:List Nat}{v:am}(y:A.handled=D)(o:jo c S)(F:jV c N=J fR)(c9:(fR.eraseDups.length==fR.length)=ag)(c':EL v=ag)(b':∀ρ,b4 Z A p c S ρ v (ao C G ρ)):hY Z A p c S (.Assign [.Tuple N k sf] v pos) (hS C<|.e0 fR G):=λρ s m R a e8=>by
 refine FI<|>B.b7 ?_;refine aeF<|>B.aD (B.cp ?_);refine if_neg (~~~_)<|>B.aD ((b' ρ s m _ a e8).bb λP f' b=>fb b λf9 x n T K H=>?_);have r:=a.dV n T;refine(aer (S:=S) (k:=k) (sf:=sf) c' F).elim (λh=>?_) λq=>eP q λnames h e d8=>?_
 ·refine h<|>B.aD (B.cp ?_);show B _ _ (do kb (.Tuple N k sf) S P;cr A6:cM lV) _ _;exact B.aD (B.bk<|gt (Oh y o F r K H) λ_ g8 b=>eP b λbV q g f=>B.cp<|jU (n.hO.ak f) g q)
 ·refine h<|>B.aD (B.cp ?_);show B _ _ (do rule "assign.swapped-stores";let items<-unpackItems P names.length D;QG (names.reverse.map λd9=>Bg S d9) items.reverse;cr A6:cM lV) _ _;refine Oj H λh8 bV d G q=>Aj d K λe9 Q c8 _ M=>?_;have E:=NE G;refine B.aD (B.bk<|l2<|B.aD<|B.bk ?_);refine V (show names.length=Q.toArray.size from e.trans<|E.trans M.eE.symm)<|wpAny_unpackItems_tuple (items:=Q.toArray) y c8 λe' b8=>bW (r.vw b8) λg f=>B.aD (B.bk<|gt (L3 o (fR:=fR.reverse) (by exact ax<|>jb<|>jb<|>e<|>rfl) ?_ g (f.d2.le M).Nv<|(adG E<|Zx c9).trans G) λ_ g9 b=>bW b λW d'=>B.cp<|jU ((n.hO.ak f.hO).ak d') W q);intro j g' i d t;rw[cv]at d;refine aU (fw.mp d) λx l a8=>?_;have z:j<names.length:=by have:=(dv.mp l).1;rw[jb]at this;exact this
  rw[Pp z]at l;rw[Pp (e▸z),<-e]at t;exact aU (d8 _ _ l) λf8 a9 a'=>⟨x,dr (a9.symm.trans t)▸a',λv A s R b9=>a8▸Rb b9⟩
end
section
variable {Z:bj}{A:cn}{p aG:bi}{c:cA}{S dH:dw}{ρ bV:bp}{C:cG}{s:al}{m:w}
theorem dZ.mv (d:dZ Z p c S ρ o)(l:∀b e,hP S b->o.get? b=J e->d8.get? b=J e)(m:∀b,hP S b->aG b)(n:∀v x,aM Z p o v x->aM Z aG d8 v x):dZ Z aG c S ρ d8:=by
 refine⟨d.ee,d.nv,d.fC,d.s3,?_,λx i z A=>?_,m _<|.inl rfl,λx a q=>m _<|.inr ⟨x,q⟩,d.inj⟩
 ·refine aU d.iP λC F k=>?_;obtain⟨e,t,s,j,f⟩:=F;exact⟨C,⟨e,t,s,l _ _ (.inl rfl) j,f⟩,λx i v a b h=>aU (k x i v a b h) λval g f=>⟨val,g,n _ _ f⟩⟩
 ·refine em (d.lz x i z A) λa E g G k=>?_;obtain⟨e,j,y⟩:=G;exact⟨a,E,g,⟨e,l _ _ (.inr ⟨x,g⟩) j,y⟩,λv h=>aU (k v h) λval r f=>⟨val,r,n _ _ f⟩⟩
def Rs (Z:bj)(A:cn)(p:bi)(c:cA)(S:dw)(ρ:bp)(o q:am)(t:g1)(n:w->(O->w->Prop)->Prop):Prop:=∀(l:Option (af->cM Unit)) (i:O->w->Prop) (f:af->al->Prop) (s:al) (m:w) (r:a5),dh Z p c S ρ m s->n m i->(∀e a b j,dG Z p s b->a3 Z (fe p a) j b.heap->(∃g,b.heap.Ns a g)->eW Z (fe p a) b.heap->dZ Z (fe p a) c S ρ b.heap->i (.ah e) j->e≠a->¬p a->(∀k,kq k->s.heap.get? a=J k->False)->match l with
 |none=>∀d,hj a b.heap d->f (.ref e) {b with heap:=d}|some u=>aS (aL Z) A (u<|.ref e) (λ_ h=>(∃g,h.heap.Ns a g)/\∀d,hj a h.heap d->f .none {h with heap:=d}) b6 b)->B (aL Z) A (uA o t S r (xj []) ap (c5 q S) l) f s
theorem Uv {l:List qj}{pos:a5}(f:iH Z)(G:jp Z)(N:kl Z m8 C)(e:gE m8 A):di (fE cd W c<|.ListComp t l y pos) λb=>∃x d E,l=[⟨.Name x d,E,[],0⟩]/\Rs Z A p c S ρ (.ListComp t [⟨.Name x d,E,[],0⟩] y pos) E y (ao C b ρ):=by
 induction W using ey with
 |zero=>exact ib|succ W=>have j:=λc p S ρ r b n=>(pN f G W c m8 A p S ρ C N e r b n).1;exact cB (z:=yU l) λq h=>fp λo=>Lk h λd h=>ow (λP=>eu λT g=>⟨_,d,_,h,λR K M s m Q a F k=>Oz e.jv o (λaG dH bV=>KQ G f.tohp e o P) f.tohp (j _ _ _ _ _ _ g) (λv=>vJ v (tJ _ _ g).1) a F k⟩) λ_=>cB λb g=>eu λi H=>⟨_,d,_,h,λR K M s m Q a F k=>Ox e.jv o (λaG dH bV=>j _ _ _ _ _ _ g) (Dd f e tJ (λp r b n=>j _ _ _ _ r b n) _ H) (λv=>vJ v<|Dc _ H) a F k⟩
theorem Wm {g:Nat}{y:aq}{i:Nat}{j:a5}{gens:List qj}{pos h:a5}(R:iH Z)(Q:jp Z)(a9:kl Z g C)(c8:gE g A)(P:jo c S)(b9:c.fr y=J i)(H:fE cd W c (.ListComp t gens H9 h)=J G):hY Z A p c S (.Assign [.Name y j] (.ListComp t gens H9 h) pos) (hS C<|.aE i G):=λρ s m e8 a c'=>by
 have h9:=(pN R Q W c g A p S ρ C a9 c8 _ G H).1;refine kF (Uv (p:=p) (S:=S) (ρ:=ρ) R Q a9 c8 G H) λx K E g9 f9=>?_;clear H;subst g9;have F:uE [.Name y j] (.ListComp t [⟨.Name x K,E,[],0⟩] H9 h) pos.line S=cr (S.blockKind==.function&&S.kindOf y==J .local&&j.line==h.line&&!(H9.names.any λ(g,e)=>g==y&&(e==.local||e==.cell))):=rfl;cases b8:(S.blockKind==.function&&S.kindOf y==J .local&&j.line==h.line&&!(H9.names.any λ(g,e)=>g==y&&(e==.local||e==.cell)))with
 |false=>rw[b8]at F;exact wE F N2 (λ_=>rfl) ((h9 s m _ a c').bb λv n' o=>fb o λn9 x c9 f8 k' k8=>B.bk<|gt (yq P (a.dV c9 f8) b9 k') λ_ l9 o=>bW o λn k=>jU (c9.hO.ak k) n k8)|true=>
  rw[b8]at F;refine FI<|>B.b7 ?_;refine F<|>B.aD (B.cp ?_);refine if_pos rfl<|>B.aD ?_;show B _ _ (do
   let _<-uA (.ListComp t [⟨.Name x K,E,[],0⟩] H9 h) H9 S (firstIterPos [⟨.Name x K,E,[],0⟩] h) (xj []) ap (c5 E S) (J<|kb (.Name y j) S)) _ _
  refine B.aD (f9 (J<|kb (.Name y j) S) _ (λ_ M=>B (aL Z) A (cr ():cM Unit) (λ_=>B (aL Z) A (cr A6:cM lV)<|qE Z p c S e8 s) M) s m _ a c' λa8 l M i' N e9 j' low d8 q m' z i8=>?_);dsimp only;have T:dh Z (fe p l) c S ρ i' M:=⟨e9,d8,low⟩;refine gt (yq P T b9<|.ah a8) λ_ l9 o=>bW o λn k=>⟨?_,λa' r=>B.cp<|B.cp ?_⟩
  ·exact ML j' λj8 d h8 g' h' l8=>⟨j8,d,h8,g',k.ca l d ⟨.inr rfl,λq=>z<|a.bD.wg l q⟩ h',l8⟩
  ·refine bW (n.bK.gc r.extBut (.inr rfl)<|low.iq _<|.inr rfl) λe' d'=>?_;have j9:∀b,hP S b->b≠l:=λb q G=>z (G▸a.bD.wg b q);have d9:dZ Z p c S (ρ.set i<|J<|.ah a8) a':=n.bD.mv (λb d q f=>r.extBut b d (j9 b q) f) a.bD.wg λv x k9=>(d'.eR k9).js λ_ q=>.inl q;refine jU ⟨?_,λb d e f=>(r.extBut b d (λG=>z<|G▸e.1)<|k.ca b d ⟨.inl e.1,e.2⟩<|N.ca b d e.1 f),λb d e i f=>?_⟩ ⟨e'.nr λ_ q=>.inl q,d9,⟨λb q=>?_,λb q=>T.cS.iq b<|.inl q⟩⟩ q
   ·exact fZ N.cX λm8 n8 f'=>fZ k.cX λm9 i9 g8=>⟨a',i9,by exact g8<|>f'<|>rfl⟩
   ·have b':b≠l:=λG=>i8 d i (G▸f);exact r.extBut b d b' (k.d2 b d (λl'=>l'.elim e b') i<|N.d2 b d e i f)
   ·exact aW (n.cS.cS b<|.inl q) λd f=>⟨d,r.extBut b d (λG=>z<|G▸q) f⟩
end
section
variable {Z:bj}{A:cn}{p aG:bi}{c:cA}{S dH:dw}{ρ bV:bp}{C:cG}{s:al}{m:w}
theorem dD.WR {target e body S}(f:Nat->al->Prop)(q:∀a s,f a s->B (aL Z) A (r7 e) (λh b=>match h with
 |none=>z (.ok .next) b|some v=>B (aL Z) A (QR target e v) (λ_ b=>B (aL Z) A (kb target S v) (λ_ j=>B (aL Z) A (lX body S) (λg i=>match g with
  |.next=>∃m,m<a/\f m i
  |.ret v=>z (.ok<|.ret v) i|_=>False) j) b) b) s)(a:Nat)(k:f a s):dD (aL Z) A (.forLoop target e body [] S) z s:=by
 induction a using AZ generalizing s with
 |ind a p=>
  refine dD.jY rfl ?_;show B _ _ ((forTurn target e body [] S).onRaise (λx=>do Bj x S;GD x)) _ _;refine B.ox ?_;simp-iota only[forTurn];refine B.b7 (B.aD<|B.ox<|(q a s k).bb λh b c=>?_);induction h with
  |none=>exact B.cp ⟨rfl,dD.TL<|B.cp c⟩|some v=>
   refine B.aD (c.bb λ_ b c=>B.aD<|c.bb λ_ j o=>B.aD<|o.bb λg i d=>?_);induction g with
   |next=>refine aU d λm n l=>?_;exact B.cp ⟨rfl,p m n l⟩
   |cont=>exact d.elim|brk=>exact d.elim|ret v=>exact B.cp d
theorem Wv {pos:a5}{f:b2}(N:A.handled=D)(K:∀ρ,jN Z A p c S ρ t (ao C G ρ))(M:m1 Z A p c S l' (a6 C f)):hY Z A p c S (.While t l' [] pos) (hS C<|.iA G f):=λρ s m y a d=>by
 refine aW d λb d=>exec_While<|>B.b7 (B.Nx N ?_);refine dD.afH (λb g=>∃ρ m,dh Z p c S ρ m g/\gp Z p S s g/\hR (λρ m f=>ao C G ρ m<|el f) (a6 C f) b ρ m y) (λb g e=>em e λρ m a Q d=>?_) b ⟨ρ,m,a,.cf,d⟩;induction b using ey with
 |zero=>exact d.elim|succ b=>
  rw[hR]at d;refine(K ρ g m _ a d).bb λE R e=>eP e λP o z q=>?_;have i:=a.dV o z;have h:=Q.ak o.hO;induction E with
  |true=>
   refine(M ρ R P _ i q).bb λF T e=>k1 e λH x l k r j n=>?_;cases F<;>cases H<;>try exact k.elim
   ·exact⟨b,nN _,x,l,j,h.ak r,n⟩
   ·exact⟨.aI _,x,l,k,h.ak r,j,n⟩
  |false=>exact B.cp (jU h i q)
theorem YN {target:am}{v:af}(m:hq Z s.heap r g E9)(q:f () s):aS (aL Z) A (QR target (.ref r) v) f d s:=by
 have key:∀(a:bm),aS (aL Z) A (do
  let b<-load r;match b.cls,b.data with
  |.type c,.fields g=>if ["enumerate","zip","dict_itemiterator","dict_reverseitemiterator","odict_iterator","itertools.zip_longest","itertools.pairwise"].contains c&&g[0]?==J (rawInt a)then rule "for.unpacks-the-owned-tuple";Q7 r 0 .none|_,_=>cr ():cM Unit) f d s:=λa=>by
  have e:∀(b:gr) (c:String),s.heap.get? r=J b->b.cls=.type c->(["enumerate","zip","dict_itemiterator","dict_reverseitemiterator","odict_iterator","itertools.zip_longest","itertools.pairwise"].contains c)=ap->(∃g,b.data=.fields g)->aS (aL Z) A (do
   let b<-load r;match b.cls,b.data with
   |.type c,.fields g=>if ["enumerate","zip","dict_itemiterator","dict_reverseitemiterator","odict_iterator","itertools.zip_longest","itertools.pairwise"].contains c&&g[0]?==J (rawInt a)then rule "for.unpacks-the-owned-tuple";Q7 r 0 .none|_,_=>cr ():cM Unit) f d s:=λb c h i l k=>aW k λg j=>by refine aB (nS h ?_);refine i<|>j<|>?_;dsimp only;exact l<|>Bool.false_and<|>if_neg (~~~_)<|>ck q
  induction m with
  |jS a _ _=>refine eP a λb h i j=>?_;exact e b _ h i (~~~_) ⟨_,j⟩|cY a _=>exact e _ _ a rfl (~~~_) ⟨_,rfl⟩|js a _=>exact e _ _ a rfl (~~~_) ⟨_,rfl⟩
 cases target<;>first
  |exact ck q|(cases v<;>first|exact ck q|exact key _)
theorem aeR {f:Bool}{v:af}{x:O}{g:bp->Prop}(q:A.handled=D)(h:jo c S)(b:(f=ap/\∃y pos i,t=.Name y pos/\M=[i]/\c.fr y=J i)\/(f=ag/\∃e k pos,t=.Tuple e k pos/\jV c e=J M))(a:dh Z p c S ρ m s)(l:aM Z p s.heap v x)(j:EC f M x ρ g):aS (aL Z) A (kb t S v) (λ_ d=>∃bV,g bV/\dh Z p c S bV m d/\gp Z p S s d) b6 s:=by
 rcases b with⟨rfl,y,pos,i,rfl,rfl,r⟩|⟨rfl,e,k,pos,rfl,b⟩
 ·exact gt (yq h a r l) λ_ d o=>bW o λn z=>⟨_,j,n,z⟩
 ·exact Oh q h b a l j
theorem gp.fe {h:bm}{e s j:al}(m:e.heap.get? h=D)(g:gp Z p S e s)(f:gp Z (fe p h) S s j):gp Z p S e j:=by refine fZ g.cX λr t d=>?_;subst d;refine fZ f.cX λl n d=>?_;subst d;refine⟨⟨l,n,rfl⟩,λa c q b=>f.ca a c ⟨.inl q.1,q.2⟩<|g.ca a c q b,λa c q i b=>f.d2 a c (λo=>o.elim q λk=>?_) i<|g.d2 a c q i b⟩;rw[k,m]at b;cases b
theorem gp.vw {d s:al}(j:d.heap.get? r=D)(e:gp Z p S d s)(f:je r s.heap o):gp Z p S d {s with heap:=o,toks:=W}:=by
 refine fZ e.cX λk l h=>?_;subst h;have g:∀a b,d.heap.get? a=J b->a≠r:=λa b c q=>by rw[q,j]at c;cases c
 exact⟨⟨o,W,rfl⟩,λa b q c=>f a b (g a b c)<|e.ca a b q c,λa b q i c=>f a b (g a b c)<|e.d2 a b q i c⟩
theorem KR {b:List dC}{pos:a5}{N:Bool}{i:l5}{E:b2}(T:A.handled=D)(g9:jo c S)(j':∀ρ,m0 Z A p c S ρ A8 (lQ C i ρ))(k8:∀v,o0 A8 S v=cr v)(j9:∀p,m1 Z A p c S b (a6 C E))(k':(N=ap/\∃y pos i,t=.Name y pos/\M=[i]/\c.fr y=J i)\/(N=ag/\∃f' E pos,t=.Tuple f' E pos/\jV c f'=J M)):hY Z A p c S (.For t A8 b [] pos) (hS C<|.bD N M i E):=λρ s m g' a o=>by
 refine exec_For<|>B.b7 (B.aD<|(j' ρ s m _ a o).bb λv d k=>zq k λc9 f d' a8 Q iter o' o9 n9=>B.aD<|B.cX (k8 v)<|B.cp<|B.b7<|B.aD<|B.d5<|B.bk<|iter A d _ rfl λb9 R l8 i'=>?_);have H:=a.dV a8 Q;have fresh:d.heap.get? d.heap.objs.size=D:=hJ _;have h8:dh Z (fe p d.heap.objs.size) c S ρ c9 {d with heap:=b9,toks:=d.toks}:=(Lz (p:=p) fresh).b7 R H (Ly H.cS R (Q.nF fresh) i');have m8:gp Z p S d {d with heap:=b9}:=(dG.gv (cx:=d.toks) R).hO;have K:¬p d.heap.objs.size:=H.cS.cS.vK;have a':Z.d1.get? d.heap.objs.size=D:=Q.nF fresh;have n:∀b,hP S b->p b:=H.bD.wg;refine B.Nx T<|dD.WR (λd8 l=>∃ρ m f,f.length=d8/\dh Z (fe p d.heap.objs.size) c S ρ m l/\hq Z l.heap d.heap.objs.size f d'/\gp Z p S d l/\gK N M (a6 C E) d' f ρ m g') (λd8 l k=>DE k λρ m f k9 g b' e9 o=>?_) f.length ⟨ρ,c9,f,rfl,h8,l8,m8,n9⟩;induction f using cj with
 |nil=>
  refine B.bk (LG T g.bK b' o.1 λz h=>?_);refine bW (g.bK.gc h (.inr rfl) a') λP G=>?_;have W:∀b,hP S b->b≠d.heap.objs.size:=λb q r=>K (r▸n b q);refine jU (a8.hO.ak<|e9.vw fresh h) ⟨P.nr λ_ q=>.inl q,g.bD.mv (λb e q j=>h b e (W b q) j) n λv x F=>(G.eR F).js λ_ q=>.inl q,⟨λb q=>?_,λb q=>g.cS.iq b<|.inl q⟩⟩ o.2
  ·refine aW (g.cS.cS b<|.inl q) λe j=>?_;exact⟨e,h b e (λr=>K<|r▸q) j⟩
 |cons x f=>
  refine B.bk (LH g.bK b' o.1 λval z cx l' c8 F j8=>?_);dsimp only;have h:=l'.extBut;refine bW (g.bK.gc h (.inr rfl) a') λP G=>?_;have W:∀b,hP S b->b≠d.heap.objs.size:=λb q r=>K (r▸n b q);have h9:dh Z (fe p d.heap.objs.size) c S ρ m {l with heap:=z,toks:=cx}:=⟨P,g.bD.mv (λb e q j=>h b e (W b q) j) (λb q=>.inl<|n b q) λv x F=>G.eR F,rh g.cS h j8⟩;refine B.bk (YN (s:={l with heap:=z,toks:=cx}) c8<|B.bk ?_);have m9:gp Z p S d {l with heap:=z,toks:=cx}:=e9.vw fresh h;refine gt (aeR T g9 k' h9 (G.eR F) o.2) λ_ m' k=>eP k λo8 n' h' f8=>(j9 _ o8 m' m _ h' n').bb λi8 n8 k=>k1 k λi9 g8 c' b8 f9 a9 e8=>?_;have e':=(m9.fe fresh f8).fe fresh f9;have l9:∀e,z.get? d.heap.objs.size=J e->n8.heap.get? d.heap.objs.size=J e:=λe j=>by have d9:¬hP S d.heap.objs.size:=λq=>K (n _ q);exact f9.ca _ e ⟨.inr rfl,d9⟩ (f8.ca _ e ⟨.inr rfl,d9⟩ j)
  cases i8<;>cases i9<;>try exact b8.elim
  ·exact⟨f.length,by refine aY (k9 ..)<|?_;exact nN _,g8,c',f,rfl,a9,c8.b7 l9,e',e8⟩
  ·exact⟨.aI _,g8,c',aM.js (λ_ q=>.inl q) b8,a8.hO.ak e',a9.nr (λ_ q=>.inl q) n,e8⟩
end
section
variable {Z:bj}{A:cn}{p aG:bi}{c:cA}{S dH:dw}{ρ bV:bp}{C:cG}{s:al}{m:w}
theorem Uw {v:am}:tp v=ap->∃a gens b pos,v=.ListComp a gens b pos:=DH (P:=λv d=>d=ap->∃a gens b pos,v=.ListComp a gens b pos) (λ_ _ _ _ _=>⟨_,_,_,_,rfl⟩) λc=>nomatch c
theorem Cj {d:dC->Option na}(e:∀g,di (d g) λj=>hY Z A p c S g<|hS C j):∀b,di (oA d b) λk=>m1 Z A p c S b (a6 C k)
 |[]=>gy Wk|s::f=>cB (z:=d s) (k:=λa=>(oA d f).map<|b2.Y a) λa h=>eu λb i=>Wj (e s a h) (Cj e f b i)
theorem aeS {v k:am}{pos:a5}(t:iH Z)(s:jp Z)(y:kl Z m8 C)(o:gE m8 A)(m:jo c S):di (Od cd c (fE cd W c) v k) λr=>hY Z A p c S (.Assign [k] v pos) (hS C r):=have b:∀ρ j,di (fE cd W c j) λg=>b4 Z A p c S ρ j (ao C g ρ):=λρ j g z=>(pN t s W c m8 A p S ρ C y o j g z).1;v7 (P:=ph λk r=>hY Z A p c S (.Assign [k] v pos)<|hS C r) (λx E=>cB λi e=>eu λg d=>by
 cases h:tp v with
 |true=>exact Wl m e (tJ v g d).1 h λρ=>b ρ _ _ d|false=>refine MK (Uw h) λK gens a8 T F=>?_;clear h;subst F;exact Wm t s y o m e d)<|zu (λa9 N E=>cB λM e=>cB λg d=>fp λf=>gy (by rw[ek]at f;exact Wu o.jv m e f.1 f.2 λρ=>b ρ _ _ d))<|DK (λQ i E=>fp λh=>cB λa' e=>cB λa d=>mA (λ_=>eu λH n=>Wt (λρ=>b ρ _ _ e) (λρ=>b ρ _ _ d) λρ=>b ρ _ _ n) λq f=>cB λl n=>eu λz G=>by exact aW (HJ f) λR f=>f<|>Ws (λρ=>b ρ _ _ e) (λρ=>b ρ _ _ d) (λρ=>yP (b ρ) _ _ n) λρ=>yP (b ρ) _ _ G) ib
theorem WT {f:am->Option aX}{i:l5}{l:b2}{pos:a5}(g:A.handled=D)(d:jo c S)(h:∀ρ,m0 Z A p c S ρ A8 (lQ C i ρ))(k:∀v,o0 A8 S v=cr v)(e:∀p,m1 Z A p c S l' (a6 C l)):di (K3 c i l t) λb=>hY Z A p c S (.For t A8 l' [] pos) (hS C b):=v7 (P:=ph λt b=>hY Z A p c S (.For t A8 l' [] pos)<|hS C b) (λx o=>fp λ_=>eu λj a=>KR g d h k e<|.inl ⟨rfl,x,o,j,rfl,rfl,a⟩)<|zu (λq m n=>cB λr a=>fp λ_=>gy<|KR g d h k e<|.inr ⟨rfl,q,m,n,rfl,a⟩) ib
theorem L5 (q:iH Z)(y:jp Z):∀(d n:Nat) (A:cn) (c:cA) (S:dw) (C:cG),jo c S->kl Z n C->gE n A->∀(p:bi) (o:dC),di (ww cd c d o) λh=>hY Z A p c S o (hS C h)
 |0=>λ_ _ _ _ _ _ _ _ _ _=>ib|d+1=>λn A c S C t z l p o=>by
  have E:∀ρ p e,di (fE cd d c e) λb=>b4 Z A p c S ρ e (ao C b ρ):=λρ p e b j=>(pN q y d c n A p S ρ C z l e b j).1;have N:∀ρ e,di (fE cd d c e) λb=>jN Z A p c S ρ e (ao C b ρ):=λρ e b j=>(pN q y d c n A p S ρ C z l e b j).2;have F:∀p r,di (oA (ww cd c d) r) λK=>m1 Z A p c S r (a6 C K):=λp=>Cj (L5 q y d n A c S C t z l p);show di (NZ cd c (fE cd d c) (ww cd c d) o) _;refine NA (P:=ph λo h=>hY Z A p c S o<|hS C h) (λc9 v pos=>cB λh T=>?_)<|acJ (λh b' v pos=>cB λx H=>cB λi g=>fp λR=>cB λQ k=>eu λb G=>?_)<|acK (λv pos=>fp λW=>eu λb j=>Wo W λρ=>E ρ p _ _ j)<|NB (λh a r pos=>cB λb g=>cB λb8 k=>eu λb9 G=>Wp (λρ=>N ρ _ _ g) (F p _ _ k)<|F p _ _ G)<|acO (λh r Q pos=>fp λM=>cB λb g=>eu λK k=>?_)<|acL (λh a' r Q pos=>fp λM=>cB λi g=>cB λK k=>?_)<|acN (λb pos=>?_)<|acM (λ_ _ _=>gy λρ s m a9 a a8=>a8.elim) ib
  ·exact mC T<|>aeS q y z l t
  ·exact aW (oa H) λc8 H=>H<|>Wn t g R k λρ=>E ρ p _ _ G
  ·exact jZ.mp M<|>Wv l.jv (λρ=>N ρ _ _ g) (F p _ _ k)
  ·exact jZ.mp M<|>WT (f:=fE cd d c) l.jv t (λρ=>Dd q l tJ (E ρ) _ g) (λv=>vJ v<|Dc _ g) λp=>F p _ _ k
  ·induction b with
   |none=>exact gy Wr|some v=>exact eu λb j=>Wq λρ=>E ρ p _ _ j
end
structure uU (a:iE) (names:List aq):Prop where
 kH:a.params.posonlyargs=[]
 agf:a.params.args.map (·.arg)=names
 agh:a.params.kwonlyargs=[]
 agk:a.params.vararg=D
 agi:a.params.kwarg=D
 bd:names.Nodup
theorem YM {i:Type}:∀{names:List aq} {d:List i},names.Nodup->names.length=d.length->names.filterMap (λa=>((names.zip d).lookup a).map (a,·))=names.zip d:=by
 intro names d g e;have key:∀(pre:List (aq×i)) (b:List aq) (c:List i),b.Nodup->b.length=c.length->(∀x∈pre,x.1∉b)->b.filterMap (λa=>((pre++b.zip c).lookup a).map (a,·))=b.zip c:=by
  intro pre b;induction b generalizing pre with
  |nil=>intro c _ _ _;rfl|cons a b l=>
   intro c g e j;induction c using cj with
   |nil=>cases e
   |cons h c=>
    refine bW (iY.mp g) λm n=>?_;have k:(pre++(a::b).zip (h::c)).lookup a=J h:=by
     have:pre.lookup a=D:=by
      cases q:pre.lookup a with
      |none=>rfl|some v=>exact absurd (.head _) (j _<|h7 q)
     refine List.lookup_append<|>this<|>wW<|>jD<|>?_;simp
    refine Fg (by rw[k];rfl)<|>?_;have:=l (pre++[(a,h)]) c n (by simpa using e) (λx f=>by
     rcases hi.mp f with q|q
     ·exactλo=>j x q (.tail _ o)
     ·exact V (uj.mp q ..)<|m)
    rw[bN]at this;exact wW<|>congrArg _ this
 exact key [] names d g e (λx f=>(nomatch f))
theorem E0 {e:Type}{x:aq}:∀{names:List aq} {en:List e},names.length<=en.length->x∈names->((names.zip en).lookup x).isSome=ag
 |[],_,_,a=>(nomatch a)|n::d,[],a,_=>(nomatch a)|n::d,v::en,c,a=>by
  refine wW<|>jD<|>?_;cases b:x==n with
  |true=>rfl|false=>
   refine E0 (by simpa using c) ?_;rcases dE.mp a with q|q
   ·subst q;simp at b
   ·exact q
theorem EV {e:Type}{a:cn}{c:Prop} [Decidable c]{h u:cM e}{b:e->al->Prop}(f:¬c)(g:aS n a u b d K):aS n a (if c then h else u) b d K:=if_neg f<|>g
noncomputable def ol (l:List (aq×af))(x:aq×af):List (aq×af):=if(l.lookup x.1).isNone=ag then l++[(x.1,x.2)]else l
theorem WH {g:cn}{l:List (aq×af)}:∀{b:List (aq×af)} {e:List (aq×af)->al->Prop},e (l.foldl ol b) K->aS n g (forIn l b λ(x:aq×af) (slots:List (aq×af))=>match x with|(name,h)=>if(slots.lookup name).isNone=ag then cr (t5<|slots++[(name,h)])else cr (t5 slots)) e d K:=by
 induction l with
 |nil=>exactλq=>dX AI q|cons x l f=>
  intro b e q;refine Fi<|>?_;rw[AH]at q;by_cases c:(b.lookup x.1).isNone=ag
  ·exact aB (dX (a:=t5<|b++[(x.1,x.2)]) (if_pos c)<|f (by unfold ol at q;rw[if_pos c]at q;exact q))
  ·exact aB (dX (a:=t5 b) (if_neg c)<|f (by unfold ol at q;rw[if_neg c]at q;exact q))
theorem Ci {names:List aq}{c e hV:List af}{r:Option (Array af)}(p:uU x names)(y:(r.getD #[]).toList=hV)(i:∀{h:fx} {f:cn} {g:af->al->Prop} {d:Option (Array af)->al->Prop},d r K->aS h f (seqItems? x.defaults) d g K)(z:c.length<=names.length)(s:Ff (λb=>((names.zip c).lookup b).isNone) (names.take<|names.length-(hV.drop<|hV.length-names.length).length)=[])(q:((names.drop<|names.length-(hV.drop<|hV.length-names.length).length).zip<|hV.drop<|hV.length-names.length).foldl ol (names.zip c)=names.zip e)(A:e.length=names.length):w5 K x ⟨c,[]⟩ (names.zip e):=by intro h f g d t;obtain⟨name,qual,⟨a9,F,a',W,S,Z,P⟩,body,scope,R,M,Q,T,doc,a8,E,H,N,G⟩:=x;obtain⟨j,k,m,n,o,C⟩:=p;dsimp only at j k m n o i;subst j k m n o y;delta bindArgs;refine aB (dX AI ?_);refine aB (i ?_);refine EV (λa=>kO.mpr z<|of_decide_eq_true (lg.mp a).1)<|EV (λa=>absurd ((congrArg (λl=>!Pt l) s).symm.trans a) rD)<|aB (WH ?_);refine aB (dX AI ?_);exact EV (λa=>nomatch a)<|ck (V (show Pg _ (_++[])=_ from(congrArg _<|dn _).trans ((congrArg (λl=>Pg (λb=>(oN b l).map (b,·)) _) q).trans<|YM C A.symm)) t)
theorem Dt {f:Type}{names l:List aq}{en:List f}(c:names.length<=en.length)(d:∀a∈l,a∈names):Ff (λa=>((names.zip en).lookup a).isNone) l=[]:=List.filter_eq_nil_iff.mpr λa e b=>by
 have:=E0 (en:=en) c (d a e);cases q:(names.zip en).lookup a with
 |none=>rw[q]at this;cases this
 |some _=>rw[q]at b;cases b
theorem It {names:List aq}(b:uU x names)(c:x.defaults=.none)(a:e.length=names.length)(d:al):w5 d x ⟨e,[]⟩ (names.zip e):=Ci (hV:=[]) (r:=D) b rfl (λq=>V c<|dX rfl q) (fv a) (Dt (fv a.symm) λf q=>lj q) (by rw[Fd,PQ];rfl) a
theorem TE {names:List aq}{ls:aq}(d:uU x (names++[ls]))(i:x.defaults=.ref J8)(l:K.heap.get? J8=J c)(m:c.data=.seq #[j] W)(a:e.length=names.length):w5 K x ⟨e,[]⟩ ((names++[ls]).zip<|e++[j]):=by
 have b:(names++[ls]).length=names.length+1:=a2 ..;have h:(names++[ls]).zip e=names.zip e:=by have:e=e++[]:=(dn _).symm;exact this<|>PP a.symm<|>PQ<|>dn<|>dn<|>rfl
 have f:[j].drop ([j].length-(names++[ls]).length)=[j]:=by rw[b,show [j].length-(names.length+1)=0 from A0 (mP _ _)];rfl
 have g:(names++[ls]).length-[j].length=names.length:=by rw[b];rfl
 have k:(names.zip e).lookup ls=D:=by
  cases q:(names.zip e).lookup ls with
  |none=>rfl|some v=>exact absurd rfl ((fm.mp d.bd).2.2 ls (wT<|h7 q).1 ls<|.head _)
 refine Ci (hV:=[j]) (r:=J #[j]) d rfl (λq=>V i<|uG l m q) (by rw[a,b];exact kN _) ?_ ?_ (by rw[b,a2,a];rfl)
 ·rw[f,g,List.take_left,h];exact Dt (fv a.symm) λW q=>q
 ·rw[f,g,List.drop_left,h];show ol (names.zip e) (ls,j)=_;unfold ol;rw[k,PP a.symm];rfl
theorem TD {names:List aq}{en:List af}(d:uU B9 names)(f:B9.defaults=.ref J8)(g:K.heap.get? J8=J c)(h:c.data=.seq #[j] W)(a:en.length=names.length):w5 K B9 ⟨en,[]⟩ (names.zip en):=by
 refine Ci (hV:=[j]) (r:=J #[j]) d rfl (λq=>V f<|uG g h q) (fv a) (Dt (fv a.symm) λW q=>lj q) ?_ a;have m:∀l:List (aq×af),(∀x∈l,x.1∈names)->l.foldl ol (names.zip en)=names.zip en:=λl=>by
  induction l with
  |nil=>exactλn=>rfl|cons x l k=>
   intro b;rw[AH];have e:ol (names.zip en) x=names.zip en:=by
    have:=E0 (en:=en) (fv a.symm) (b x<|.head _);unfold ol;cases q:(names.zip en).lookup x.1 with
    |none=>rw[q]at this;cases this
    |some _=>rfl
   rw[e];exact k λy q=>b y (.tail _ q)
 exact m _ λx i=>li (wT i).1
section
variable {Z:bj}{A:cn}{p aG:bi}{s:al}{m:w}
noncomputable def oD (a:g1):List aq:=(a.names.filter λx=>Db x.2).map (·.1)
structure qA (Z:bj) (a:bm) (d:bq) (c:gr) (b:iE) (body:List dC) (names:List aq):Prop where
 i3:Z.d1.get? a=J c
 iJ:c.data=.func b
 b0:b.body=.stmts body
 IT:b.scope.isCoroutine=ap
 jt:b.scope.isGenerator=ap
 LM:b.scope.kind=.function
 IU:Z.d1.CodeRec b.code b.qualname
 Um:b.closure=[]
 ds:b.globals=kQ
 TW:b.builtins=oZ
 eQ:uU b names
 gQ:names.length=d.gQ
 DW:(oD b.scope).take d.gQ=names
 Mt:∀x,b.scope.names.lookup x≠J .free
 aad:∀x∈names,b.scope.names.lookup x=J .local\/b.scope.names.lookup x=J .cell
 CE:(d.s5=D/\b.defaults=.none)\/(d.s5=J .bE/\∃e c f,b.defaults=.ref e/\Z.d1.get? e=J c/\c.data=.seq #[.none] f)
theorem OB {c:Type} [BEq c] [LawfulBEq c]{x:c}{i:Nat}:∀{l:List c} {k:Nat},(l.zipIdx k).lookup x=J i->k<=i/\l[i-k]?=J x
 |[],_,b=>by cases b
 |y::l,k,b=>by
  rw[Fy,jD]at b;split at b
  ·rename_i e;cases b;exact⟨cL _,by refine iD<|>?_;simpa using(beq_iff_eq.mp e).symm⟩
  ·refine bW (OB b) λa d=>⟨by exact ac 51129820 a,?_⟩;exact V (show i-k=(i-(k+1))+1 by exact bo (az 0xf49dd4811e44bec8 aw<|ay<|ac 51129820 a)<|az 0x30027cfe248aa728 aw<|ay<|ac 10545038812 a)<|d
theorem wx {x:aq}{i:Nat}(a:(i7 y).gi.lookup x=J i):(oD y)[i]?=J x:=by have:=(OB (l:=oD y) (k:=0) a).2;simpa using this
theorem OC {f:Type}{x:aq}{a:List aq}{e:List f}(c:x∈(a.zip e).map (·.1)):x∈a:=aU (eS.mp c) λy d b=>b▸(wT d).1
theorem TA {x:aq}{a:List (aq×af)}:∀{m:aq->Option af},x∉a.map (·.1)->bindL Q9 a m x=m x:=by
 induction a with
 |nil=>exactλ_=>rfl|cons y e d=>
  intro m b;rw[f1,dE,not_or]at b;rw[bindL,d b.2];by_cases c:Q9 y.1=J .local
  ·rw[if_pos c];exact if_neg b.1
  ·rw[if_neg c]
theorem Tw {x:aq}{a:List (aq×af)}:∀{m:aq->Option af},x∉a.map (·.1)->bindC Q9 a m x=m x:=by
 induction a with
 |nil=>exactλ_=>rfl|cons y e d=>
  intro m b;rw[f1,dE,not_or]at b;rw[bindC,d b.2];by_cases c:Q9 y.1=J .local
  ·rw[if_pos c]
  ·rw[if_neg c];exact if_neg b.1
theorem Tz {x:aq}{v:af}{a:List aq}:∀{b:List af} {i:Nat} {m:aq->Option af},a.Nodup->a[i]?=J x->b[i]?=J v->Q9 x=J .local->bindL Q9 (a.zip b) m x=J v:=by
 induction a with
 |nil=>exactλ_ g=>nomatch g|cons j a h=>
  intro b i m f d c e;induction b using cj with
  |nil=>cases c
  |cons k b=>
   rw[wW,bindL];induction i using ey with
   |zero=>cases d;cases c;rw[TA (λq=>(iY.mp f).1<|OC q),if_pos e];exact if_pos rfl
   |succ i=>exact h (iY.mp f).2 d c e
theorem Tv {x:aq}{v:af}{a:List aq}:∀{b:List af} {i:Nat} {m:aq->Option af},a.Nodup->a[i]?=J x->b[i]?=J v->Q9 x≠J .local->bindC Q9 (a.zip b) m x=J v:=by
 induction a with
 |nil=>exactλ_ g=>nomatch g|cons j a h=>
  intro b i m f d c e;induction b using cj with
  |nil=>cases c
  |cons k b=>
   rw[wW,bindC];induction i using ey with
   |zero=>cases d;cases c;rw[Tw (λq=>(iY.mp f).1<|OC q),if_neg e];exact if_pos rfl
   |succ i=>exact h (iY.mp f).2 d c e
theorem HP {b i:Nat}{v:O}(a:bp.b7 (g.map J++dK b D) i=J v):g[i]?=J v:=by
 delta bp.b7 at a;rw[Fj]at a;split at a
 ·rw[cv]at a;cases q:g[i]? with
  |none=>rw[q]at a;cases a
  |some c=>rw[q]at a;simpa using a
 ·rw[AJ]at a;split at a<;>cases a
theorem KA {a:bm}{b':bq}{h:iE}{body:List dC}{names:List aq}{k:Nat}{W:dw->al->Prop}(d:qA Z a b' c h body names)(a8:a3 Z p m s.heap)(l:eW Z p s.heap)(G:dc Z p s.heap e g)(b8:e.length=names.length)(N:∀f aG t,ht p aG s.heap->(∃P T,t={s with heap:=P,toks:=T})->cV s.heap t.heap->(∀b,hP f b->s.heap.get? b=D)->dh Z aG (i7 h.scope) f (g.map J++dK k D) m t->jo (i7 h.scope) f->W f t):aS (aL Z) A (QY h.scope h.globals h.closure (names.zip e) (h.qualname++".<locals>.") (J a) h.code D h.builtins) W b6 s:=by
 refine d.Um<|>?_;have a9:∀x,h.scope.names.lookup x=J .cell->∀b9,((cellsFrom b9 h.scope.names []).lookup x).isSome=ag:=λx N b9=>cellsFrom_some _ _ _ (.inl N);refine wpAny_newFunctionEnv_cells d.LM (λx r=>?_) λf z t j=>?_
 ·rcases d.aad x.1 (wT r).1 with q|q
  ·exact .inl q
  ·exact .inr ⟨q,a9 _ q _⟩
 refine fZ j.toInCall.same λP T K=>?_;have ext:cV s.heap t.heap:=j.toInCall.keep;have d9:f.locals=s.heap.objs.size:=by refine z<|>?_;rfl
 have R:∀x,f.kindOf x=h.scope.names.lookup x:=λx=>by refine z<|>?_;rfl
 have M:∀b,hP f b->s.heap.get? b=D:=λb q=>by
  have:s.heap.objs.size<=b:=by
   rcases q with rfl|⟨x,q⟩
   ·exact j.toInCall.fresh
   ·exact gY (eo j.toInCall.fresh<|j.above x b<|h7 q)
  cases H:s.heap.get? b with
  |none=>rfl|some c=>exact absurd (nQ H) (kO.mpr this)
 have F:ht p (λb=>p b\/hP f b) s.heap:=⟨λ_ q=>.inl q,λb q=>q.elim .inl λq=>.inr<|M b q⟩;have c9:∀y b,f.cells.lookup y=J b->b≠f.locals:=λy b q H=>by have:=j.above y b<|h7 q;rw[H]at this;exact absurd this (eI _)
 refine N f _ t F ⟨P,T,K⟩ ext M ⟨F.bK ext a8,?_,?_⟩ ⟨d.Mt,c9,λx y b c' d8=>?_⟩
 ·refine⟨by exact z<|>d.LM,λx k o=>.inl<|by exact R<|>o,by exact z<|>d.ds,by exact z<|>d.TW,⟨_,j.toInCall.ns,λx i v o S n=>?_⟩,λx i o S=>?_,.inr<|.inl rfl,λx b q=>.inr<|.inr ⟨x,q⟩,λx y i r c8=>?_⟩
  ·have n:=HP n;have Q:i<names.length:=aY (b8 ..)<|G.eE<|>(dv.mp n).1;have r:names[i]?=J x:=aY (d.DW ..)<|ug<|>if_pos (by rw[<-d.gQ];exact Q)<|>wx S;exact aU (G.ju n) λval C q=>⟨val,Tz d.eQ.bd r C<|by exact R<|>o,F.eR ext q⟩
  ·have o:h.scope.names.lookup x=J .cell:=by
    rcases o with q|q
    ·exact q
    ·exact absurd q (d.Mt x)
   refine aW (rV.mp (show(f.cells.lookup x).isSome=ag by exact z<|>a9 x o _)) λb a'=>⟨b,_,a',j.cell x b a',λv n=>?_⟩;have n:=HP n;have Q:i<names.length:=aY (b8 ..)<|G.eE<|>(dv.mp n).1;have r:names[i]?=J x:=aY (d.DW ..)<|ug<|>if_pos (by rw[<-d.gQ];exact Q)<|>wx S;exact aU (G.ju n) λval C q=>⟨val,Tv d.eQ.bd r C (by refine R<|>o<|>?_;decide),F.eR ext q⟩
  ·have:=wx r;rw[wx c8]at this;exact(dr this).symm
 ·refine⟨λb q=>?_,λb q=>q.elim (l.iq b) λq=>a8.nF<|M b q⟩;rcases q with q|rfl|⟨x,q⟩
  ·exact aW (l.cS b q) λc E=>⟨c,ext _ _ E⟩
  ·exact kF j.toInCall.ns λc _ _ E _=>⟨c,E⟩
  ·exact aU (j.cell x b q) λc E _=>⟨c,E⟩
 ·have C:=h7 c';have K:=h7 d8;exact name_of_addr j.apart C K
theorem gE.UV {A:cn}(a:gE (W+1) A):gE W (A.deeper i'):=by
 refine⟨a.jv,?_,?_⟩
 ·have:=a.yK;show A.depth+1+2*W+4<Bk;exact aj 0x3fc71f5c4b5297f1ef667 this
 ·have:=a.EK;show A.units+3+12*W+100<kd;exact aj 0x6570d621f881d50b02e15fe5e73 this
theorem WO {S k a9:Nat}{a:bm}{j:bq}{body:List dC}{names:List aq}{C:cG}{a8:bp}(a':iH Z)(f8:jp Z)(b:qA Z a j c x body names)(k9:wv cd (i7 x.scope) a9 body=J j.qX)(g':kl Z S C)(e8:gE (S+1) A)(r:a3 Z p m s.heap)(l:eW Z p s.heap)(o:dc Z p s.heap e g)(f:yy j.gQ k j.s5 g=J a8)(l':a6 C j.qX a8 m λP _ m=>H (CR P) m):dD (aL Z) A (.call (.ref a) ⟨e,[]⟩) (qF<|c1 Z p H s) s:=by
 have go:∀(F:List af) (W:List O) (R:Nat),dc Z p s.heap F W->F.length=names.length->w5 s x ⟨e,[]⟩ (names.zip F)->a8=W.map J++dK R D->dD (aL Z) A (.call (.ref a) ⟨e,[]⟩) (qF<|c1 Z p H s) s:=λF W R o t g9 N=>by
  clear f;subst N;refine dD.Lf (by have:=e8.yK;exact aj 0x64c9bbbc07de7 this) (r.fs _ _ b.i3) b.iJ b.IT b.jt b.b0 (b.IU.keeps r.fs) (g9 _ _ _ _<|KA (k:=R) b r l o t λb' aG k' y h' ext i8 g8 e'=>⟨a'.Mv.keeps λh c n=>ext _ _<|r.fs h c n,?_⟩);refine dD.Le<|(Cj (L5 a' f8 a9 S (A.deeper b') _ b' C e' g' e8.UV aG) _ _ k9 _ k' m _ g8 l').bb λP l8 i'=>k1 i' λi9 n8 c' c8 T f' d9=>?_;have e9:dG Z p s l8:=by refine fZ h' λm9 m' h8=>fZ T.cX λj8 l9 h9=>⟨⟨j8,l9,by exact h9<|>h8<|>rfl⟩,λh c q n=>T.ca h c ⟨y.cY h q,λm8=>?_⟩<|ext h c n,λh c q i n=>T.d2 h c (y.gP q n) i<|ext h c n⟩;rw[i8 h m8]at n;cases n
  have d':=f'.bK.nr y.cY;cases P<;>cases i9<;>try exact c8.elim
  ·exact⟨c',.bE,e9,d',.bE,d9⟩
  ·exact⟨c',_,e9,d',aM.js y.cY c8,d9⟩
 unfold yy at f;by_cases t:g.length=j.gQ
 ·rw[if_pos t]at f;have E:e.length=names.length:=o.eE<|>t<|>b.gQ<|>rfl;exact b.CE.elim (λd=>go e g _ o E (It b.eQ d.2 E s) (dr f).symm) λd=>bW d λb8 d=>v5 d λf9 k8 j' G K M=>go e g _ o E (TD b.eQ G (r.fs _ _ K) M E) (dr f).symm
 ·rw[if_neg t]at f;refine aU (lm.mp f) λd c9 f=>?_;by_cases Q:g.length+1=j.gQ
  ·rw[if_pos Q]at f;refine b.CE.elim (λd=>nomatch d.1.symm.trans c9) λd=>bW d λb8 d=>v5 d λf9 k8 j' G K M=>?_;have z:names.length=e.length+1:=V (b.gQ ..)<|aY (Q ..)<|o.eE<|>rfl;have d8:names≠[]:=λN=>by rw[N]at z;cases z
   have b9:=List.dropLast_concat_getLast d8;have j9:e.length=names.dropLast.length:=by refine qa<|>z<|>?_;rfl
   refine go (e++[.none]) (g++[.bE]) (k-j.gQ) (o.eA<|.Y .bE .L) (by refine a2<|>z<|>?_;rfl) ?_ ?_
   ·have:=TE (ls:=names.getLast d8) (b9.symm▸b.eQ) G (r.fs _ _ K) M j9;rw[b9]at this;exact this
   ·refine V (cD ..)<|V (bN ..)<|aY (dr f ..)<|aY (dr (b8.symm.trans c9) ..)<|?_;rfl
  ·rw[if_neg Q]at f;cases f
end
section
open PySem.Builtin
section
variable {Z:bj}{A:cn}{p aG:bi}{s gs:al}{m:w}
theorem afQ {args:nP}{a:ut}(e:kP iZ l=J a)(c:jq (.builtin l args)=ap)(d:B (aL Z) (A.under<|.builtin l args) (a args) (uR (aL Z) A z) s):dD (aL Z) A (.builtin l args) z s:=by refine dD.jY c ?_;show B _ _ (match kP iZ l with|some b=>b args|none=>Bp<|(GE l "#data").getD l) _ s;exact e<|>d
set_option maxHeartbeats 4000000 in
theorem YT {C h:bm}{ew:List af}{m:af->al->Prop}(d:Z.dF.In s.heap)(i:Gg Z.dF C=ag)(p:j7 Z.dF (.ref C) "__init__"=J (J<|.ref h))(G:xd Z.dF (.ref h)=J (.type "function"))(r:dD (aL Z) (A.under<|.builtin "type.__call__" ⟨.ref C::ew,[]⟩) (.call (.ref h) ⟨.ref (s.heap.objs.size+1)::ew,[]⟩) (InitBack (s.heap.objs.size+1)<|qF m) {s with heap:=(s.heap.push qo).push (ka C s.heap.objs.size)}):dD (aL Z) A (.call (.ref C) ⟨ew,[]⟩) (qF m) s:=by
 obtain⟨b,F,z,Q,N⟩:=s;dsimp only at d r;have n:=makes_of (M:=aL Z) d i;have x:=n;obtain⟨⟨a9,a',y,b8,o,W,a8,E⟩,made,T,P,b9,call,S⟩:=n;refine dD.jY rfl ?_;show B _ _ (Gq (.ref C) _) _ _;refine B.aD (B.bk<|nS o ?_);show B _ _ (callAny.viaDunder (.ref C) _) _ _;delta callAny.viaDunder;refine B.aD (B.bk<|call.at ?_);dsimp only;refine tc_bind<|>B.aD (B.cp<|B.aD<|B.cp ?_);refine B.cp (a:=Fin.again<|.call (.builtin "type.__call__") ⟨.ref C::ew,[]⟩) ⟨rfl,?_⟩;refine dD.jY rfl ?_;show B _ A.in1 (do xh "type.__call__" _;again (.builtin "type.__call__" _)) _ _;refine B.aD (B.bk<|check_slot tc_kind tc_split S (tc_args _ _ _)<|B.cp ⟨Code.quiet_builtin _<|by decide+kernel,?_⟩);refine afQ entry_typeCall (Il _) ?_;delta Builtin.«type.__call__»;have i:xc (aL Z) b (mroOf<|.ref C) y.mro:=((Looks.ld (part:=D) o).andThen .now).andThen .now;dsimp only;refine B.jx (by rfl)<|B.aD (B.bk<|i.at ?_);refine B.jx E<|B.aD (B.bk<|made.at ?_);dsimp only;refine B.aD (B.cp ?_);refine B.aD (B.d5<|B.bk<|wpAny_call<|new_K (R:=λe l=>match e with|.ok (.ret v)=>v=.ref (b.objs.size+1)/\l=⟨(b.push qo).push<|ka C b.objs.size,F,z,Q,N⟩|_=>False) x (Gf d p) (.inl rfl) ⟨rfl,rfl⟩|>λc=>QK c λe l q=>?_);rcases e with g|(v|_|_|_)<;>try exact q.elim
 obtain⟨rfl,rfl⟩:=q;have j:∀f k,b.get? f=J k->((b.push qo).push<|ka C b.objs.size).get? f=J k:=λf k g=>oV _ (oV _ g);have H:((b.push qo).push<|ka C b.objs.size).get? (b.objs.size+1)=J (ka C b.objs.size):=by heap_get
 have t:xc (aL Z) ((b.push qo).push<|ka C b.objs.size) (qr<|.ref<|b.objs.size+1) (.ref C):=(Looks.ld H).andThen .now;have K:xc (aL Z) ((b.push qo).push<|ka C b.objs.size) (Gs (.ref<|b.objs.size+1)<|.ref C) ag:=t.andThen (P.keeps j);refine B.aD (B.bk<|K.at ?_);refine B.jx (by rfl)<|B.aD (B.d5 ?_);delta Bh specialOf;refine B.aD (B.bk ((t.andThen<|(Gf d p).keeps j).at ?_));dsimp only;refine B.d5<|B.aD (B.bk (((bind_fn d (.ref<|b.objs.size+1) G).keeps j).at ?_));dsimp-iota only;refine B.aD (B.Ny<|r.bb λe l c=>?_);rcases e with g|(v|_|_|_)<;>try exact c.elim
 obtain⟨rfl,c⟩:=c;exact B.cp (B.jx (by rfl)<|B.cp c)
end
end
section
variable {Z:bj}{A:cn}{p aG:bi}{c:cA}{S:dw}{ρ:bp}{C:cG}{s gs:al}{m:w}
structure sj (Z:bj) (b:Nat):Prop where
 YU:Gg Z.dF (Z.d4 b)=ag
 acP:j7 Z.dF (.ref<|Z.d4 b) "__setattr__"=J (J<|.builtin "object.__setattr__")
 kH:plainOver Z.dF (Z.d4 b)=ag
 jv:hasDictIn Z.dF (Z.d4 b)=ag
 aeV:∀a,(hH b).contains a=ag->takerIn Z.dF (Z.d4 b) (ep a)=J D
theorem W2 {x:aq}(a:ik Z p o b R):b.any (·.refKey)=ap:=by
 induction a with
 |L=>rfl|Y q _ d=>exact AB<|>d<|>OJ<|>aW q.1 λe c=>by delta DictEntry.refKey;exact c<|>rfl
theorem W4 {i:Nat}{v:af}{y:O}(g:i<18)(e:aM Z p o v y)(f:ik Z p o b R):(∀x∈R,x.1<18)->ik Z p o (r4 (ep i) (rZ Z.c2.params<|ep i) (.str (ep i) T9) v b) (nk R i y):=by
 induction f with
 |L=>exactλ_=>.Y ⟨⟨T9,rfl⟩,rfl,e⟩ .L|@Y m a b R q l j=>
  intro d;rw[r4];unfold nk;by_cases c:a.1=i
  ·exact V (if_pos c ..)<|if_pos ((vL q).trans<|beq_iff_eq.mpr<|congrArg ep c)<|>.Y ⟨q.1,q.2.1,e⟩ l
  ·exact V (if_neg c ..)<|if_neg (λk=>c<|KY (d a<|.head _) g<|beq_iff_eq.mp<|(vL q).symm.trans k)<|>.Y q (j λx h=>d x<|.tail _ h)
theorem W6 {i:Nat}{y:O}{b:Nat->Bool}(a:R.all (λx=>b x.1)=ag)(d:b i=ag):(nk R i y).all (λx=>b x.1)=ag:=by
 induction R with
 |nil=>exact(Bool.and_true _).trans d|cons x f e=>
  rw[wL,ek]at a;unfold nk;by_cases c:x.1=i
  ·exact V (if_pos c ..)<|wL<|>ek<|>a
  ·exact V (if_neg c ..)<|wL<|>ek<|>⟨a.1,e a.2⟩
theorem Nk {name:aq}{qu:Int}{key v:af}{dM:List f4}:(r4 name qu key v dM).length<=dM.length+1/\r4 name qu key v dM≠[]:=by
 induction dM with
 |nil=>exact⟨cL _,oJ _ _⟩|cons a d b=>
  rw[r4];by_cases c:a.key.isStr name=ag
  ·rw[if_pos c];exact⟨kN _,oJ _ _⟩
  ·rw[if_neg c];exact⟨jd b.1,oJ _ _⟩
theorem adD {l i:Nat}{x b:bm}{dM:List f4}{v:af}(g:Z.dF.In s.heap)(e:sj Z l)(p:(hH l).contains i=ag)(j:s.heap.get? x=J (ka (Z.d4 l) b))(d:s.heap.get? b=J (j6 dM W))(r:dM.any (·.refKey)=ap)(t:dM.length<=999)(q:∀k y C z,je b s.heap k->k.get? b=J (j6 (r4 (ep i) (rZ Z.c2.params<|ep i) (.str (ep i) z) v dM) y)->f () {s with heap:=k,toks:=C}):aS (aL Z) A (setAttr (.ref x) (ep i) v) f b6 s:=by
 refine set_plain g (y1 j d) e.acP (osa_open g (y1 j d) e.kH (e.aeV i p) λE=>?_);refine aU (F5 e.jv) λF n o=>aB (ck<|aB<|aB<|Rh j<|aB<|(looks_clsIn (h:=s.heap) g n).here (s:={s with toks:=s.toks+1}) ?_);refine o<|>ck (a:=J b) (aB<|ck<|aB ?_);delta nsSet;refine aB (aB<|Ra<|ck<|aB<|wpAny_mkText<|aB<|Rh d ?_);dsimp only;have c:(!dM.toArray.any (·.key.isStr (ep i))&&dM.toArray.any (·.refKey))=ap:=O6<|>O6<|>r<|>OG<|>rfl;refine V (aRefKeyMayBeTheName_at ..)<|V (c ..)<|?_;have m:(s.heap.update b<|Obj.putName (ep i) (rZ Z.c2.params<|ep i) (.str (ep i)<|s.toks+1) v).get? b=J (j6 (r4 (ep i) (rZ Z.c2.params<|ep i) (.str (ep i)<|s.toks+1) v dM)<|putN (ep i) dM W):=by refine aY (QF ..)<|Qx _ d<|QF<|>?_;rfl
 refine wpAny_updatePart d<|aB (Ri m (pastItsLine_dict (by refine f2<|>lZ<|>?_;have:=(Nk (name:=ep i) (qu:=rZ Z.c2.params<|ep i) (key:=.str (ep i)<|s.toks+1) (v:=v) (dM:=dM)).1;exact ac 0x1377d2d4bbc514284b29cbf18 t this)) ?_);exact ck (q _ _ _ _ (ql ..).extBut m)
end
theorem ZK {n o p r s t x:Sort _}{i q j k l:n->o->p->r->s->t->x->Prop}(b:∃a d c e f g h,i a d c e f g h/\q a d c e f g h/\j a d c e f g h/\k a d c e f g h/\l a d c e f g h)(m:∀a d c e f g h,i a d c e f g h->q a d c e f g h->j a d c e f g h->k a d c e f g h->l a d c e f g h->F):F:=b.elim λa b=>b.elim λd b=>b.elim λc b=>b.elim λe b=>b.elim λf b=>b.elim λg b=>b.elim λh b=>m a d c e f g h b.1 b.2.1 b.2.2.1 b.2.2.2.1 b.2.2.2.2
section
variable {Z:bj}{A:cn}{p aG:bi}{c:cA}{S:dw}{ρ:bp}{C:cG}{s gs:al}{m:w}
theorem adW {g i:Nat}{f:dC}(l:oB cd c (fE cd g c) f=J (i,G)):∃e d a b v pos,f=.Assign [.Attribute (.Name e d) a b] v pos/\c.fr e=J 0/\cd.mf.lookup a=J i/\fE cd g c v=J G:=NA (P:=ph λf q=>∃e d a b v pos,f=.Assign [.Attribute (.Name e d) a b] v pos/\c.fr e=J 0/\cd.mf.lookup a=J q.1/\fE cd g c v=J q.2) (λy v pos=>cB λk p=>cB λa o=>cB λi m=>eu λG n=>by have j:∃e d b,k=.Attribute (.Name e d) a b/\c.fr e=J 0:=zo (P:=ph λk a=>∃e d b,k=.Attribute (.Name e d) a b/\c.fr e=J 0) (λx a b=>cB λs h=>fp λt=>gy<|by exact aW (oa h) λd h=>⟨s,d,b,by exact h<|>rfl,beq_iff_eq.mp t⟩) ib a o;exact kF j λs d b j r=>⟨s,d,a,b,v,pos,by exact mC p<|>j<|>rfl,r,m,n⟩) ib _ l
theorem adV {b i:Nat}{e:dC}(g:oB cd c (fE cd b c) e=J (i,G))(h:∀d j a f v pos,e=.Assign [.Attribute (.Name d j) a f] v pos->c.fr d=J 0->cd.mf.lookup a=J i->fE cd b c v=J G->F):F:=ZI (adW g) h
theorem aeD {b v:am}{a:aq}{c:a5}{line:Nat}:uE [.Attribute b a c] v line S=cr ap:=by cases v<;>rfl
theorem aeq {b v:am}{a:aq}{c:a5}:uD [.Attribute b a c] v S=cr D:=by cases v<;>rfl
theorem SX {a:aq}{c:a5}{v:af}:kb (.Attribute t a c) S v=(do
 let b<-kf [v] (c5 t S);ij c.atName;kf [v,b] (setAttr b a v);GA [v,b] []):=rfl
structure pe (Z:bj) (aG:bi) (c:cA) (S:dw) (ρ:bp) (f:Nat) (x a:bm) (h:aq) (e:List (Nat×O)) (l:Nat) (gs:al) (p:bi) (m:w) (s:al):Prop where
 dA:dh Z aG c S ρ m s
 vN:s.heap.get? x=J (ka (Z.d4 f) a)
 eD:∃b j,s.heap.get? a=J (j6 b j)/\ik Z aG s.heap b e/\b.length+l<=999
 qS:e.all (λx=>(hH f).contains x.1)=ag
 zN:aG x
 tD:aG a
 Aq:x≠a
 wc:∀d,hP S d->d≠a
 z0:S.kindOf h=J .local/\∃g,s.heap.Ns S.locals g/\g h=J (.ref x)
 cX:∃i k,s={gs with heap:=i,toks:=k}
 zc:hZ p gs.heap s.heap
 rr:e3 Z p gs.heap s.heap
theorem pe.dV {x j:bm}{l:aq}{k:w}(h:ht p aG gs.heap)(b:pe Z aG c S ρ W x j l R m8 gs p m s)(d:dG Z aG s K)(o:a3 Z aG k K.heap):pe Z aG c S ρ W x j l R m8 gs p k K:=by refine em b.eD λg H z n F=>fZ b.cX λQ T r=>fZ d.cX λA P t=>⟨b.dA.dV d o,d.ca _ _ b.zN b.vN,⟨g,H,d.ca _ _ b.tD z,d.d2.Lb n,F⟩,b.qS,b.zN,b.tD,b.Aq,b.wc,⟨b.z0.1,?_⟩,⟨A,P,by exact t<|>r<|>rfl⟩,λa e q f=>d.ca a e (h.cY a q)<|b.zc a e q f,λa e q i f=>d.d2 a e (h.gP q f) i<|b.rr a e q i f⟩;refine aU b.z0.2 λG M C=>?_;obtain⟨e,g,y,E,N⟩:=M;exact⟨G,⟨e,g,y,d.ca _ _ b.dA.bD.pT E,N⟩,C⟩
theorem N1 {z i h g o:Nat}{b9:dC}{x n:bm}{j:aq}(F:iH Z)(c9:jp Z)(d9:kl Z o C)(k8:gE o A)(b':sj Z h)(c':ht p aG gs.heap)(M:gs.heap.get? n=D)(i8:∀y,c.fr y=J 0->y=j)(h8:(j==("__debug__":aq))=ap)(qu:oB cd c (fE cd z c) b9=J (i,G))(Q:(hH h).contains i=ag)(t:pe Z aG c S ρ h x n j R (g+1) gs p m s)(m9:ao C G ρ m H)(f8:∀v a' b8,pe Z aG c S ρ h x n j (nk R i v) g gs p a' b8->H v a'->E .next b8):B (aL Z) A (exec b9 S) E s:=by
 refine adV qu λo9 o8 a m' v pos e9 g9 P g'=>?_;subst e9;obtain rfl:=i8 _ g9;refine bW (KZ P) λe8 h9=>?_;clear P qu;subst e8;refine wE aeD aeq (λ_=>rfl) (((pN F c9 z c o A aG S ρ C d9 k8 v G g').1 s m _ t.dA m9).bb λm8 k' f9=>fb f9 λi' y l9 l j' j8=>?_);have b:=t.dV c' l9 l;refine SX<|>v1 b.z0 λT i9 a8 W=>B.aD (B.d5<|B.bk<|GF (Rg b.dA.bD.ee T a8 W<|B.b7 ?_) h8);have d8:Z.dF.In k'.heap:=F.ti.keeps l.fs;refine em b.eD λdM n' f' r a9=>B.aD (B.d5<|B.bk<|adD d8 b' Q b.vN f' (W2 (x:=ep i) r) (~~~ac 0x9b6a5d1578919a5c a9) λg8 n9 l' l8 f N=>EY<|f8 y i' _ ?_ j8);refine bW (l.gc f b.tD<|b.dA.cS.iq _ b.tD) λc8 k=>⟨⟨c8,b.dA.bD.mv (λK e q d=>f K e (b.wc K q) d) b.dA.bD.wg λ_ _ j9=>k.eR j9,rh b.dA.cS f ⟨_,N⟩⟩,f _ _ b.Aq b.vN,⟨_,_,N,W4 h9 (k.eR j') (k.Lb r)<|Lc b.qS,?_⟩,W6 b.qS Q,b.zN,b.tD,b.Aq,b.wc,⟨T,?_⟩,?_,λa e q d=>f a e (λg=>by rw[g,M]at d;cases d)<|b.zc a e q d,λa e q i d=>f a e (λg=>by rw[g,M]at d;cases d)<|b.rr a e q i d⟩
 ·have:=(Nk (name:=ep i) (qu:=rZ Z.c2.params<|ep i) (key:=.str (ep i) l8) (v:=m8) (dM:=dM)).1;exact aj 0x4a39694ea96dcb36caa9b16 a9 this
 ·exact kF a8 λe dM e' h' k9=>⟨i9,⟨e,dM,e',f _ _ (b.wc _<|.inl rfl) h',k9⟩,W⟩
 ·exact fZ b.cX λn8 o' d'=>⟨g8,l',by exact d'<|>rfl⟩
theorem adU {e:dC}:di (nE cd c W<|e::l') λl=>(∃f h pos g a b d,e=.If f [h] [] pos/\fE cd W c f=J g/\oB cd c (fE cd W c) h=J (a,b)/\nE cd c W l'=J d/\l=(J g,a,b)::d)\/∃a b d,oB cd c (fE cd W c) e=J (a,b)/\nE cd c W l'=J d/\l=(D,a,b)::d:=cB (z:=NJ cd c (fE cd W c) e) (k:=λa=>(nE cd c W l').map (a::·)) λq m=>eu λl j=>NB (P:=ph λe q=>(∃f h pos g a b d,e=.If f [h] [] pos/\fE cd W c f=J g/\oB cd c (fE cd W c) h=J (a,b)/\nE cd c W l'=J d/\q::l=(J g,a,b)::d)\/∃a b d,oB cd c (fE cd W c) e=J (a,b)/\nE cd c W l'=J d/\q::l=(D,a,b)::d) (λf p r pos=>fp λz=>cB λs n=>cB λg o=>eu λy i=>.inl ⟨f,s,pos,g,y.1,y.2,l,by exact mC n<|>jZ.mp z<|>rfl,o,i,j,rfl⟩) (eu λy i=>.inr ⟨y.1,y.2,l,i,j,rfl⟩) q m
theorem Ld {i:Nat}{v:O}:nk R i v≠[]:=by
 induction R using cj with
 |nil=>exact oJ _ _|cons x a=>
  unfold nk;by_cases c:x.1=i
  ·exact V (if_pos c ..)<|oJ _ _
  ·exact V (if_neg c ..)<|oJ _ _
theorem XO {x H:bm}{n:aq}{a9:List (Nat×O)->w->Prop}(z:iH Z)(t:jp Z)(G:kl Z n8 C)(T:gE n8 A)(a8:sj Z m8)(F:ht p aG gs.heap)(a':gs.heap.get? H=D)(b9:∀y,c.fr y=J 0->y=n)(b8:(n==("__debug__":aq))=ap)(d8:∀d m s,pe Z aG c S ρ m8 x H n d 0 gs p m s->d≠[]->a9 d m->E .next s)(h:List dC):∀(l:List (Option aX×Nat×aX)),nE cd c W h=J l->l.all (λy=>(hH m8).contains y.2.1)=ag->∀(d:List (Nat×O)) (s:al) (m:w),pe Z aG c S ρ m8 x H n d l.length gs p m s->t2 C l ρ d m a9->(d≠[]\/∃a K f,l=(D,a,K)::f)->B (aL Z) A (lX h S) E s:=by
 induction h with
 |nil=>intro l k _ d s m g o Q;cases k;exact B.cp (d8 d m s g (Q.elim id λi=>MJ i λ_ _ _ q=>nomatch q) o)
 |cons h' h9 P=>
  intro l k e d s m g o Q;refine Gr<|>(adU l k).elim (λq=>ZK q λg9 f' pos g' a K f c9 d' N j M=>?_) λq=>v5 q λa K f N j M=>?_
  ·subst c9 M;rw[wL,ek]at e;refine exec_If<|>B.aD (B.b7<|B.aD<|((pN z t W c n8 A aG S ρ C G T g9 g' d').2 s m _ g.dA o).bb λh g8 i=>eP i λe' h8 c8 q=>?_);have b:=g.dV F h8 c8;induction h with
   |true=>show B _ _ (lX [f'] S) _ _;refine Gr<|>?_;exact B.aD (N1 z t G T a8 F a' b9 b8 N e.1 b q λv e9 f9 r R=>B.cp<|P f j e.2 _ _ _ r R<|.inl Ld)|false=>refine B.cp (P f j e.2 d g8 e' ⟨b.dA,b.vN,em b.eD λc' f8 d9 b' e8=>⟨c',f8,d9,b',ba (jc (kN _) _) e8⟩,b.qS,b.zN,b.tD,b.Aq,b.wc,b.z0,b.cX,b.zc,b.rr⟩ q<|.inl<|Q.elim id λi=>MJ i λ_ _ _ q=>nomatch q)
  ·clear k q;subst M;rw[wL,ek]at e;exact B.aD (N1 z t G T a8 F a' b9 b8 N e.1 g o λv e9 f9 r R=>P f j e.2 _ _ _ r R<|.inl Ld)
end
section
variable {Z:bj}{A:cn}{p aG:bi}{c:cA}{S:dw}{ρ:bp}{C:cG}{s gs:al}{m:w}
structure xw (Z:bj) (e:Nat) (b:jM) (c:bm) (j:gr) (d:iE) (body:List dC) (f:aq) (names:List aq) (g:Nat):Prop where
 nq:sj Z e
 WG:j7 Z.dF (.ref<|Z.d4 e) "__init__"=J (J<|.ref c)
 afa:xd Z.dF (.ref c)=J (.type "function")
 gw:qA Z c ⟨b.gQ+1,b.iP,D,.L⟩ j d body (f::names)
 adT:nE cd (i7 d.scope) g body=J b.kZ
 de:d.scope.names.lookup f=J .local
 bd:(f==("__debug__":aq))=ap
 qS:b.kZ.all (λy=>(hH e).contains y.2.1)=ag
 fT:b.kZ.length<=999
 W5:∃a h i,b.kZ=(D,a,h)::i
theorem afd {C:bm}{ew:List af}(a:gE (W+1) A):(A.under<|.builtin "type.__call__" ⟨.ref C::ew,[]⟩).handled=D/\(A.under<|.builtin "type.__call__" ⟨.ref C::ew,[]⟩).depth=A.depth+1/\(A.under<|.builtin "type.__call__" ⟨.ref C::ew,[]⟩).units<=A.units+4:=by refine⟨a.jv,rfl,?_⟩;show A.units+(Code.builtin "type.__call__" ⟨.ref C::ew,[]⟩).cUnits<=_;have:(Code.builtin "type.__call__" ⟨.ref C::ew,[]⟩).cUnits=1:=rfl;exact ac 63890516594 this
theorem Zp {F k h8:Nat}{h:jM}{j:gr}{body:List dC}{n:aq}{names:List aq}{C:cG}(b8:iH Z)(h9:jp Z)(c:xw Z k h r j B9 body n names h8)(i8:kl Z F C)(a9:gE (F+1) A)(N:a3 Z p m s.heap)(l:eW Z p s.heap)(d8:dc Z p s.heap e g)(k9:g.length=h.gQ)(q':t2 C h.kZ (.none::(g.map J++dK (h.iP-h.gQ-1) .none)) [] m λb' m=>H (.gd k b') m):dD (aL Z) A (.call (.ref<|Z.d4 k) ⟨e,[]⟩) (qF<|c1 Z p H s) s:=by
 refine YT (b8.ti.keeps N.fs) c.nq.YU c.WG c.afa<|gR (afd (C:=Z.d4 k) (ew:=e) a9) λf' d' g8=>?_;generalize A.under (.builtin "type.__call__" ⟨.ref (Z.d4 k)::e,[]⟩)=a' at f' d' g8;have p':∀S,gE F (a'.deeper S):=λS=>by
  refine⟨f',?_,?_⟩
  ·have:=a9.yK;show a'.depth+1+2*F+4<Bk;exact az 0x9db5612576ffb21bfa229c0f2a d' this
  ·have:=a9.EK;show a'.units+3+12*F+100<kd;exact az 0x10a7c8d00983a034c85354d8016c37958 g8 this
 refine aW (show∃d,d=s.heap.objs.size from⟨_,rfl⟩) λd M=>aY (M ..)<|aW (show∃x,x=d+1 from⟨_,rfl⟩) λx W=>aY (W ..)<|?_;have k8:(s.heap.push qo).objs.size=d+1:=FV<|>M<|>rfl;generalize c9:((s.heap.push qo).push<|ka (Z.d4 k) d)=o;have G:cV s.heap o:=c9▸(cV.hB _ _).ak (cV.hB _ _);have c8:o.get? d=J (j6 [] 0):=aY (c9 ..)<|oV _ (M▸ii _ rfl);have e':o.get? x=J (ka (Z.d4 k) d):=aY (c9 ..)<|V (W ..)<|aY (k8 ..)<|ii _ rfl;have a8:s.heap.get? d=D:=M▸hJ _;have c':s.heap.get? x=D:=by
  cases q:s.heap.get? x with
  |none=>rfl|some j=>have:=nQ q;rw[<-M,W]at this;exact absurd this (kO.mpr<|kN _)
 refine aW (show∃t:bi,t=λb=>p b\/b=d\/b=x from⟨_,rfl⟩) λt T=>?_;have R:ht p t s.heap:=by
  subst T;refine⟨λ_ q=>.inl q,λb q=>?_⟩;rcases q with q|rfl|rfl
  ·exact .inl q
  ·exact .inr a8
  ·exact .inr c'
 have P:a3 Z t m o:=R.bK G N;have m':eW Z t o:=by
  subst T;refine⟨λb q=>?_,λb q=>?_⟩
  ·rcases q with q|rfl|rfl
   ·exact aW (l.cS b q) λj f=>⟨j,G _ _ f⟩
   ·exact⟨_,c8⟩
   ·exact⟨_,e'⟩
  ·rcases q with q|rfl|rfl
   ·exact l.iq b q
   ·exact N.nF a8
   ·exact N.nF c'
 have o':t d:=by subst T;exact .inr (.inl rfl)
 have p8:t x:=by subst T;exact .inr (.inr rfl)
 have p9:dc Z t o (.ref x::e) (.ah x::g):=.Y (.ah x) (R.le G d8);have f8:(FZ x::e).length=(n::names).length:=by have:=c.gw.gQ;simp only[fQ]at this⊢;exact d8.eE<|>k9<|>this.symm
 have i9:B9.defaults=.none:=c.gw.CE.elim (·.2) λq=>nomatch q.1;refine dD.Lf (s:={s with heap:=o}) (by have:=a9.yK;exact az 0xa12f4bd5a9965c0f2a d' this) (P.fs _ _ c.gw.i3) c.gw.iJ c.gw.IT c.gw.jt c.gw.b0 (c.gw.IU.keeps P.fs) (It c.gw.eQ i9 f8 _ _ _ _ _<|KA (s:={s with heap:=o}) (k:=h.iP-h.gQ-1) c.gw P m' p9 f8 λS aG d9 Q j8 ext j9 K r8=>⟨b8.Mv.keeps λb j f=>ext _ _<|P.fs b j f,?_⟩);refine dD.Le ?_;have b9:ht p aG s.heap:=⟨λb q=>Q.cY b<|R.cY b q,λb q=>by
  rcases Q.dP b q with q|q
  ·exact R.dP b q
  ·cases E:s.heap.get? b with
   |none=>exact .inr rfl|some j=>rw[G _ _ E]at q;cases q⟩
 have g9:oD B9.scope=n::(oD B9.scope).drop 1:=by
  have:=c.gw.DW;cases f9:oD B9.scope with
  |nil=>rw[f9]at this;cases this
  |cons y d8=>rw[f9]at this;dsimp only[List.take]at this;cases this;rfl
 have l':(i7 B9.scope).gi.lookup n=J 0:=by show((oD B9.scope).zipIdx).lookup n=J 0;refine g9<|>Fy<|>jD<|>?_;simp
 have m8:∀y,(i7 B9.scope).fr y=J 0->y=n:=λy m9=>by have:(oD B9.scope)[0]?=J y:=wx (Em m9).1;rw[g9]at this;cases this;rfl
 refine aU K.bD.iP λn9 l9 k'=>aU (k' n 0 (.ah x) c.de l' rfl) λval i' q8=>?_;obtain rfl:=Ai q8;have h':dh Z aG (i7 B9.scope) S (.none::(g.map J++dK (h.iP-h.gQ-1) .none)) m d9:=⟨K.bK,K.bD.K4 λi v q=>by
  induction i using ey with
  |zero=>cases q
  |succ i=>exact q,K.cS⟩
 have n':∀b,hP S b->b≠d:=λb q E=>by have:=j9 b q;dsimp-iota only at this;rw[E,c8]at this;cases this
 have g':pe Z aG (i7 B9.scope) S (.none::(g.map J++dK (h.iP-h.gQ-1) .none)) k x d n [] h.kZ.length s p m d9:=by
  refine⟨h',ext _ _ e',⟨[],0,ext _ _ c8,.L,?_⟩,rfl,Q.cY _ p8,Q.cY _ o',W▸Nat.succ_ne_self d,n',⟨?_,n9,l9,i'⟩,?_,λa j q f=>ext _ _<|G _ _ f,λa j q i f=>ext _ _<|G _ _ f⟩
  ·have:h.kZ.length<=999:=c.fT;simpa using this
  ·rcases K.bD.nv n .local c.de with q|⟨q,_⟩
   ·exact q
   ·cases q
  ·exact fZ j8 λj' q9 E=>⟨j',q9,by exact E<|>rfl⟩
 refine XO b8 h9 i8 (p' S) c.nq b9 a8 m8 c.bd (λb' n8 s8 z l8 q=>⟨rfl,?_⟩) body h.kZ c.adT c.qS [] d9 m g' q' (.inr c.W5);refine em z.eD λr9 r' e9 e8 _=>?_;have o8:¬p x:=λq=>by refine aW (l.cS x q) λj f=>?_;rw[c']at f;cases f
 have o9:¬p d:=λq=>by refine aW (l.cS d q) λj f=>?_;rw[a8]at f;cases f
 refine⟨n8,.gd k b',⟨z.cX,z.zc,z.rr⟩,z.dA.bK.nr b9.cY,.gd o8 o9 z.vN e9 (λE=>l8 ?_) z.qS<|e8.d7 λa j F f _=>⟨λq=>F<|b9.cY a q,f⟩,q⟩;clear e9;subst E;cases e8;rfl
structure BC (Z:bj):Prop extends iH Z where
 UZ:∀i b,cT.CU i=J b->∃d a body names c,qA Z (Z.iK i) b d a body names/\wv cd (i7 a.scope) c body=J b.qX
 Yy:∀f e,cT.lB f=J e->∃g d a body h names c,xw Z f e g d a body h names c
theorem Uu (e:BC Z)(k:jp Z)(f:Nat):kl Z f (kx cT f):=by
 induction f with
 |zero=>exact⟨λA p h i j s m g d b l c a=>a.elim,λA p h i j s m g d b l c a=>a.elim,rfl⟩|succ f n=>exact⟨λA p h i j s m g d b l c a=>gg a λo C a=>gg a λρ F a=>MM (e.UZ h o C) λH t body names r y z=>B.aN<|WO e.toiH k y z n d b l c F a,λA p G i j s m g d b l c a=>gg a λq E a=>ZJ (e.Yy G q E) λK H t body M names r x=>B.aN<|Zp e.toiH k x n d b l c a.1 a.2,rfl⟩
end
inductive hr (d:Nat->Nat->Bool) (c:Nat->Nat->Prop) {b:Type}:KasT b->b->Prop
 |aI (a:b):hr d c (.ret a) a
 |qV {i j:Nat} {e:Bool->KasT b} {a:b}:c i j->hr d c (e<|d i j) a->hr d c (.ask i j e) a
section
variable {i0:Nat->Nat->Bool}{P:Nat->Nat->Prop}{α β:Type}
theorem hr.aD {e:KasT α}{c:α->KasT β}{a:α}{b:β}(f:hr i0 P e a)(d:hr i0 P (c a) b):hr i0 P (e.bind c) b:=by
 induction f with
 |aI a=>exact d|qV h _ g=>exact .qV h (g d)
theorem hr.afI {c:Nat->Nat->(Bool->al->Prop)->al->Prop}{b:α->al->Prop}(f:∀i j C,P i j->C (i0 i j) K->c i j C K){d:KasT α}{a:α}(e:hr i0 P d a)(q:b a K):d.kasWp c b K:=by
 induction e with
 |aI a=>exact q|qV h _ g=>exact f _ _ _ h (g q)
noncomputable def h5 (a:Nat):Array Nat:=(ih a).toArray
theorem jw {a i:Nat}(b:i<a):(h5 a).getD i 0=i:=by delta h5;simp-iota [Array.getD,b]
theorem yp {e:Nat}:∀(g d b:Nat),1<=b->b+g<e+1->g<=d->(∀i,b<=i->i<b+g->i0 i (i-1)=ap/\P i (i-1))->(g=d\/(b+g<e/\i0 (b+g) (b+g-1)=ag/\P (b+g) (b+g-1)))->hr i0 P (kas_asc (h5 e) d b) (b+g)
 |0,d,b,l,f,h,j,c=>by
  rcases c with rfl|⟨c,n,o⟩
  ·exact .aI _
  ·induction d using ey with
   |zero=>exact .aI _|succ d=>
    refine .qV (jw (show b<e from c)<|>jw (eo (bL _ _) (show b<e from c))<|>o) ?_
    ·refine jw (show b<e from c)<|>jw (eo (bL _ _) (show b<e from c))<|>if_pos (show i0 b (b-1)=ag from n)<|>?_;exact .aI _
 |g+1,0,b,l,f,h,j,c=>absurd h (rU _)|g+1,d+1,b,l,f,h,j,c=>by
  have k:b<e:=aj 4266048761563 f;refine bW (j b (cL _)<|~~~ac 21240921) λa m=>.qV (jw k<|>jw (eo (bL _ _) k)<|>m) ?_
  ·exact V (jw k ..)<|V (jw (eo (bL _ _) k) ..)<|V (if_neg (by rw[a];decide) ..)<|V (show b+(g+1)=b+1+g by exact bo (ac 108447732324)<|ac 440451987060)<|yp g d (b+1) (~~~ai 158223058 l) (~~~aj 0x3e695b69eb44a1edb f) (~~~ac 7378717276 h) (λi p q=>j i (~~~ac 51129820 p)<|~~~aj 0x8f34e4cd6972f q)<|V (show b+1+g=b+(g+1)by exact bo (ac 440451987060)<|ac 108447732324)<|c.imp g0 id
theorem DV {p d pos:Nat}(f:d<p)(o:∀i,i<d->i0 d i=dk (pos<=i)/\P d i):∀(g l b:Nat),l<=pos->pos<=b->b<=d->b-l<=g->hr i0 P (kas_place (h5 p) d g l b) pos
 |0,l,b,h,j,n,k=>by obtain rfl:l=pos:=bo (ac 354984 h) (az 0x893ef54c3eee4 j k aw);exact .aI _
 |g+1,l,b,h,j,n,k=>by
  unfold kas_place;by_cases c:l>=b
  ·refine V (if_pos c ..)<|?_;obtain rfl:l=pos:=bo (ac 354984 h) (aj 2083334162 j c);exact .aI _
  ·refine V (if_neg c ..)<|?_;have m:(l+b)/2<d:=az 0x127140862fb2fdfd9295 n (iC c) (lU _ _);refine bW (o _ m) λa q=>.qV (jw f<|>jw (~~~aj 1226021161 f m)<|>q) ?_
   ·refine V (jw f ..)<|V (jw (~~~aj 1226021161 f m) ..)<|V (a ..)<|?_;by_cases e:pos<=(l+b)/2
    ·exact decide_eq_true e<|>if_pos rfl<|>DV f o g l _ h e (~~~ac 354985 m) (~~~dN 0x423b6483e3d1566b16ce50b10d340 k aw (lU _ _) (ay<|aj 2083334162 h e))
    ·exact decide_eq_false e<|>if_neg (~~~_)<|>DV f o g _ b (~~~ac 73229353 (iC e)) j n (~~~dN 0x423b614d37de5218470dcb3b90b10d340 k aw (sL<|~~~_) (ay<|aj 267212900500 j<|iC e))
theorem aed {b pos:Nat}(d:2<=b)(m:pos<=b-1)(t:∀i j,j<i->i<b-1->i0 i j=ap/\P i j/\i0 j i=ag/\P j i)(p:∀i,i<b-1->i0 (b-1) i=dk (pos<=i)/\P (b-1) i):∃q:Array Nat,hr i0 P (r2 b) q/\q.size=b/\∀f,q[f]?=if f=pos then J (b-1)else if pos<f/\f<=b-1 then J (f-1)else if f<b then J f else D:=by
 have r:∀f,(h5 b)[f]?=if f<b then J f else D:=λf=>by
  delta h5;refine wP<|>?_;by_cases c:f<b
  ·exact V (Po c ..)<|V (if_pos c ..)<|rfl
  ·exact V (p5 (by rw[wR];exact ac 354984<|eT c) ..)<|V (if_neg c ..)<|rfl
 have x:(h5 b).size=b:=by delta h5;exact f2<|>wR<|>rfl
 by_cases c:pos=b-1
 ·refine⟨h5 b,?_,x,λf=>?_⟩
  ·delta r2 Gd;refine(hr.aD (a:=(b,h5 b)) (hr.aD (a:=1+(b-1)) (yp (b-1) (b-1) 1 (cL _) (~~~ac 6166527579102 (ay<|ai 132216 d)) (cL _) (λi k l=>?_)<|.inl rfl) ?_) ?_)
   ·by_cases h:i=b-1
    ·clear l;subst h;exact bW (p (b-1-1)<|~~~ac 51420126 (ay<|ai 132202 k)) λa g=>⟨by refine V (a ..)<|?_;exact decide_eq_false<|by exactλe=>aj 0x843a876476041a2aa26ce531acfa11677 c e<|ay<|ai 132202 k,g⟩
    ·exact gR (t i (i-1) (~~~ac 51420126 (ay<|ai 132202 k))<|by exact(fo h).elim (λe=>ac 357001 e) λe=>ac 0x49de4c6843dcd67e7fa1171f l e) λa g C=>⟨a,g⟩
   ·exact V (show 1+(b-1)=b by exact bo (ac 7326148062<|ay<|ai 132216 d)<|ac 10634563632 aw)<|if_pos (by simp-iota)<|>.aI _
   ·exact if_neg (eI _)<|>.aI _
  ·refine r<|>?_;clear m p;subst c;by_cases h:f=b-1
   ·exact if_pos h<|>if_pos (show f<b by exact aj 353063619820 h<|ay<|ai 132216 d)<|>h<|>rfl
   ·exact if_neg h<|>if_neg (show¬(b-1<f/\f<=b-1)fromλq=>by exact ac 0x8e909b23fb5659fa1165b q.1 q.2)<|>rfl
 ·by_cases y:b=2
  ·clear d t r x;subst y;obtain rfl:pos=0:=bo ((fo c).elim (λe=>ac 988273016809 e<|ay<|g7 764) λe=>ac 0x2689575168323fc1749fa11711 m e<|bL _ _) (ai 134);refine bW (p 0<|~~~ai 27764898 aw) λa g=>?_;have a:i0 1 0=ag:=by refine V (show(1:Nat)=2-1 from rfl)<|V (a ..)<|?_;rfl
   refine⟨kas_rev (h5 2) 0 2,?_,rfl,λf=>?_⟩
   ·delta r2 Gd;refine hr.aD (a:=(2,kas_rev (h5 2) 0 2)) (hr.aD (a:=1) (yp 0 1 1 (~~~g7 624) (~~~g7 6311769) (~~~g7 680) (λi k l=>absurd l<|by exactλe=>ai 0x32f1d8bdb0e7614ffa1164d k l)<|.inr ⟨by exact g7 81769,a,g⟩) ?_) (.aI _);exact .aI _
   ·match f with
    |0=>rfl|1=>rfl|f+2=>exact if_neg (by exactλe=>ai 0x466e52fa11669 e)<|>if_neg (by exactλe=>ac 0x2f6b69aeb83e39fa94fa1164d e.2<|ay<|g7 764)<|>if_neg (by exactλe=>ai 0x44f02e7a1165b e)<|>Array.getElem?_eq_none (mP _ _)
  ·refine⟨bubble (h5 b) (b-1)<|b-1-pos,?_,by exact bubble_size<|>x<|>rfl,λf=>?_⟩
   ·refine bW (p (b-2)<|~~~aj 35022157263366 aw (ay<|ai 155932 d)) λa g=>ou (t (b-2) 0 (by exact(fo c).elim (λe=>(fo y).elim (λn=>ac 0xeb9cfa1e3fc16cf7a1164d d n) λn=>ac 185871297123 n aw) λe=>aj 0x21a85aa800e6141bfa1164d m e)<|~~~aj 35022157263366 aw (ay<|ai 155932 d)) λE F z A=>?_;delta r2 Gd;refine hr.aD (a:=(b-1,h5 b)) (hr.aD (a:=1+(b-2)) (yp (b-2) (b-1) 1 (~~~g7 624) (~~~ac 6166527581118 (ay<|ai 155932 d)) (~~~aj 34862274042050 aw (ay<|ai 155932 d)) (λi k l=>?_)<|.inr ⟨by exact ac 7326440382<|ay<|ai 155932 d,?_,?_⟩) ?_) ?_
    ·exact gR (t i (i-1) (~~~ac 51420126 (ay<|ai 132202 k))<|~~~az 0x5094bdea4511bb061 l aw (ay<|ai 155932 d)) λa g C=>⟨a,g⟩
    ·exact V (show 1+(b-2)=b-1 by exact bo (aj 5885948641322386 aw<|ay<|ai 155932 d)<|aj 7658732853250388 aw<|ay<|ai 132216 d)<|V (show b-1-1=b-2 by exact bo (az 0x2137fa5d977956618 aw (ay<|ai 132216 d)<|ay<|ac 152463112802 d aw)<|az 0x3ba5a898c83eafa88 aw aw<|ay<|ai 155932 d)<|V (a ..)<|decide_eq_true (by exact(fo c).elim (λe=>az 0x691250b003de2a5 e aw<|ay<|ai 132216 d) λe=>az 0x119c8920887560411ba55858fa11711 m e (bL _ _) aw)
    ·exact V (show 1+(b-2)=b-1 by exact bo (aj 5885948641322386 aw<|ay<|ai 155932 d)<|aj 7658732853250388 aw<|ay<|ai 132216 d)<|V (show b-1-1=b-2 by exact bo (az 0x2137fa5d977956618 aw (ay<|ai 132216 d)<|ay<|ac 152463112802 d aw)<|az 0x3ba5a898c83eafa88 aw aw<|ay<|ai 155932 d)<|g
    ·refine V (show 1+(b-2)=b-1 by exact bo (aj 5885948641322386 aw<|ay<|ai 155932 d)<|aj 7658732853250388 aw<|ay<|ai 132216 d)<|V (if_neg (by simp-iota;exactλe=>ac 0x50f5894d63fcd839fa11677 e<|ay<|ai 132216 d) ..)<|V (if_pos (by exact(fo c).elim (λe=>(fo y).elim (λn=>aj 0x11660249f6c1679deee7a1164d d e n) λn=>ac 153048365667 n aw) λe=>ac 0xc1a3d3f23fc1749fa1164d m e) ..)<|V (show b-1-1=b-2 by exact bo (az 0x2137fa5d977956618 aw (ay<|ai 132216 d)<|ay<|ac 152463112802 d aw)<|az 0x3ba5a898c83eafa88 aw aw<|ay<|ai 155932 d)<|.qV (V (show(ih b).toArray=h5 b from rfl)<|jw (~~~ai 228774 d)<|>jw (~~~ac 51422142 (ay<|ai 155932 d))<|>A) ?_
     ·exact V (show(ih b).toArray=h5 b from rfl)<|jw (~~~ai 228774 d)<|>jw (~~~ac 51422142 (ay<|ai 155932 d))<|>z<|>if_pos rfl<|>.aI _
    ·refine if_pos (~~~ac 51420126 (ay<|ai 132216 d))<|>?_;dsimp-iota only;exact V (show max (b-1) 1=b-1 by exact bo (ac 354986<|rP<|ac 152463112802 d aw)<|ac 354984<|lS _ _)<|V (show b-(b-1)=1 by exact bo (aj 0xbe7df1591756 aw<|ay<|ac 51129822<|ay<|ai 132216 d)<|aj 46053153325816 aw<|ay<|ai 132216 d)<|hr.aD (DV (~~~ac 51420126 (ay<|ai 132216 d)) p (b-1) 0 (b-1) (dB _) m (cL _)<|~~~ac 354984 (bL _ _)) (.aI _)
   ·refine V (getElem?_bubble (by rw[x];exact ac 51420126<|ay<|ai 132216 d) _ (~~~ac 354984 (bL _ _)) ..)<|V (r ..)<|V (r ..)<|V (r ..)<|V (show b-1-(b-1-pos)=pos by exact bo (az 0x7447f3bdd028 aw<|ay<|ac 354984<|bL _ _)<|az 71161314592424 aw<|ay<|ac 354984 m)<|if_pos (show b-1<b by exact ac 51420126<|ay<|ai 132216 d)<|>?_;by_cases s:f=pos
    ·exact if_pos s<|>if_pos s<|>rfl
    ·refine if_neg s<|>if_neg s<|>?_;by_cases o:pos<f/\f<=b-1
     ·exact if_pos o<|>if_pos o<|>if_pos (~~~az 0x4e14ee5c6fb2254 o.2 (ay<|ai 132216 d) (ay<|ac 524329 o.1))<|>rfl
     ·exact if_neg o<|>if_neg o<|>rfl
end
section
variable {cT:ln}{dy:gC}{A:cn}{E:af->al->Prop}{s:al}
def uV (f:aT)(e:List af)(d:List (Int×Int)):Prop:=e.length=d.length/\∀(i:Nat) (v:af) (b:Int×Int),e[i]?=J v->d[i]?=J b->∃a c h u g,v=.ref a/\f.get? a=J c/\c.cls=.type "tuple"/\c.data=.seq #[.int b.1 h,.int b.2 u] g
theorem Ni {b:aT}:∀{en:List af} {fR:List (Int×Int)},uV b en fR->∃d,KatTups b en d/\d.length=en.length/\∀f∈d,∃c e,f=.int c e
 |[],[],_=>⟨[],trivial,rfl,λx q=>nomatch q⟩|[],_::_,b=>nomatch b.1|_::_,[],b=>nomatch b.1|v::en,c::fR,b=>by refine eP (Ni (en:=en) (fR:=fR) ⟨by simpa using b.1,λi v c h j=>b.2 (i+1) v c h j⟩) λd m n o=>DF (b.2 0 v c rfl rfl) λa t e u s k l p r=>?_;subst k;exact⟨.int c.1 e::d,KatTups.cons l p r rfl m,by simp-iota [n],λf q=>(dE.mp q).elim (λg=>⟨c.1,e,g⟩)<|o f⟩
theorem aar {a:SortKind->al->Prop}(d:uV s.heap e r')(i:0<e.length)(q:a (FL ag) s):aS (fh cT dy) A (keyKind' e.toArray) a E s:=by exact eP (Ni d) λj f g h=>kat_kind (T:=.type "int") f (~~~ac 1288403565 i g) (λv b=>by refine fZ (h v b) λk l c=>?_;clear b;subst c;exact Looks.of_pure rfl) (~~~_) q
theorem aaq {i j:Nat}{C:Bool->al->Prop}(g:uV s.heap e r')(b:i<e.length)(z:j<e.length)(E:(r'.getD i (0,0)).1≠(r'.getD j (0,0)).1)(q:C (dk ((r'.getD i (0,0)).1<(r'.getD j (0,0)).1)) s):Gc cT dy A (FL ag) e i j C s:=by
 delta Gc;have key:∀i,i<e.length->∃a c f u d,e.getD i .none=.ref a/\s.heap.get? a=J c/\c.data=.seq #[.int (r'.getD i (0,0)).1 f,.int (r'.getD i (0,0)).2 u] d:=λi b=>by have h:i<r'.length:=aY (g.1 ..)<|b;exact DF (g.2 i e[i] r'[i] (du b)<|du h) λa c f u d m p M y=>⟨a,c,f,u,d,by exact ig<|>du b<|>m,p,by exact ig<|>du h<|>y⟩
 refine MN (key i b) λa c f u d n r k=>MN (key j z) λF o2 H K G o t l=>n<|>o<|>kat_lt r k t l (kat_cons<|wpAny_eqBool_int ?_);have x:((r'.getD i (0,0)).1==(r'.getD j (0,0)).1)=ap:=by simpa using E
 exact x<|>kat_no (oneLt_int q)
theorem aee {a:bm}{fR:List (Int×Int)}{r:qk->al->Prop}{q:Array Nat}(m:s.heap.get? a=J (f3 "list" e.toArray W))(l:e.length<64)(d8:∀K,(∀h F,h≠a->s.heap.get? h=J F->K.get? h=J F)->uV K e fR)(R:q.size=e.length)(T:2<=e.length->hr (λi j=>dk ((fR.getD i (0,0)).1<(fR.getD j (0,0)).1)) (λi j=>i<e.length/\j<e.length/\(fR.getD i (0,0)).1≠(fR.getD j (0,0)).1) (r2 e.length) q)(S:e.length<2->q=h5 e.length)(g:r (.done (.ret .none)) {s with heap:=sortedHeap s.heap a e (nM<|q.toList.map λi=>e.getD i j5)}):aS (fh cT dy) A (Builtin.«list.sort» ⟨[.ref a],[]⟩) r E s:=by
 refine list_sort_plain<|>?_;have N:a<s.heap.objs.size:=nQ m;refine aB (listItems_at m rfl ?_);refine aB (FJ m rfl ?_ (by exact f2<|>lZ<|>ai 0x426312736330da15 l)<|dB _);refine aW (show∃t,(s.heap.update a<|jf λb=>#[]).get? a=J (f3 "list" #[] t)from⟨_,get?_update_seq m<|λb=>#[]⟩) λt P=>aB (FK P rfl ?_);refine aB (Rj ?_ (by show e.length<=_;exact lZ<|>ai 0x426312736330da15 l));refine aB (GK ?_<|dB _);refine mW ?_;have n:(((s.heap.update a<|jf λb=>#[]).push<|f3 "tuple" e.toArray 0).push<|f3 "list" #[] 0).get? a=J (f3 "list" #[] t):=A7 _ _ _ (by rw[size_push',FW];exact nO<|w1 N)<|>A7 _ _ _ (by rw[FW];exact nO N)<|>P;have Z:=d8 (((s.heap.update a<|jf λb=>#[]).push<|f3 "tuple" e.toArray 0).push<|f3 "list" #[] 0) λh F c' b9=>oV _ (oV _<|by exact Qw _ _ _ _ c'<|>b9);show aS (fh cT dy) A _ r E {s with heap:=((s.heap.update a<|jf λb=>#[]).push<|f3 "tuple" e.toArray 0).push (f3 "list" #[] 0)};dsimp only;have o:e.toArray.size=e.length:=by simp
 have z:(nM<|q.toList.map λi=>e.getD i j5).size=e.length:=f2<|>ax<|>t4<|>R<|>rfl;have x:∀d:SortSt,arrOf d=q.map (kas_item<|e.toArray.zip e.toArray)->(arrOf d).map (·.2)=nM (q.toList.map λi=>e.getD i j5):=λd g=>kat_snds rfl g;by_cases c:e.toArray.size<2
 ·refine if_pos c<|>if_pos c<|>aB (ck ?_);refine StateT.run_pure<|>aB (ck ?_);dsimp only;have k:=kas_range (e.toArray.zip e.toArray);rw[show(e.toArray.zip e.toArray).size=e.length by simp]at k;refine x (SortSt.mk' general' (e.toArray.zip e.toArray) #[] 7 D) (by rw[S (o▸c)];exact k.symm)<|>aB (FK n rfl ?_);refine aB (FJ n rfl ?_ (dB _)<|ba (fv z)<|by exact lZ<|>ac 0x453842f462bcb9c4d8b o c);simp only[bne_self_eq_false,wG,if_false];exact ck g
 ·refine if_neg c<|>if_neg c<|>?_;have M:2<=e.length:=by rw[o]at c;exact ai 155932 (eT c)
  refine aB (aar Z (~~~ac 1288566890 o (eT c)) ?_);have run:(r2 e.length).kasWp (Gc cT dy A (FL ag) e) (λp f=>p=q/\f={s with heap:=((s.heap.update a<|jf λb=>#[]).push<|f3 "tuple" e.toArray 0).push (f3 "list" #[] 0)}) {s with heap:=((s.heap.update a<|jf λb=>#[]).push<|f3 "tuple" e.toArray 0).push (f3 "list" #[] 0)}:=by refine hr.afI (λi j C y b'=>?_) (T M) ⟨rfl,rfl⟩;exact aaq (s:={s with heap:=((s.heap.update a<|jf λb=>#[]).push<|f3 "tuple" e.toArray 0).push (f3 "list" #[] 0)}) Z y.1 y.2.1 y.2.2 b'
  refine aB (qt (kat_run (s:={s with heap:=((s.heap.update a<|jf λb=>#[]).push<|f3 "tuple" e.toArray 0).push (f3 "list" #[] 0)}) (Q:=λd f=>f={s with heap:=((s.heap.update a<|jf λb=>#[]).push<|f3 "tuple" e.toArray 0).push (f3 "list" #[] 0)}/\arrOf d=q.map (kas_item<|e.toArray.zip e.toArray)/\failedOf d=D) (G:=λp f=>p=q/\f={s with heap:=((s.heap.update a<|jf λb=>#[]).push<|f3 "tuple" e.toArray 0).push (f3 "list" #[] 0)}) rfl M l (λp d f d9 a8 a9 H=>by refine bW H λa' b8=>?_;clear R T S g z x run;subst a';clear H;subst b8;exact⟨rfl,a8,a9⟩) run) ?_ λb b k=>k);rintro⟨⟨⟩,d⟩ f ⟨rfl,c8,c9⟩;dsimp-iota only;refine x d c8<|>aB (FK n rfl ?_);refine aB (FJ n rfl ?_ (dB _)<|ba (fv z)<|by exact lZ<|>ai 0x12fe3ad4af54a9aca15 l);refine c9<|>?_;simp-iota only[bne_self_eq_false,wG,if_false];exact ck g
end
abbrev nG (a:Int×Int):O:=.ce [.I a.1,.I a.2]
theorem SN:∀{c:List (Int×Int)},vr g=J c->g=c.map nG:=by
 induction g with
 |nil=>exactλb=>dr b▸rfl|cons x g n=>intro c b;exact vl b λa o k l m=>aU (lm.mp k) λq d b=>aU (lm.mp b) λi e b=>aU (fw.mp b) λj f h=>V (m ..)<|V (f1 ..)<|aY (n l ..)<|V (Oi d ..)<|V (vR e ..)<|V (vR f ..)<|aY (h ..)<|rfl
theorem XU {n:Type}{l:List n}{k:n}{d pos:Nat}{q:Array Nat}(g:l.length=d)(j:1<=d)(h:pos<=d-1)(p:∀b,q[b]?=if b=pos then J (d-1)else if pos<b/\b<=d-1 then J (b-1)else if b<d then J b else D):(q.toList.map λi=>l.getD i k)=(l.take<|d-1).take pos++l.getD (d-1) k::(l.take<|d-1).drop pos:=by
 apply Fe;intro b;have o:((l.take<|d-1).take pos).length=pos:=e1<|>e1<|>bo (ac 354984<|fG _ _) (ac 44523<|gZ<|aj 2082943772 h<|gZ<|aj 34170888937 g<|ay<|ai 132202 j);refine cv<|>Array.getElem?_toList<|>p<|>Fj<|>o<|>?_;by_cases e:b=pos
 ·refine if_pos e<|>if_neg (by exactλa=>ac 0x8f78bbe3fc1749fa11677 e a)<|>e<|>iD<|>?_;rfl
 ·refine if_neg e<|>?_;by_cases c:b<pos
  ·have m:b<d:=ef c (ba h<|bL _ _);refine if_neg (λr=>Nat.lt_asymm c r.1)<|>if_pos m<|>if_pos c<|>ug<|>if_pos c<|>ug<|>if_pos (ef c h)<|>du (g.symm▸m)<|>?_;simp-iota [show b<l.length by exact bP 6407521621855413 g h c (bL _ _)]
  ·refine V (if_neg c ..)<|V (show b-pos=(b-pos-1)+1 by exact bo (ac 42823471152 aw)<|(fo e).elim (λa=>az 0x1ef1cf78d31ed9ba55858fa1164d (eT c) a<|bL _ _) λa=>ac 10545038814<|ay<|aj 444658166135 a aw)<|V (List.getElem?_cons_succ ..)<|V (nI ..)<|V (ug ..)<|V (show pos+(b-pos-1)=b-1 by exact bo ((fo e).elim (λa=>bP 0x1e5ae09fe0ac6f1943b1233e039e400fa1164d (eT c) a (bL _ _) aw<|ay<|ac 0x829462b23fc1749fa11711 (eT c) a) λa=>bP 0x41b3cf0cb2cc2a21802 aw (ay<|aj 444658166135 a aw)<|ay<|ac 354985 a)<|(fo e).elim (λa=>az 0x1a1775efee0f39bb3b4e0fa1164d (eT c) a<|bL _ _) λa=>bP 0x45bd1b5e8a1b23a178a aw aw<|ay<|ac 524329 a)<|?_;by_cases f:b<=d-1
   ·refine if_pos ⟨by exact(fo e).elim (λa=>ac 0x83524ef23fc1749fa11711 (eT c) a) λa=>ac 357001 a,f⟩<|>if_pos (by exact(fo e).elim (λa=>az 0x98750592e32bc6e4928006a70a1c h (eT c) a<|bL _ _) λa=>aj 207226100718 f<|ay<|ac 524329 a)<|>du (show b-1<l.length by exact bP 0x140417d4739ea1e1 g f (bL _ _)<|ay<|ai 132202 j)<|>?_;simp-iota [show b-1<l.length by exact bP 0x140417d4739ea1e1 g f (bL _ _) (ay<|ai 132202 j)]
   ·refine if_neg (by exactλa=>ac 0x8e909b23fb5659fa1165b (iC f) a.2)<|>if_neg (by exactλa=>aj 0x88d121aa440bb079dd20e6141bfa1165b (iC f) a aw)<|>if_neg (by exactλa=>aj 0x88f2168a86f9ce0eb59ce6141bfa1165b (iC f) a aw)<|>?_;rfl
section
variable {α:Type}{f:α->Bool}{l:List α}
theorem ae7:l.takeWhile f=l.take (l.takeWhile f).length/\l.dropWhile f=l.drop (l.takeWhile f).length:=by
 induction l with
 |nil=>exact⟨rfl,rfl⟩|cons a l c=>
  by_cases b:f a=ag
  ·exact AS b<|>Pb b<|>⟨congrArg _ c.1,c.2⟩
  ·exact AR b<|>Pa b<|>⟨rfl,rfl⟩
theorem ae6:∀{i:Nat} {a:α},i<(l.takeWhile f).length->l[i]?=J a->f a=ag:=by
 induction l with
 |nil=>exactλb=>absurd b (oS _)|cons e l g=>
  intro i a b d;by_cases c:f e=ag
  ·rw[AS c]at b;induction i using ey with
   |zero=>exact dr d▸c|succ i=>exact g (w0 b) d
  ·rw[AR c]at b;exact absurd b (oS _)
theorem ae5:∀{a:α},l[(l.takeWhile f).length]?=J a->f a=ap:=by
 induction l with
 |nil=>exactλb=>nomatch b|cons d l e=>
  intro a b;by_cases c:f d=ag
  ·rw[AS c]at b;exact e b
  ·rw[AR c]at b;exact dr b▸Bool.not_eq_true _▸c
end
section
variable {Z:bj}{A:cn}{p:bi}{s:al}{m:w}
theorem aas (b:dc Z p o e (r'.map nG)):uV o e r':=by refine⟨by exact b.eE<|>ax<|>rfl,λi v q d f=>?_⟩;refine aU (b.ju (x:=nG q) (by refine cv<|>f<|>?_;rfl)) λG g t=>?_;cases dr (d.symm.trans g);exact tt (wC t) λa s H r h F l m n F A=>em A.hf λv u c y z=>wB y λC j=>wB z λE k=>⟨a,s,C,E,r,h,l,m,by exact n<|>c<|>j<|>k<|>rfl⟩
theorem Z4 {b:List (Int×Int)}(n:dc Z p o e (b.map nG))(a':Df b):∃q:Array Nat,q.size=e.length/\(2<=e.length->hr (λi j=>dk ((b.getD i (0,0)).1<(b.getD j (0,0)).1)) (λi j=>i<e.length/\j<e.length/\(b.getD i (0,0)).1≠(b.getD j (0,0)).1) (r2 e.length) q)/\(e.length<2->q=h5 e.length)/\dc Z p o (q.toList.map λi=>e.getD i j5) ((pJ b).map nG):=by
 have C:e.length=b.length:=n.eE<|>ax<|>rfl;refine gR a' λc8 M W=>?_;by_cases c:b.length<2
 ·refine⟨h5 e.length,by simp-iota [h5],λh=>absurd (C▸h)<|w2.mpr c,λb8=>rfl,?_⟩;clear a' c8 M W C;induction b using cj with
  |nil=>exact n.rl▸.L|cons d s=>
   induction s using cj with
   |nil=>exact aU n.ff λv b9 b8=>by subst b9;exact n
   |cons _ _=>exact absurd c (kO.mpr<|mP 2 _)
 ·have K:2<=b.length:=ai 155932 (eT c);obtain⟨d,H⟩:∃d,b.getLast?=J d:=by
   cases q:b.getLast? with
   |none=>rw[Pq]at q;rw[q]at K;exact absurd K (~~~_)|some d=>exact⟨d,rfl⟩
  have T:b[b.length-1]?=J d:=aY (Fm ..)<|H;have R:b.dropLast=b.take (b.length-1):=ue;have F:∀i,i<b.length-1->b.dropLast[i]?=b[i]?:=λi k=>by exact R<|>ug<|>if_pos k<|>rfl
  have z:∀i x,b[i]?=J x->b.getD i (0,0)=x:=λi x q=>by refine V (ig ..)<|V (q ..)<|?_;rfl
  have r:b.dropLast.length=b.length-1:=qa;refine aW (show∃pos,pos=(b.dropLast.takeWhile<|λx=>dk (x.1<d.1)).length from⟨_,rfl⟩) λpos E=>?_;have a9:pos<=b.length-1:=by have:(b.dropLast.takeWhile<|λx=>dk (x.1<d.1)).length<=b.dropLast.length:=(List.takeWhile_prefix _).length_le;exact az 4793680790390 r E this
  have d8:∀i j,j<i->i<b.length-1->(b.getD j (0,0)).1<(b.getD i (0,0)).1:=λi j m g=>by have k:i<b.dropLast.length:=aj 207623783 r g;have S:j<b.dropLast.length:=az 766259983359 r m g;have:=wU.mp M j i S k m;exact V (z i b.dropLast[i] (by rw[<-F i g];exact du k) ..)<|V (z j b.dropLast[j] (by rw[<-F j (~~~aj 2088934485 m g)];exact du S) ..)<|this
  have c9:b.getD (b.length-1) (0,0)=d:=z _ _ T;obtain⟨q,m,g,b'⟩:=aed (i0:=λi j=>dk ((b.getD i (0,0)).1<(b.getD j (0,0)).1)) (P:=λi j=>i<b.length/\j<b.length/\(b.getD i (0,0)).1≠(b.getD j (0,0)).1) K a9 (λi j m g=>by have:=d8 i j m g;exact⟨decide_eq_false λQ=>Aw _ (mI this Q),⟨by exact aj 2088932119 g<|bL _ _,by exact az 0xb38f6a76b4d m g<|bL _ _,oH this⟩,decide_eq_true this,⟨by exact az 0xb38f6a76b4d m g<|bL _ _,by exact aj 2088932119 g<|bL _ _,t7 this⟩⟩) (λi k=>by
   have A:i<b.dropLast.length:=aj 207623783 r k;have t:=F i k;rw[du A]at t;have y:=z i _ t.symm;have N:=W d H b.dropLast[i] (wQ A);refine c9<|>y<|>⟨?_,by exact ac 51420126<|ay<|ai 132216<|eT c,by exact aj 2088932119 k<|bL _ _,λq=>N q.symm⟩;by_cases h:pos<=i
   ·refine decide_eq_true h<|>decide_eq_true ?_;have a8:pos<b.dropLast.length:=az 0xf61906aaff r k h;have f:=ae5 (f:=λx:Int×Int=>dk (x.1<d.1)) (l:=b.dropLast) (a:=b.dropLast[pos]) (by exact aY (E ..)<|du a8);have f:=of_decide_eq_false f;rcases rN pos i with c3|c3
    ·have:=wU.mp M pos i a8 A c3;exact iU (gk.mp f) this
    ·have:pos=i:=bo (ac 354984 h) (ac 354984 c3);clear k y h c3;subst this;exact ON.mpr ⟨gk.mp f,by first|exact N|exact N.symm⟩
   ·refine decide_eq_false h<|>decide_eq_false ?_;have f:=of_decide_eq_true (ae6 (f:=λx:Int×Int=>dk (x.1<d.1)) (l:=b.dropLast) (i:=i) (~~~aj 1226021162 E (iC h))<|du A);exactλQ=>Aw _<|mI f Q)
  refine C<|>⟨q,g,λb8=>m,λh=>by exact wI<|ai 0x692dd60ce761687a1164d (eT c) h,?_⟩;refine XU C (~~~ai 132216 (eT c)) a9 b'<|>?_;have G:(pJ b).map nG=((b.map nG).take<|b.length-1).take pos++nG d::((b.map nG).take<|b.length-1).drop pos:=by
   have G:pJ b=b.dropLast.takeWhile (λx=>dk (x.1<d.1))++d::b.dropLast.dropWhile (λx=>dk (x.1<d.1)):=by delta pJ;exact H<|>rfl
   refine G<|>?_;have s:=ae7 (f:=λx:Int×Int=>dk (x.1<d.1)) (l:=b.dropLast);rw[<-E]at s;exact s.1<|>s.2<|>R<|>cD<|>f1<|>j0<|>j0<|>mM<|>j0<|>rfl
  refine G<|>aU (n.ju (j:=b.length-1) (x:=nG d) (by refine cv<|>T<|>?_;rfl)) λv t c'=>?_;have y:e.getD (b.length-1) j5=v:=by refine ig<|>t<|>?_;rfl
  exact y<|>((n.pY _).pY _).eA (.Y c'<|(n.pY _).Ky _)
theorem ad7:jp Z:=by
 intro A p s m b' a d8 fR v c9 k l a' F y x H;refine kL rfl a' (hA (k.U _ _ F) λb9 b9 vs n Q c' d=>?_);rw[SN y]at d;have f:vs.length=fR.length:=d.eE<|>ax<|>rfl;have j:=aas d;have e:=x.1;refine MG (Z4 d x) λq W T S R=>?_;have P:vs.length<64:=ac 0x44cc81b0237ca f e;refine Qn kind_sorted plain_sorted entry_sorted (args_sorted1 _) ?_;delta Builtin.«sorted»;refine aB (m:=checkCount "sorted" 1 1 _) (ck ?_);refine aB (collect_list (vs:=vs) ⟨_,Q,rfl,n,rfl⟩ ?_<|by exact lZ<|>ac 0x2e46fc20e8422f237ca f e);refine aB (GK ?_<|by exact lZ<|>ac 0x2e46fc20e8422f237ca f e);have h:((s.heap.push<|f3 "list" #[] 0).update s.heap.objs.size (jf (·++vs.toArray))).objs.size=s.heap.objs.size+1:=FW<|>size_push'<|>rfl;have t:(((s.heap.push<|f3 "list" #[] 0).update s.heap.objs.size (jf (·++vs.toArray))).push<|f3 "list" vs.toArray 0).get? (s.heap.objs.size+1)=J (f3 "list" vs.toArray 0):=aY (h ..)<|ii _ rfl;have keep:∀b c,s.heap.get? b=J c->(((s.heap.push<|f3 "list" #[] 0).update s.heap.objs.size (jf (·++vs.toArray))).push<|f3 "list" vs.toArray 0).get? b=J c:=λb c q=>by have g:b<s.heap.objs.size:=nQ q;exact A7 _ _ _ (by rw[h];exact nO<|w1 g)<|>Qw _ _ _ _ (nO g)<|>A7 _ _ _ (nO g)<|>q
 show aS _ _ _ _ _ {s with heap:=((s.heap.push<|f3 "list" #[] 0).update s.heap.objs.size (jf (·++vs.toArray))).push (f3 "list" vs.toArray 0)};refine h<|>aB (mW<|qs slot_list_sort ⟨_,t,rfl⟩ entry_list_sort (aee (fR:=fR) (q:=q) t P (λc8 a8=>?_) W T S ⟨_,rfl,ck ⟨_,rfl,?_⟩⟩)<|args_list_sort _)
 ·refine⟨j.1,λi v a9 o z=>?_⟩;refine DF (j.2 i v a9 o z) λb c b8 u n C r M N=>?_;clear o;subst C;exact⟨b,c,b8,u,n,rfl,a8 b c (nO<|w1<|nQ r)<|keep _ _ r,M,N⟩
 ·exact aW (Qa s.heap vs<|nM<|q.toList.map λi=>vs.getD i j5) λE G=>DT (cx:=s.toks) (en:=q.toList.map λi=>vs.getD i j5) k l (λb c K=>Qb K) (P7 _ 1) (n:=E) G R H
end
noncomputable def kC:List Nat:=[65,72,79,87,94,101,108,115,122,129,136,143,150,157,199,342,347,354,361,368,375,382,415,422,429,436,443,448,455,460,467,474,481,488,495,502,509,517,524,531,634,641,648,653,660,667,674,681,751,758,765,772,779,786,793,863,870,875,880,887,894,899,178,185,220,227,234,241,248,255,262,269,276,283,290,297,302,309,316,321,328,401,545,552,559,566,573,580,587,594,601,608,615,622,702,709,716,723,730,737,814,821,828,835,842,849]
noncomputable def Ua:List Nat:=[188,625,404,740,852]
noncomputable def iK (i:Nat):bm:=kC[i]?.getD 0
noncomputable def d4 (i:Nat):bm:=Ua[i]?.getD 0
noncomputable def Ym:List Nat:=[0,1,3,80,510,187,188,330,331,403,404,624,625,739,740,851,852,171,170,213,212,396,395,695,694,807,806]++kC.flatMap λa=>[a,a-1]
noncomputable def hs (b:aT):jI:=Ym.filterMap λa=>(b.get? a).map (a,·)
theorem WV {a:bm}(b:(M.filterMap λa=>(o.get? a).map (a,·)).lookup a=J Z9):o.get? a=J Z9:=by
 induction M with
 |nil=>exact nomatch b|cons d M e=>
  cases q:o.get? d with
  |none=>rw[Ph (by exact V (q ..)<|rfl)]at b;exact e b|some x=>
   rw[Fg (by exact V (q ..)<|rfl),jD]at b;cases c:a==d with
   |true=>rw[c]at b;exact V (eq_of_beq c ..)<|q.trans b|false=>rw[c]at b;exact e b
theorem Yz (a:aT):(hs a).In a:=λc c b=>WV b
noncomputable def ym (a:Data):Option iE:=if q:a.ctorIdx=7 then Data.func.elim (motive:=λb=>Option iE) a q J else D
theorem SK {a:Data}(b:ym a=J x):a=.func x:=if q:a.ctorIdx=7 then Data.func.elim (motive:=λa=>ym a=J x->a=.func x) a q (λc b=>congrArg Data.func<|dr b) b else nomatch(dif_neg q:ym a=D).symm.trans b
noncomputable def vt (a:Data):Option (Array af):=if q:a.ctorIdx=2 then Data.seq.elim (motive:=λc=>Option<|Array af) a q λb c=>J b else D
theorem HI {a:Data}(c:vt a=J o'):∃b,a=.seq o' b:=if q:a.ctorIdx=2 then Data.seq.elim (motive:=λa=>vt a=J o'->∃b,a=.seq o' b) a q (λd b c=>⟨b,congrArg (Data.seq · b)<|dr c⟩) c else nomatch(dif_neg q:vt a=D).symm.trans c
noncomputable def sT (a:af):Option bm:=if q:a.ctorIdx=10 then Value.ref.elim (motive:=λb=>Option bm) a q J else D
theorem B1 (a:sT j=J r):j=.ref r:=if q:j.ctorIdx=10 then Value.ref.elim (motive:=λj=>sT j=J r->j=.ref r) j q (λb a=>congrArg FZ<|dr a) a else nomatch(dif_neg q:sT j=D).symm.trans a
noncomputable def vq (a:af):Option Int:=if q:a.ctorIdx=4 then Value.int.elim (motive:=λb=>Option Int) a q λi b=>J i else D
theorem HG (b:vq j=J c'):∃a,j=.int c' a:=if q:j.ctorIdx=4 then Value.int.elim (motive:=λj=>vq j=J c'->∃a,j=.int c' a) j q (λc a b=>⟨a,congrArg (Value.int · a)<|dr b⟩) b else nomatch(dif_neg q:vq j=D).symm.trans b
noncomputable def vu (b:O):Option Int:=O.casesOn (motive_1:=λa=>Option Int) b D (λa=>D) J (λa=>D) (λa=>D) (λa a=>D) (λa=>D) (λa=>D) (λa=>D) λa=>D
theorem HK {c:O}:vu c=J q->c=.I q:=O.casesOn (motive_1:=λc=>vu c=J q->c=.I q) c (λa=>nomatch a) (λb a=>nomatch a) (λb a=>congrArg O.I<|dr a) (λb a=>nomatch a) (λb a=>nomatch a) (λb b a=>nomatch a) (λb a=>nomatch a) (λb a=>nomatch a) (λb a=>nomatch a) λb a=>nomatch a
noncomputable def B3 (b:O):Option (List O):=O.casesOn (motive_1:=λa=>Option<|List O) b D (λa=>D) (λa=>D) (λa=>D) J (λa a=>D) (λa=>D) (λa=>D) (λa=>D) λa=>D
theorem SU {c:O}:B3 c=J g->c=.ce g:=O.casesOn (motive_1:=λc=>B3 c=J g->c=.ce g) c (λa=>nomatch a) (λb a=>nomatch a) (λb a=>nomatch a) (λb a=>nomatch a) (λb a=>congrArg O.ce<|dr a) (λb b a=>nomatch a) (λb a=>nomatch a) (λb a=>nomatch a) (λb a=>nomatch a) λb a=>nomatch a
theorem sN {d:Type}{a:Option d}{c:d->Bool}(b:a.any c=ag)(e:∀x,a=J x->c x=ag->F):F:=by
 induction a with
 |none=>exact nomatch b|some x=>exact e x rfl b
noncomputable def Ev:FuncBody->List dC
 |.stmts a=>a|_=>[]
noncomputable def Ya:FuncBody->Bool
 |.stmts _=>ag|_=>ap
noncomputable def CP (b:jI)(a:bm):Option iE:=(b.lookup a).bind λc=>ym c.data
noncomputable def vB (a:jI)(v:af):Option (Option O):=cond (v==j5) (J D) ((sT v).bind λb=>(a.lookup b).bind λc=>(vt c.data).bind λd=>eD (d.toList==[j5])<|J<|J .bE)
noncomputable def nw (a:iE):List aq:=a.params.args.map (·.arg)
noncomputable def zJ (b:jI)(a:iE):Bool:=Ya a.body&&!a.scope.isCoroutine&&!a.scope.isGenerator&&a.scope.kind==.function&&codeIn b a.code a.qualname&&a.closure.isEmpty&&uo a.globals kQ&&uo a.builtins oZ&&a.params.posonlyargs.isEmpty&&a.params.kwonlyargs.isEmpty&&a.params.vararg.isNone&&a.params.kwarg.isNone&&dk (nw a).Nodup&&(oD a.scope).take (nw a).length==nw a&&a.scope.names.all (λy=>y.2 !=.free)&&(nw a).all λx=>a.scope.names.lookup x==J .local||a.scope.names.lookup x==J .cell
noncomputable def nl (c:jI)(a:bm):Option bq:=(CP c a).bind λb=>eD (zJ c b) ((vB c b.defaults).bind λe=>(wv cd (i7 b.scope) 100<|Ev b.body).bind λd=>J ⟨(nw b).length,(i7 b.scope).gq+1,e,d⟩)
noncomputable def re (b:jI)(e:Nat):Option jM:=(j7 b (.ref<|d4 e) "__init__").bind λv=>v.bind λv=>(sT v).bind λc=>(CP b c).bind λa=>eD (zJ b a&&xd b (.ref c)==J (.type "function")&&a.defaults==j5) ((nw a).head?.bind λd=>(nE cd (i7 a.scope) 100<|Ev a.body).bind λl=>eD (a.scope.names.lookup d==J .local&&!(d==("__debug__":aq)))<|J ⟨(nw a).tail.length,(i7 a.scope).gq+1,l⟩)
noncomputable def LA (a:List af)(b:List O):Bool:=uo a.length b.length&&(a.zip b).all λx=>(vu x.2).any λj=>vq x.1==J j
noncomputable def Ex (d:jI)(v:af)(x:O):Bool:=(vu x).elim ((B3 x).any λe=>((sT v).bind λa=>d.lookup a).any λb=>b.cls==.type "tuple"&&(vt b.data).any λc=>LA c.toList e&&Fz c.size 100) λj=>vq v==J j
noncomputable def ra (a:jI):Bool:=(cd.q3.all λx=>((r3 a kQ x.1).bind id).any λval=>Ex a val x.2)&&(s1.all λx=>r3 a kQ x.1==J D&&r3 a oZ x.1==J (J x.2))&&(cd.fX.all λx=>r3 a kQ x.1==J (J<|.ref<|iK x.2))&&(cd.lB.all λx=>r3 a kQ x.1==J (J<|.ref<|d4 x.2))&&(a.lookup qq).isSome
noncomputable def mh (b:jI)(c:Nat):Bool:=j7 b (.ref<|d4 c) "__getattribute__"==J (J<|.builtin "object.__getattribute__")&&j7 b (.ref<|d4 c) "__getattr__"==J D&&(clsIn b<|d4 c).any (·.hasDict)&&(hH c).all (λa=>j7 b (.ref<|d4 c) (ep a)==J D)&&Gk b (.ref<|d4 c) "__call__"==J (J<|.builtin "type.__call__")&&Gg b (d4 c)&&j7 b (.ref<|d4 c) "__setattr__"==J (J<|.builtin "object.__setattr__")&&plainOver b (d4 c)
noncomputable def tm (b:jI):Bool:=zg.all λx=>j7 b (.ref<|d4 x.1.1) (rk x.1.2)==J (J<|.ref<|iK x.2)&&xd b (.ref<|iK x.2)==J (.type "function")&&(hH x.1.1).all λa=>!(ep a==rk x.1.2)
noncomputable def wa (a:aT):List (Option bq)×List (Option jM)×Bool:=(kC.map<|nl<|hs a,(ih 5).map (re<|hs a),ra (hs a)&&(ih 5).all (mh<|hs a)&&tm (hs a))
noncomputable def wb:List (Option bq)×List (Option jM)×Bool:=(fX.map J,gu.map J,ag)
def sI (b:aT):Prop:=∃a:jI,a.In b/\kC.map (nl a)=fX.map J/\(ih 5).map (re a)=gu.map J/\ra a=ag/\(∀c,c<5->mh a c=ag)/\tm a=ag
theorem acQ (b:wa o=wb):sI o:=by have d:=congrArg Prod.fst b;have e:=congrArg (λx=>x.2.1) b;have a:(ra (hs o)&&(ih 5).all (mh<|hs o)&&tm (hs o))=ag:=congrArg (λx=>x.2.2) b;rw[ek,ek]at a;exact⟨hs o,Yz o,d,e,a.1.1,λc f=>f0.mp a.1.2 c<|ui.mpr f,a.2⟩
theorem sI.Ys (x:sI o)(e:∀b c,o.get? b=J c->d8.get? b=J c):sI d8:=aU x λd a f=>⟨d,a.keeps e,f⟩
section
variable {Z:bj}
theorem KU {c:jI}{a:bm}(f:CP c a=J x)(g:∀b,c.lookup a=J b->b.data=.func x->F):F:=aU (lm.mp f) λb e d=>g b e (SK d)
theorem UY {lr:Z.dF.In Z.d1}{v:af}:di (vB Z.dF v) λd=>(d=D/\v=.none)\/(d=J .bE/\∃a c b,v=.ref a/\Z.d1.get? a=J c/\c.data=.seq #[.none] b):=ow (λe=>gy<|.inl ⟨rfl,beq_iff_eq.mp e⟩) λl=>cB λa f=>cB λc g=>cB λk h=>fp λi=>gy (.inr ⟨rfl,aW (HI h) λb j=>⟨a,c,b,B1 f,lr _ _ g,j.trans (congrArg (Data.seq · b)<|Array.toList_inj.mp<|beq_iff_eq.mp i)⟩⟩)
set_option tactic.hygienic true in
theorem Nd {a:bm}{d:gr}{b:iE}{F:bq}(lr:Z.dF.In Z.d1)(i:Z.dF.lookup a=J d)(g:d.data=.func b)(e:zJ Z.dF b=ag)(f:(nw b).length=F.gQ)(h:vB Z.dF b.defaults=J F.s5):qA Z a F d b (Ev b.body) (nw b):=by
 simp-iota only[zJ,ek]at e;refine bW e λG p=>?_;obtain⟨⟨⟨⟨⟨⟨⟨⟨⟨⟨⟨⟨⟨⟨c,r⟩,s⟩,t⟩,y⟩,z⟩,A⟩,C⟩,E⟩,j⟩,k⟩,l⟩,m⟩,n⟩,o⟩:=G;refine⟨lr _ _ i,g,?_,by simpa using r,by simpa using s,beq_iff_eq.mp t,codeRec_of lr y,jZ.mp z,AV A,AV C,⟨jZ.mp E,rfl,jZ.mp j,FH.mp k,FH.mp l,of_decide_eq_true m⟩,f,by refine aY (f ..)<|?_;exact beq_iff_eq.mp n,λx q=>?_,λx q=>?_,UY (lr:=lr) _ h⟩
 ·revert c;cases b.body<;>intro c<;>first|rfl|cases c
 ·have:=f0.mp o _ (h7 q);simp at this
 ·have:=f0.mp p x q;rw[wH]at this;exact this.imp beq_iff_eq.mp beq_iff_eq.mp
theorem K1 {a:bm}{b:bq}(f:Z.dF.In Z.d1)(h:nl Z.dF a=J b):∃d c body names e,qA Z a b d c body names/\wv cd (i7 c.scope) e body=J b.qX:=(cB λc l=>fp λm=>cB λo j=>cB λn i=>gy (KU l λd g k=>⟨d,c,_,_,100,Nd f g k m rfl j,i⟩):di (nl Z.dF a) λb=>∃d c body names e,qA Z a b d c body names/\wv cd (i7 c.scope) e body=J b.qX) b h
theorem S3 {a:jM}(b:gu[W]?=J a):hH W=a.kZ.map (·.2.1):=by delta hH;refine b<|>?_;rfl
theorem Up:gu.all (λa=>Fz a.kZ.length 999&&a.kZ.head?.any λx=>x.1.isNone)=ag:=by decide+kernel
theorem XN {b:jM}(t:Z.d4=d4)(n:Z.dF.In Z.d1)(Q:sj Z W)(f:gu[W]?=J b)(s:re Z.dF W=J b):∃c d a body e names h,xw Z W b c d a body e names h:=by
 refine(cB λa9 E=>cB λv G=>cB λc H=>cB λa K=>fp λg=>cB λe N=>cB λl M=>fp λi=>gy λf=>?_:di (re Z.dF W) λb=>gu[W]?=J b->∃c d a body e names h,xw Z W b c d a body e names h) b s f;have j:=f0.mp Up _ (dT f);rw[ek]at j i;rw[ek,ek]at g;have C:j7 Z.dF (.ref<|d4 W) "__init__"=J (J<|.ref c):=E.trans (congrArg J<|G.trans<|congrArg J<|B1 H);refine KU K λd r A=>aW (Pr.mp N) λnames k=>?_;have z:vB Z.dF a.defaults=J D:=by unfold vB;exact V g.2<|rfl
 have m:=Nd (F:=⟨(nw a).tail.length+1,(i7 a.scope).gq+1,D,.L⟩) n r A g.1.1 (by exact V k<|rfl) z;rw[k]at m⊢;refine⟨c,d,a,_,e,names,100,Q,by exact V t<|C,beq_iff_eq.mp g.1.2,m,M,beq_iff_eq.mp i.1,by simpa using i.2,?_,wY j.1,?_⟩
 ·exact S3 f<|>f0.mpr λx P=>ud.mpr (eS.mpr ⟨x,P,rfl⟩)
 ·refine sN j.2 λx o p=>aW (Pr.mp o) λR q=>?_;obtain⟨S,T,a8⟩:=x;induction S with
  |none=>exact⟨T,a8,R,q⟩|some y=>cases p
end
section
variable {Z:bj}
set_option tactic.hygienic true in
theorem zl {e:jI}{g:aT}{f:bm}{i:aq->Option af}{d:aq}{v:af}(k:e.In g)(j:g.Ns f i)(a:r3 e f d=J (J v)):i d=J v:=by
 refine k1 j λp b x o m A n=>?_;delta r3 at a;cases q:e.lookup f with
 |none=>rw[q]at a;cases a
 |some y=>
  rw[q]at a;have:=o.symm.trans (k _ _ q);cases this;obtain⟨c,r,s,z⟩:=p;cases m;replace a:(match b.toList.find? (·.key.isStr d)with|some a=>J (J a.val)|none=>if b.toList.any (·.refKey)then D else J D)=J (J v):=a;refine aY (n ..)<|?_;delta nsFind findBy;refine aY (Array.find?_toList ..)<|?_;cases h:b.toList.find? (·.key.isStr d)with
  |some t=>rw[h]at a;cases a;rfl
  |none=>rw[h]at a;cases l:b.toList.any (·.refKey)<;>rw[l]at a<;>cases a
theorem X0:∀{a:List O},LA e a=ag->dc Z k o e a:=by
 induction e with
 |nil=>intro a b;induction a using cj with
  |nil=>exact .L|cons x a=>cases b
 |cons v e h=>
  intro a b;induction a using cj with
  |nil=>cases b
  |cons x a=>have b:=lg.mp b;have c:=lg.mp b.2;refine sN c.1 λj d f=>aW (HG<|beq_iff_eq.mp f) λi g=>.Y (V (show v=_ from g)<|V (show x=_ from HK d)<|.I _ _) (h<|lg.mpr ⟨b.1,c.2⟩)
theorem aeA (g:Z.dF.In Z.d1){v:af}{x:O}(b:Ex Z.dF v x=ag):GY Z v x:=by
 intro z y r m;delta Ex at b;cases c:vu x with
 |some j=>rw[c]at b;exact aW (HG<|beq_iff_eq.mp b) λC f=>V f<|V (HK c)<|.I _ _|none=>rw[c]at b;refine sN b λF h b=>sN b λo i b=>aU (lm.mp i) λa f q=>?_;have b:=lg.mp b;refine sN b.2 λE k d=>aW (HI k) λn l=>?_;have d:=lg.mp d;have e:=g _ _ q;obtain⟨c,s,t,A⟩:=o;cases l;refine V (B1 f)<|V (SU h)<|.ce (n:=n) (λp=>by rw[m a p]at e;cases e) (r _ _ e) (beq_iff_eq.mp b.1) (by simp-iota) ?_ (X0 d.1);exact t4<|>ba (wY d.2) (~~~_)
theorem Uo {d:jI}{C:bm}{e:ClassData}(a:clsIn d C=J e)(g:∀b,d.lookup C=J b->b.data=.cls e->F):F:=by
 delta clsIn at a;cases q:d.lookup C with
 |none=>rw[q]at a;cases a
 |some b=>obtain⟨c,h,f,i⟩:=b;rw[q]at a;cases f<;>first|(cases a;exact g _ q rfl)|cases a
set_option tactic.hygienic true in
theorem aap (P:Z.iK=iK)(g:Z.d4=d4)(d:Z.dF.In Z.d1)(m:Z.d1.Ns kQ Z.mu)(R:Z.d1.Ns oZ Z.ze)(e':Z.d1.NoLimit)(A:kC.map (nl Z.dF)=fX.map J)(K:(ih 5).map (re Z.dF)=gu.map J)(T:ra Z.dF=ag)(o:∀c,c<5->mh Z.dF c=ag)(b8:tm Z.dF=ag):BC Z:=by
 simp-iota only[ra,ek]at T;refine bW T λf d8=>?_;obtain⟨⟨⟨b',c8⟩,c9⟩,c'⟩:=f;have d':kC.length=fX.length:=by have:=congrArg mL A;simpa using this
 have W:∀i k,fX[i]?=J k->nl Z.dF (Z.iK i)=J k:=λi k b=>by
  have C:i<kC.length:=d'<|>(dv.mp b).1;have:=congrArg (λl=>l[i]?) A;rw[cv,cv,b,du C]at this;refine P<|>?_;have n:iK i=kC[i]:=by delta iK;refine du C<|>?_;rfl
  exact n<|>dr this
 have e9:∀e,e<5->sj Z e:=λe r=>by have:=o e r;simp-iota only[mh,ek,beq_iff_eq]at this;refine bW this λf H=>?_;obtain⟨⟨⟨⟨⟨⟨t,y⟩,j⟩,z⟩,E⟩,F⟩,G⟩:=f;rw[<-g]at*;refine⟨F,G,H,j,λa p=>?_⟩;have:=beq_iff_eq.mp (f0.mp z a<|ud.mp p);delta takerIn;refine this<|>?_;rfl
 refine⟨⟨⟨m,R,λx v b=>?_,λx v b=>?_,λx i b=>?_,λx i b=>?_,?_,e',d⟩,λi C=>?_,λc h=>?_,λc h=>?_,λc a h p=>?_,λc e M h a9=>?_,λc h=>?_⟩,λi k b=>K1 d<|W i k b,λe a' b=>?_⟩
 ·have:=f0.mp b' _ (h7 b);exact sN this λval n b=>⟨val,zl d m<|aU (lm.mp n) λs A K=>A.trans<|congrArg J K,aeA d b⟩
 ·have:=f0.mp c8 _ (h7 b);rw[ek]at this;exact⟨ns_none_of d m (beq_iff_eq.mp this.1),zl d R (beq_iff_eq.mp this.2)⟩
 ·have:=f0.mp c9 _ (h7 b);exact P<|>zl d m (beq_iff_eq.mp this)
 ·have:=f0.mp c' _ (h7 b);exact g<|>zl d m (beq_iff_eq.mp this)
 ·refine aW (rV.mp d8) λQ e8=>d _ _ e8<|>?_;rfl
 ·exact MM (K1 d<|W i _<|du C) λQ b9 s s s M s=>⟨Q,b9,M.i3,M.iJ⟩
 ·have:=o c h;simp-iota only[mh,ek,beq_iff_eq]at this;exact g<|>this.1.1.1.1.1.1.1
 ·have:=o c h;simp-iota only[mh,ek,beq_iff_eq]at this;exact g<|>this.1.1.1.1.1.1.2
 ·have:=o c h;simp-iota only[mh,ek,beq_iff_eq]at this;refine bW this λf H=>?_;obtain⟨⟨⟨⟨⟨⟨t,y⟩,j⟩,z⟩,E⟩,F⟩,G⟩:=f;exact aU (F5 j) λS N d9=>g<|>⟨S,N,d9,D,beq_iff_eq.mp<|f0.mp z a<|ud.mp p,.inl rfl⟩
 ·have:=f0.mp b8 _ (Ma a9);simp-iota only[ek,beq_iff_eq]at this;refine bW this λf j=>?_;obtain⟨t,y⟩:=f;refine g<|>P<|>⟨t,y,(L7 a9).2,λa p=>?_⟩;have:=f0.mp j a (ud.mp p);simpa using this
 ·have:=o c h;simp-iota only[mh,ek,beq_iff_eq]at this;refine bW this λf H=>?_;obtain⟨⟨⟨⟨⟨⟨t,y⟩,j⟩,z⟩,E⟩,F⟩,G⟩:=f;refine aU (F5 j) λS N s=>g<|>⟨?_,E⟩;exact Uo N λQ q n=>⟨_,_,d _ _ q,n⟩
 ·have r:gu[e]?=J a':=b;have a8:e<5:=by have:=(dv.mp r).1;exact this
  have:=congrArg (λl=>l[e]?) K;rw[cv,cv,r,Po a8]at this;exact XN g d (e9 e a8) r (dr this)
end
end
section
variable{g Q l f8 g8 h8:Nat}{M j a8 b8:List Nat}{S:O->w->Prop}{W A t8:w}{Z n8 o8 p8:List UInt8}{z F z8 A8 B8:Option O}{R F8:List O}{P:db}{e:List (Nat×Nat)}{f:bp}{n R8:List (Int×O)}{m g9:Int}{r:List (List UInt8)}{k p9:Bool}{b:Nat->Prop}{K:UInt8}{H:O->w->(O->w->Prop)->Prop}{y B9:w->Prop}{C T9 U9:O}{q E9:List O->w->Prop}{a:O->Prop}{c N9 O9:Prop}{W9:List (Int×O)->Prop}{Z9:List UInt8->Prop}{f':Nat->Nat->Prop}{l':List O->Prop}{o' p' q':aX}{r':l4}
theorem pF {e:Type}{b:List e->Prop}(nil:b [])(ff:∀a,b [a])(more:∀a d c,b (d::c)->b (a::d::c))(l:List e):b l:=by
 induction l with
 |nil=>exact nil|cons a l f=>
  induction l using cj with
  |nil=>exact ff a|cons d c=>exact more a d c f
noncomputable abbrev b2.aP (a:b2):b2:=match a with
 |.Y _ b=>b|.L=>.L
noncomputable abbrev b2.as (b:b2):b2:=match b with
 |.Y (.bD _ _ _ a) _=>a|.Y (.iA _ a) _=>a|.Y (.bJ _ a _) _=>a|_=>.L
abbrev aJ:=Nat->List O->w->(O->w->Prop)->Prop
variable{x c':aJ}
noncomputable abbrev bB (a b:aJ):aJ:=Et cT ⟨a,b,nu⟩
noncomputable abbrev rn (a b:aJ):aJ:=Eu cT ⟨a,b,nu⟩
theorem IK:kx cT g=⟨(kx cT g).gw,(kx cT g).dP,nu⟩:=by cases g<;>rfl
theorem K0:(kx cT<|g+1).gw=bB (kx cT g).gw (kx cT g).dP:=congrArg (Et cT) IK
theorem Zo:(kx cT<|g+1).dP=rn (kx cT g).gw (kx cT g).dP:=congrArg (Eu cT) IK
theorem kY {a:Nat}{x:List UInt8}(b:W.a4 a=J x)(c:Z9 x):nm W a Z9:=gf b c
theorem av {a:Nat}{x:List O}(b:W.U a=J x)(c:l' x):gF W a l':=gf b c
theorem mm {a:Nat}{x:List (Int×O)}(b:W.aQ a=J x)(c:W9 x):ml W a W9:=gf b c
theorem pI {c:Prop} [Decidable c](b:c)(a:N9):if dk c=ag then N9 else O9:=decide_eq_true b<|>a
theorem fN {c:Prop} [Decidable c](b:¬c)(a:O9):if dk c=ag then N9 else O9:=decide_eq_false b<|>a
theorem eh {c:Prop} [Decidable c](a:c->N9)(d:¬c->O9):if dk c=ag then N9 else O9:=by
 by_cases b:c
 ·exact pI b (a b)
 ·exact fN b (d b)
theorem rd {c:Prop} [Decidable c](a:¬c->N9)(d:c->O9):if(!dk c)=ag then N9 else O9:=by
 by_cases b:c
 ·exact decide_eq_true b<|>d b
 ·exact decide_eq_false b<|>a b
theorem ct (a:g<=1000):g<=b5:=ba a (~~~_)
theorem w.ar.cf:W.ar W:=⟨λb b a=>a,λb b a=>a,λb b a=>a⟩
theorem w.ar.ak (a:W.ar A)(c:A.ar t8):W.ar t8:=⟨λx y b=>c.U x y<|a.U x y b,λx y b=>c.a4 x y<|a.a4 x y b,λx y b=>c.aQ x y<|a.aQ x y b⟩
theorem dS {x:List O}(b:W.U g=D):W.ar (W.a1 g x):=⟨λa y c=>by unfold w.a1;dsimp-iota only;exact if_neg (by rintro rfl;rw[b]at c;cases c)<|>c,λd d b=>b,λd d b=>b⟩
theorem Dg {x:List UInt8}(b:W.a4 g=D):W.ar (W.gh g x):=⟨λd d b=>b,λa y c=>by unfold w.gh;dsimp-iota only;exact if_neg (by rintro rfl;rw[b]at c;cases c)<|>c,λd d b=>b⟩
theorem LP {x:List (Int×O)}(b:W.aQ g=D):W.ar (W.ja g x):=⟨λd d b=>b,λd d b=>b,λa y c=>by unfold w.ja;dsimp-iota only;exact if_neg (by rintro rfl;rw[b]at c;cases c)<|>c⟩
theorem cg {x:List O}:(W.a1 g x).U g=J x:=if_pos rfl
theorem mF {x:List UInt8}:(W.gh g x).a4 g=J x:=if_pos rfl
theorem zX {x:List (Int×O)}:(W.ja g x).aQ g=J x:=if_pos rfl
theorem iw {b a:Nat}{x:List O}(c:a≠b):(W.a1 b x).U a=W.U a:=if_neg c
theorem adC {b a:Nat}{x:List UInt8}(c:a≠b):(W.gh b x).a4 a=W.a4 a:=if_neg c
theorem LR {n:Nat}(a:n<=1048576):-1048576<=(n:Int)/\(n:Int)<=1048576:=⟨fU (~~~_)<|eH n,eM.mpr a⟩
def d6 (c:w)(b:List UInt8):O->Prop
 |.aA x=>x=b|.br a=>c.a4 a=J b|_=>False
theorem d6.ar {v:O}(l:W.ar A)(a:d6 W Z v):d6 A Z v:=by cases v<;>first|exact a.elim|exact a|exact l.a4 _ _ a
@[elab_as_elim] theorem y4 {e:w}{b:List UInt8}{c:O->Prop}{v:O}(d:d6 e b v)(a:c (.aA b))(f:∀x,e.a4 x=J b->c (.br x)):c v:=by cases v<;>first|exact d.elim|exact(show _=b from d)▸a|exact f _ d
theorem Xm (a:Z[g]?=J K):g<Z.length/\Z.getD g 0=K:=by exact aW (dv.mp a) λb c=>⟨b,by refine ig<|>a<|>?_;rfl⟩
theorem ru {v:O}{k:Nat}{i:Int}(b:d6 W Z v)(f:i=(k:Int))(c:Z[k]?=J K)(q:S (.I (K.toNat:Int)) W):wy v (.I i) W S:=by subst f;refine bW (Xm c) λd e=>?_;clear c;subst e;exact y4 b ⟨⟨eH k,cz.mpr @d⟩,q⟩ λa b=>kY b ⟨⟨eH k,cz.mpr @d⟩,q⟩
def bA (b:List UInt8)(c:Nat)(a:List UInt8):Prop:=∀i,i<a.length->b[c+i]?=a[i]?
theorem bA.ju {b i:Nat}(c:bA Z b n8)(a:n8[i]?=J K):Z[b+i]?=J K:=V (c i (dv.mp a).1 ..)<|a
theorem bA.kD (a:bA Z g (K::n8)):Z[g]?=J K:=a.ju (i:=0) rfl
theorem bA.i5 {b a d:List UInt8}(e:bA b g (a++d)):bA b g a:=λi c=>by exact V (e i (by rw[a2];exact ef c<|eN _ _) ..)<|oM c<|>rfl
theorem bA.nA {c a b:List UInt8}(d:bA c g (a++b)):bA c (g+a.length) b:=λi e=>by exact iB<|>d _ (by rw[a2];exact um e _)<|>hT (eN _ _)<|>un<|>rfl
theorem bA.np {b a d:List UInt8}(h:bA b g a)(j:bA b (g+a.length) d):bA b g (a++d):=λi f=>by
 rw[a2]at f;by_cases c:i<a.length
 ·exact V (oM c ..)<|h i c
 ·have e:i=a.length+(i-a.length):=(mN<|eT c).symm;exact V (e ..)<|V (hT (eN _ _) ..)<|V (un ..)<|aY (iB ..)<|j _ (~~~az 0x7499bfaa5d89 f e)
theorem bA.ar (c:bA Z g n8)(d:n8≠[]):g+n8.length<=Z.length:=by have b:0<n8.length:=Fq.mpr d;have a:=c (n8.length-1) (A2 @b<|~~~_);rw[du (A2 @b<|~~~_)]at a;have:=(dv.mp a).1;exact az 0x577b3fedd722d1 this aw
theorem Ip {v:Nat}(a:v<65536):bY 2 v=[dQ (v/256),dQ (v%256)]:=by show [dQ (v/256%256),dQ (v%256)]=_;exact PY (~~~ac 0x3cba93397ace379acd2bf083ff9 a (lU _ _))<|>rfl
theorem pS (a:g<256):(dQ g).toNat=g:=PY a
theorem pD {n:Nat}(a:n<18446744073709551616):jQ (n:Int):=⟨by exact ai 0x410108421084210842107a1,by exact ai 0x24f72a46318c6318c631835265c85294a5294a5294a52715 a⟩
theorem TI:jQ 256:=⟨by decide,by decide⟩
structure eV (a:Nat) (c d:w):Prop where
 U:∀b x,c.U b=J x->d.U b=J x
 a4:∀b x,b≠a->c.a4 b=J x->d.a4 b=J x
 aQ:∀b x,c.aQ b=J x->d.aQ b=J x
theorem eV.cf {a:Nat}:eV a W W:=⟨λb b c=>c,λb b b c=>c,λb b c=>c⟩
theorem eV.ak {a:Nat}(x:eV a W A)(y:eV a A t8):eV a W t8:=⟨λb v c=>y.U b v<|x.U b v c,λb v d c=>y.a4 b v d<|x.a4 b v d c,λb v c=>y.aQ b v<|x.aQ b v c⟩
theorem w.ar.mn {a:Nat}(b:W.ar A):eV a W A:=⟨b.U,λc x e d=>b.a4 c x d,b.aQ⟩
theorem rb {a:Nat}{x:List UInt8}:eV a W (W.gh a x):=⟨λc c b=>b,λe y d b=>by exact adC d<|>b,λc c b=>b⟩
theorem eV.dP {a:Nat}(e:W.a4 a=D)(d:eV a A t8)(l:W.ar A):W.ar t8:=⟨λb v c=>d.U b v<|l.U b v c,λb v c=>d.a4 b v (by clear d;rintro rfl;rw[e]at c;cases c)<|l.a4 b v c,λb v c=>d.aQ b v<|l.aQ b v c⟩
structure cW (d:Nat->Prop) (b c:w):Prop where
 U:∀a x,¬d a->b.U a=J x->c.U a=J x
 a4:∀a x,b.a4 a=J x->c.a4 a=J x
 aQ:∀a x,b.aQ a=J x->c.aQ a=J x
theorem cW.cf:cW b W W:=⟨λa a a c=>c,λa a c=>c,λa a c=>c⟩
theorem cW.ak (x:cW b W A)(y:cW b A t8):cW b W t8:=⟨λa v d c=>y.U a v d<|x.U a v d c,λa v c=>y.a4 a v<|x.a4 a v c,λa v c=>y.aQ a v<|x.aQ a v c⟩
theorem w.ar.ds {T:Nat->Prop}(a:W.ar A):cW T W A:=⟨λb x d c=>a.U b x c,a.a4,a.aQ⟩
theorem gb {t:Nat}{m:w}{x:List O}:cW (·=t) m (m.a1 t x):=⟨λd y c a=>by exact iw c<|>a,λb b a=>a,λb b a=>a⟩
theorem cW.dP (d:W.U g=D)(c:cW (·=g) A t8)(l:W.ar A):W.ar t8:=⟨λa v b=>c.U a v (by clear c;rintro rfl;rw[d]at b;cases b)<|l.U a v b,λa v b=>c.a4 a v<|l.a4 a v b,λa v b=>c.aQ a v<|l.aQ a v b⟩
theorem hy {x:List O}(d:x.length<=1000)(q:∀a b,W.U a=D->b.U a=J x->W.ar b->S (.ah a) b):hc W x S:=⟨ct d,λa c=>q a _ c cg<|dS c⟩
theorem Zl {x:List UInt8}(d:x.length<=1000)(q:∀a b,W.a4 a=D->b.a4 a=J x->W.ar b->S (.br a) b):v0 W x S:=⟨ct d,λa c=>q a _ c mF<|Dg c⟩
structure fi (c:List UInt8) (b:Nat) (d a:List UInt8):Prop where
 aH:a.length=c.length
 dA:bA a b d
 fg:∀j,(j<b\/b+d.length<=j)->a[j]?=c[j]?
theorem fi.ca {b q:Nat}(e:fi Z b o8 n8)(d:bA Z q p8)(a:q+p8.length<=b\/b+o8.length<=q):bA n8 q p8:=λi c=>by exact e.fg _ (a.imp (λa=>ef (um c q) a)<|λa=>ba a<|eN _ _)<|>d i c
theorem fi.ak {f h d i:List UInt8}(e:fi Z g d f)(a:fi f (g+d.length) i h):fi Z g (d++i) h:=⟨a.aH.trans e.aH,(a.ca e.dA<|.inl<|cL _).np a.dA,λj b=>by rw[a2]at b;exact V (a.fg j (b.imp (λc=>by exact aj 152458125 c) λc=>by exact az 0x8e08734c267a8 c) ..)<|V (e.fg j (b.imp_right λc=>by exact az 0xb518322a3a8 c) ..)<|rfl⟩
theorem Am (a:g<Z.length):fi Z g [K] (Z.set g K):=⟨nJ,λi b=>by
 induction i using ey with
 |zero=>rw[PT,rF a];rfl|succ i=>exact absurd b<|kO.mpr<|jd<|dB i,λj c=>by rw[p7];rintro rfl;exact c.elim (eI _)<|Nat.not_succ_le_self _⟩
theorem An {d r:List UInt8}{p:Nat}(c:p+r.length<=d.length):fi d p r (d.take p++r++d.drop (p+r.length)):=by
 have b:(d.take p).length=p:=Pw (ba (eN _ _) c);refine⟨a2<|>a2<|>b<|>gB<|>mN c,λi e=>(oM (by rw[a2,b];exact um e _)<|>hT (by rw[b];exact eN _ _)<|>b<|>un<|>rfl),λj a=>?_⟩
 ·rcases a with a|a
  ·exact bN<|>oM (by rw[b];exact a)<|>rG a<|>rfl
  ·exact hT (by rw[a2,b];exact a)<|>nI<|>a2<|>b<|>mN a<|>rfl
theorem SZ (b:bA Z 0 n8)(a:Z.length=n8.length):Z=n8:=Fe λi=>by
 by_cases c:i<n8.length
 ·have:=b i c;rw[jG]at this;exact this
 ·exact p5 (~~~aj 2083334164 a (eT c))<|>p5 (~~~ac 354984 (eT c))<|>rfl
theorem NF {a p v:Nat}{i j:Int}(e:W.a4 a=J Z)(f:i=(p:Int))(g:j=(v:Int))(d:p<Z.length)(h:v<256)(q:∀b c,fi Z p [dQ v] c->b.a4 a=J c->eV a W b->y b):z7 (.br a) (.I i) (.I j) W y:=by subst f g;exact kY e ⟨⟨eH _,cz.mpr d,eH _,cz.mpr h⟩,q _ _ (Am d) mF rb⟩
noncomputable abbrev bn (a b:aJ):cG:=⟨a,b,nu⟩
noncomputable def h6 (C:cG)(d:b2)(a:db):db:=λe c b=>match e with
 |.cO=>a6 C d c b a
 |.aI f=>a (.aI f) c b
noncomputable def dI (a:O->w->Prop):db:=λb d c=>a (CR b) c
def Ww (C:cG)(b:b2)(d:bp)(a:db):O->w->Prop:=λv c=>ny v (a6 C b d c a) (λe=>a6 C b d c a) pQ (λe=>a6 C b d c a) (λe=>a6 C b d c a) cy
section
variable {C:cG}{b a:b2}{ρ:bp}{m:w}{Q:db}{x:Nat}{e:aX}
theorem b3 {C:cG}{b:b2}{ρ:bp}{m:w}{Q:db}(a:let c:=C;let x:=ρ;let q:=Q;a6 c b x m q):a6 C b ρ m Q:=a
theorem cI {C:cG}{b:b2}{ρ:bp}{m:w}{Q:db}(a:let x:=ρ;a6 C b x m Q):a6 C b ρ m Q:=a
theorem cl {C:cG}{b:b2}{ρ:bp}{m:w}{Q:db}(a:let x:=ρ;let q:=Q;a6 C b x m q):a6 C b ρ m Q:=a
theorem aF (a:ao C e ρ m λv m=>a6 C b (ρ.set x<|J v) m Q):a6 C (.Y (.aE x e) b) ρ m Q:=a
theorem ft (a:ao C e ρ m λv m=>tS M v ρ λρ=>a6 C b ρ m Q):a6 C (.Y (.e0 M e) b) ρ m Q:=a
theorem lO {a i v:aX}(c:ao C v ρ m λv m=>ao C a ρ m λa m=>ao C i ρ m λi m=>z7 a i v m λm=>a6 C b ρ m Q):a6 C (.Y (.as a i v) b) ρ m Q:=c
theorem Er {a l i v:aX}(c:ao C v ρ m λv m=>ao C a ρ m λa m=>ao C l ρ m λl m=>ao C i ρ m λi m=>Ei a l i v m λm=>a6 C b ρ m Q):a6 C (.Y (.eF a l i v) b) ρ m Q:=c
theorem z4 {i:Int}(d:ρ.b7 x=J (.I i))(a:ao C e ρ m λc m=>oe r' (.I i) c m λv m=>a6 C b (ρ.set x<|J v) m Q):a6 C (.Y (.od x r' e) b) ρ m Q:=gf d a
theorem cc (a:ao C e ρ m (Ww C b ρ Q)):a6 C (.Y (.bX e) b) ρ m Q:=a
theorem bx {a e:b2}{c:aX}(d:ao C c ρ m (el λc m=>if c then a6 C a ρ m (h6 C b Q)else a6 C e ρ m (h6 C b Q))):a6 C (.Y (.bJ c a e) b) ρ m Q:=d
theorem mG {c:aX}(d:∃f,hR (λρ m e=>ao C c ρ m<|el e) (a6 C a) f ρ m (h6 C b Q)):a6 C (.Y (.iA c a) b) ρ m Q:=d
theorem gV {c:l5}(d:lQ C c ρ m λf e m=>gK k M (a6 C a) e f ρ m<|h6 C b Q):a6 C (.Y (.bD k M c a) b) ρ m Q:=d
theorem bH (a:ao C e ρ m λv m=>Q (.aI v) ρ m):a6 C (.Y (.aI e) .L) ρ m Q:=a
theorem bc (a:a6 C b ρ m Q):a6 C .L ρ m (h6 C b Q):=a
theorem k7 (a:Q .cO ρ m):a6 C .L ρ m Q:=a
theorem iy {bV:bp}(e:ρ=bV)(a:a6 C b bV m Q):a6 C b ρ m Q:=e▸a
end
theorem bU (a:bq)(b:bp)(e:cT.CU g=J a)(d:yy a.gQ a.iP a.s5 R=J b)(c:a6 (bn x c') a.qX b W (dI S)):bB x c' g R W S:=gf e (gf d c)
theorem CV {σ:Type}{n:Bool}{o:List Nat}{body:bp->w->db->Prop}{i:w->Prop}{h:db}(f:σ->bp)(g:List O->σ->w->Prop)(q:∀v c b a,g (v::c) b a->∀l:db,(∀k d,g c k d->l .cO (f k) d)->(∀j e d,h (.aI j) e d->l (.aI j) e d)->i a/\EC n o v (f b) λe=>body e a l)(p:∀b a,g [] b a->i a/\h .cO (f b) a):∀c b a,g c b a->gK n o body i c (f b) a h
 |[],b,a,m=>p b a m|v::c,b,a,m=>q v c b a m (λs e a=>match s with|.cO=>gK n o body i c e a h|.aI j=>h (.aI j) e a) (λk d x=>CV f g q @p c k d x) λr r r t=>t
theorem Al {σ:Type}{p:bp->w->(Bool->w->Prop)->Prop}{body:bp->w->db->Prop}{f:db}(e:σ->bp)(i:Nat->σ->w->Prop)(k:∀c b a,i c b a->∀n:db,(∀j m d,j<c->i j m d->n .cO (e m) d)->(∀l h d,f (.aI l) h d->n (.aI l) h d)->p (e b) a λr a=>if r then body (e b) a n else f .cO (e b) a):∀g c b a,c<g->i c b a->hR p body g (e b) a f
 |0,_,_,_,o,_=>absurd o (oS _)|g+1,c,b,a,o,t=>k c b a t (λs h a=>match s with|.cO=>hR p body g h a f|.aI l=>f (.aI l) h a) (λj m d y x=>Al e i k g j m d (ef y<|lT o) x) λq q q k=>k
def jm (c:aJ):Prop:=∀{m:w} {a:O->w->Prop} {v:O} {b:List UInt8} {i:Int} {k x:Nat},i=(k:Int)->d6 m b v->bA b k (bY 2 x)->x<65536->a (.I (x:Int)) m->c 3 [v,.I i] m a
def n0 (c:aJ):Prop:=∀{a:w} {b:O->w->Prop} {v:O} {d:List UInt8} {i:Int} {k x:Nat},i=(k:Int)->d6 a d v->bA d k (bY 4 x)->x<4294967296->b (.I (x:Int)) a->c 4 [v,.I i] a b
def il (g:aJ):Prop:=∀{c:w} {e:O->w->Prop} {a:Nat} {b:List UInt8} {i j:Int} {k x:Nat},i=(k:Int)->j=(x:Int)->c.a4 a=J b->k+2<=b.length->x<65536->(∀d f,fi b k (bY 2 x) f->d.a4 a=J f->eV a c d->e .bE d)->g 5 [.br a,.I i,.I j] c e
def xU (g:aJ):Prop:=∀{c:w} {e:O->w->Prop} {a:Nat} {b:List UInt8} {i j:Int} {k x:Nat},i=(k:Int)->j=(x:Int)->c.a4 a=J b->k+4<=b.length->x<4294967296->(∀d f,fi b k (bY 4 x) f->d.a4 a=J f->eV a c d->e .bE d)->g 6 [.br a,.I i,.I j] c e
def m7 (d:aJ):Prop:=∀{b:w} {a:O->w->Prop} {x:Nat},x<4294967296->(∀c,b.ar c->a (.aA<|bY 4 x) c)->d 7 [.I (x:Int)] b a
theorem cC {a:Nat}:∀{b:Nat},(bY a b).length=a:=by
 induction a with
 |zero=>exactλ{d}=>rfl|succ a c=>exactλ{b}=>by unfold bY;refine a2<|>c<|>?_;rfl
theorem Y6 {x:Nat}:x%65536/256%256=x/256%256:=Nat.mod_mul_right_div_self (m:=x) (n:=256) (k:=256)<|>FD<|>rfl
theorem Iq {x:Nat}:bY 4 x=bY 2 (x/65536)++bY 2 (x%65536):=by show [dQ (x/256/256/256%256),dQ (x/256/256%256),dQ (x/256%256),dQ (x%256)]=[dQ (x/65536/256%256),dQ (x/65536%256),dQ (x%65536/256%256),dQ (x%65536%256)];exact V (Nat.div_div_eq_div_mul x 256 256 ..)<|V (Y6 ..)<|V (Nat.mod_mod_of_dvd x (by decide:256∣65536) ..)<|rfl
section
variable {F N:aJ}
theorem abn:jm (bB F N):=λ{g d v h i k x} f b a c q=>by subst f;rw[Ip c]at a;refine ru b rfl a.kD ⟨.inr TI,?_⟩;refine ru (k:=k+1) b rfl (a.ju (i:=1) rfl) ?_;have e:(((dQ<|x/256).toNat:Int)*256+((dQ<|x%256).toNat:Int))=x:=pS (mO c)<|>pS (j2 _<|~~~_)<|>congrArg jF (wX x 256);show d (.I _) g;exact e<|>q
theorem abA (b:jm F):n0 (bB F N):=λ{h d v j i k x} f c a g q=>by subst f;rw[Iq]at a;refine b rfl c a.i5 (mO g) ⟨.inr<|pD (n:=65536)<|~~~_,?_⟩;refine b (k:=k+2) rfl c a.nA (j2 _<|~~~_) ?_;have e:((x/65536:Nat):Int)*65536+((x%65536:Nat):Int)=x:=congrArg jF (wX x 65536);show d (.I _) h;exact e<|>q
theorem abL:il (bB F N):=λ{A t a y i j r x} m o l b c q=>by subst m o;refine⟨⟨by decide,pD (n:=256)<|~~~_⟩,?_⟩;exact NF (v:=x/256) l rfl rfl (uq b) (mO c) λC z d f h=>aC (~~~_)<|NF (p:=r+1) (v:=x%256) f rfl rfl (by exact d.aH<|>b) (j2 _<|~~~_) λE e s g k=>q _ e (Ip c▸d.ak s) g (h.ak k)
theorem abW (b:il F):xU (bB F N):=λ{C y a z i j k x} o p m c r q=>by subst o p;refine⟨⟨by decide,pD (n:=65536)<|~~~_⟩,?_⟩;exact b (x:=x/65536) rfl rfl m (rL<|rL c) (mO r) λE A d f h=>aC (~~~_)<|b (k:=k+2) (x:=x%65536) rfl rfl f (by exact d.aH<|>c) (j2 _<|~~~_) λs e t g l=>q s e (Iq▸d.ak t) g (h.ak l)
theorem aca (g:xU F):m7 (bB F N):=λ{n m x} i q=>by refine aC ⟨by decide,by decide⟩ (Zl (~~~_) λp o h e j=>?_);refine g (k:=0) rfl rfl e (~~~_) i λl c a b f=>kY b ?_;have d:c=bY 4 x:=SZ a.dA (by refine a.aH<|>cC<|>?_;rfl);clear a b;subst d;exact q l (f.dP h j)
end
noncomputable def pH:Nat->Nat->List UInt8
 |0,_=>[]|b+1,a=>if a=0 then []else pH b (a/128)++[dQ (a%128+128)]
noncomputable def dt (a:Nat):List UInt8:=pH a a
noncomputable def nn:Nat->Nat->List UInt8
 |0,_=>[]|j+1,a=>nn j (a/128)++[dQ (a%128+128)]
noncomputable def er (a:Nat):List UInt8:=if a<72057594037927936 then dt (a/128)++[dQ (a%128)]else nn 8 (a/256)++[dQ (a%256)]
noncomputable def kA:Nat->Nat->List UInt8->Option (Nat×Nat)
 |0,_,_=>D|_+1,_,[]=>D|b+1,u,a::c=>if b=0 then J (u*256+a.toNat,1)else if a.toNat<128 then J (u*128+a.toNat%128,1)else(kA b (u*128+a.toNat%128) c).map λx=>(x.1,x.2+1)
theorem vP:dt 0=[]:=rfl
theorem Lq:∀(k l a:Nat),a<=k->a<=l->pH k a=pH l a
 |0,l,a,b,_=>by refine PW.mp b<|>?_;cases l<;>rfl
 |k+1,0,a,_,b=>by refine PW.mp b<|>?_;rfl
 |k+1,l+1,a,b,e=>by
  show(if a=0 then []else pH k (a/128)++_)=if a=0 then []else pH l (a/128)++_;by_cases c:a=0
  ·exact V (if_pos c ..)<|V (if_pos c ..)<|rfl
  ·have d:=AU (k:=128) (P3 c) (~~~_);exact V (if_neg c ..)<|V (if_neg c ..)<|V (Lq k l (a/128) (lT<|ef d b) (lT<|ef d e) ..)<|rfl
theorem C1:g≠0->dt g=dt (g/128)++[dQ (g%128+128)]:=by
 induction g with
 |zero=>exactλb=>absurd rfl b|succ a c=>exactλd=>by show(if a+1=0 then []else pH a ((a+1)/128)++_)=pH _ _++_;exact if_neg (oU a)<|>Lq a ((a+1)/128) _ (lT<|AU (hU a)<|~~~_) (cL _)<|>rfl
theorem yW (j:Nat):∀{a:Nat},a<128^j->(dt a).length<=j:=by
 induction j with
 |zero=>exactλ{a} b=>by cases(PX.mp b);exact vP<|>cL _
 |succ j d=>
  exactλ{a} b=>by
   by_cases c:a=0
   ·clear b;subst c;exact vP<|>dB _
   ·exact V (C1 c ..)<|a2<|>jd (d<|mO<|by exact AX<|>b)
theorem yX {j:Nat}:∀{a:Nat},(nn j a).length=j:=by
 induction j with
 |zero=>exactλ{c}=>rfl|succ j b=>exactλ{a}=>by unfold nn;refine a2<|>b<|>?_;rfl
theorem Kw {b u:Nat}(a:Nat)(e:b≠0)(c:u=a/128):kA (b+1) u (dQ (a%128+128)::Z)=(kA b a Z).map λx=>(x.1,x.2+1):=by have d:(dQ<|a%128+128).toNat=a%128+128:=pS (PS (j2 a<|~~~_) 128);show(if b=0 then _ else if _<128 then _ else _)=_;exact if_neg e<|>d<|>if_neg (kO.mpr<|mP _ _)<|>Nat.add_mod_right<|>FD<|>c<|>wX a 128<|>rfl
theorem L4 {x:Option (Nat×Nat)}{a b:Nat}:(x.map λx=>(x.1,x.2+a)).map (λx=>(x.1,x.2+b))=x.map λx=>(x.1,x.2+(a+b)):=by cases x<;>simp-iota [iB]
theorem UT:∀(a b:Nat) (d:List UInt8),b≠0->kA (b+(dt a).length) 0 (dt a++d)=(kA b a d).map λx=>(x.1,x.2+(dt a).length):=λa=>by
 induction a using AZ with
 |ind a e=>
  intro b d g;by_cases c:a=0
  ·clear e;subst c;refine vP<|>?_;cases f:kA b 0 d<;>simp-iota [f]
  ·refine V (C1 c ..)<|bN<|>a2<|>?_;have:=e (a/128) (AU (P3 c)<|~~~_) (b+1) (dQ (a%128+128)::d) (oU _);rw[oP,iB]at this;show kA (b+((dt<|a/128).length+1)) 0 _=_;refine AP<|>this<|>Kw a g rfl<|>L4<|>ll 1<|>?_;rfl
theorem UU (j:Nat):∀(b a:Nat) (d:List UInt8),a≠0->b<128^j->kA (a+j) 0 (nn j b++d)=(kA a b d).map λx=>(x.1,x.2+j):=by
 induction j with
 |zero=>exactλb a d e c=>by cases(PX.mp c);cases c:kA a 0 d<;>simp-iota [nn,c]
 |succ j f=>exactλb a d e c=>by unfold nn;exact V (bN ..)<|V (AP ..)<|V (show a+(j+1)=a+1+j from oP a j 1)<|f (b/128) (a+1) _ (oU _) (mO (by rw[AX];exact c))<|>Kw b e rfl<|>L4<|>ll 1<|>rfl
theorem p0 (e:g<18446744073709551616)(d:List UInt8):kA 9 0 (er g++d)=J (g,(er g).length):=by
 unfold er;split
 ·rename_i c;have a:(dt<|g/128).length<=7:=yW 7 (mO c);have b:(dQ<|g%128).toNat=g%128:=pS (rO (j2 g<|~~~_)<|~~~_);have:=UT (g/128) (9-(dt<|g/128).length) (dQ (g%128)::d) (by exactλh=>ac 0x1143dcede0fc7c09b95a47f9b44f5fa1164d a h aw);rw[show 9-(dt<|g/128).length+(dt<|g/128).length=9 by exact bo (ac 24964883284350<|ay<|ai 843597062 a) (ac 7305981689874 aw)]at this;refine bN<|>AP<|>this<|>a2<|>?_;obtain⟨j,f⟩:∃j,9-(dt<|g/128).length=j+2:=⟨7-(dt<|g/128).length,by exact bo (aj 0x2306640805c8ce332 aw<|ay<|ai 843597062 a)<|aj 0x2bf271067c70139e aw<|ay<|ai 659940358 a⟩;refine f<|>?_;show((if j+1=0 then _ else if _<128 then _ else _):Option (Nat×Nat)).map _=_;refine if_neg (oU _)<|>b<|>if_pos (j2 g<|~~~_)<|>FD<|>wX g 128<|>A3<|>ll 1<|>?_;rfl
 ·have b:(dQ<|g%256).toNat=g%256:=pS (j2 g<|~~~_);refine bN<|>AP<|>UU 8 (g/256) 1 _ (~~~_) (mO e)<|>a2<|>yX<|>?_;show J (g/256*256+_,1+8)=_;refine b<|>wX g 256<|>?_;rfl
theorem oE {n:Nat}:1<=(er n).length/\(er n).length<=9:=by
 unfold er;split
 ·rename_i c;have:(dt<|n/128).length<=7:=yW 7 (mO c);exact a2<|>⟨mP _ _,jd (ba this<|~~~_)⟩
 ·exact a2<|>yX<|>⟨mP _ _,cL _⟩
theorem afu (a:g<128):(er g).length=1:=by unfold er;refine if_pos (rO a<|~~~_)<|>PV a<|>vP<|>?_;rfl
theorem afv (a:g<16384):(er g).length<=2:=by unfold er;exact if_pos (rO a<|~~~_)<|>a2<|>jd (yW 1<|mO a)
noncomputable def fF (i:Int):Nat:=(i%18446744073709551616).toNat
noncomputable def Eb (x:Nat):Int:=if x<9223372036854775808 then x else x-18446744073709551616
def iM (i:Int):Prop:=-9223372036854775808<=i/\i<9223372036854775808
theorem rz (i:Int):fF i<18446744073709551616:=(uc<|rE i<|~~~_).mpr (Au i<|~~~_)
theorem zY {i:Int}(e:iM i):Eb (fF i)=i:=by
 by_cases c:0<=i
 ·have d:fF i=i.toNat:=congrArg ub (E4 c<|mI e.2<|~~~_);exact d<|>(if_pos<|(uc c).mpr e.2).trans (ie c)
 ·have b:9223372036854775808<=i+18446744073709551616:=fU (by decide:(9223372036854775808:Int)<=-9223372036854775808+18446744073709551616) (Int.add_le_add_right e.1 _);have d:((fF i:Nat):Int)=i+18446744073709551616:=(ie<|rE i<|~~~_).trans ((Int.add_emod_right (a:=i) (b:=18446744073709551616)).symm.trans<|E4 (fU (~~~_) b)<|Int.add_lt_of_lt_sub_right<|iV.mp c);exact(if_neg λf=>gk.mpr b<|d▸cz.mpr f).trans (d▸wJ i 18446744073709551616)
theorem Ol {x:Nat}(a:x<18446744073709551616):fF x=x:=congrArg ub (E4 (eH x)<|cz.mpr a)
def pj (d:aJ):Prop:=∀{b:w} {a:O->w->Prop} {i:Int} {n:Nat},fF i=n->(∀c,b.ar c->a (.aA<|er n) c)->d 0 [.I i] b a
def pk (e:aJ):Prop:=∀{a:w} {b:O->w->Prop} {v:O} {d c:List UInt8} {i:Int} {p x l:Nat},i=(p:Int)->d6 a d v->bA d p c->kA 9 0 c=J (x,l)->b (.ce [.I (x:Int),.I ((p+l:Nat):Int)]) a->e 1 [v,.I i] a b
def qJ (c:aJ):Prop:=∀{b:w} {a:O->w->Prop} {x:Nat} {y:Int},Eb x=y->a (.I y) b->c 2 [.I (x:Int)] b a
section
variable {F N:aJ}
theorem abc:qJ (bB F N):=λ{e d x y} a q=>by
 unfold Eb at a;refine bU Kp [J (.I (x:Int)),D] rfl rfl (bx<|aC ⟨by decide,pD (n:=2)<|~~~_⟩ ?_);refine eh (λb=>?_) (λb=>?_)
 ·rw[if_neg (λc=>eI _<|ef c<|eM.mp b)]at a;subst a;exact bH q
 ·rw[if_pos (iC λc=>b<|eM.mpr c)]at a;subst a;exact bc (bH q)
theorem op {d:List UInt8}{v:O}(a:d6 W d v)(q:S (.I (d.length:Int)) W):Dh v W S:=y4 a q λb a=>kY a q
theorem Io:g&&&127=g%128:=PU g 7
theorem Ts:g&&&255=g%256:=PU g 8
theorem Cn {u b k:Nat}(a:b<2^k):(u*2^k)|||b=u*2^k+b:=AX<|>(Nat.two_pow_add_eq_or_of_lt a u).symm
theorem TU {u a:Nat}(b:a<2^7):(u*2^7)|||a=u*128+a:=Cn b<|>rfl
theorem TV {u a:Nat}(b:a<2^8):(u*2^8)|||a=u*256+a:=Cn b<|>rfl
theorem adP {u:Nat}:((u:Int)*2^(8:Int).toNat).toNat=u*2^8:=V (show(2:Int)^(8:Int).toNat=((256:Nat):Int)by decide)<|aY (OS ..)<|fV<|>rfl
theorem adO {u:Nat}:((u:Int)*2^(7:Int).toNat).toNat=u*2^7:=V (show(2:Int)^(7:Int).toNat=((128:Nat):Int)by decide)<|aY (OS ..)<|fV<|>rfl
noncomputable def Ln:b2:=H5.aP.as
theorem XC {u a:Nat}:(((u:Int)*2^(7:Int).toNat).toNat|||(((a:Int).toNat&&&(127:Int).toNat:Nat):Int).toNat:Nat)=u*128+a%128:=V (adO ..)<|V (fV ..)<|V (fV ..)<|V (show a&&&(127:Int).toNat=a%128 from Io)<|TU (j2 _<|~~~_)
theorem XB {v:O}{a u d:Nat}(j:d6 W Z v)(g:Z[d]?=J K)(h:a<=8)(i:u<128^a)(k:a=8->∀e,P (.aI<|.ce [.I ((u*256+K.toNat:Nat):Int),.I ((d+1:Nat):Int)]) e W)(l:a≠8->K.toNat<128->∀e,P (.aI<|.ce [.I ((u*128+K.toNat%128:Nat):Int),.I ((d+1:Nat):Int)]) e W)(m:a≠8->¬K.toNat<128->P .cO [J v,J (.I ((d+1:Nat):Int)),J (.I ((u*128+K.toNat%128:Nat):Int)),J (.I (a:Int)),J (.I (K.toNat:Int)),z8] W):a6 (bn F N) Ln [J v,J (.I (d:Int)),J (.I (u:Int)),J (.I (a:Int)),z,z8] W P:=by
 have n:d<Z.length:=(dv.mp g).1;refine cl ?_;intro e o;refine bx (op j<|fN (λb=>eI _<|ef n<|eM.mp b)<|bc ?_);refine aF (ru j rfl g ?_);refine cI ?_;intro e;refine z4 rfl<|cI ?_;intro e;refine bx (eh (λb=>?_)<|λb=>bc ?_)
 ·refine cl ?_;intro e o;refine bH ⟨⟨by decide,by decide,pD<|ef i<|ba (P4 (~~~_) h)<|~~~_⟩,⟨OR (eH _)<|~~~_,eH _⟩,?_⟩
  ·have:=k (iW.mp b) [J v,J (.I<|d+1),J (.I (u:Int)),J (.I (a:Int)),J (.I (K.toNat:Int)),z8];rw[<-TV K.toNat_lt,<-@adP u,<-fV K.toNat]at this;exact this
 ·have b:a≠8:=λf=>b (congrArg jF f);have f:=@XC u K.toNat;refine aF ⟨⟨by decide,by decide,pD ?_⟩,⟨eH _,by decide⟩,⟨OR (eH _)<|~~~_,eH _⟩,?_⟩
  ·exact ef i (ba (P4 (~~~_) h)<|~~~_)
  refine iy (bV:=[J v,J (.I ((d+1:Nat):Int)),J (.I ((u*128+K.toNat%128:Nat):Int)),J (.I (a:Int)),J (.I (K.toNat:Int)),z8]) (by refine aY (f ..)<|?_;rfl) ?_;exact bx (eh (λc=>bH<|l b (cz.mp c) _)<|λc=>bc<|m b<|λx=>c<|cz.mpr x)
theorem Xq {v:O}(s:d6 W Z v){x j:Nat}(q:∀i,P (.aI<|.ce [.I (x:Int),.I (j:Int)]) i W):∀(c g u f:Nat) (d:List UInt8) (m n:Option O),g+c=9->u<128^g->bA Z f d->(kA c u d).map (λy=>(y.1,f+y.2))=J (x,j)->gK ap [3] (a6 (bn F N) Ln) (λA=>True) ((gA (g:Int) c).map .I) [J v,J (.I (f:Int)),J (.I (u:Int)),m,n,z] W P:=by
 intro c;induction c with
 |zero=>intro g u f d m n _ _ _ b;cases b
 |succ c t=>
  intro g u f d m n e p o b;induction d using cj with
  |nil=>cases b
  |cons h d=>
   have b:(if c=0 then J (u*256+h.toNat,1)else if h.toNat<128 then J (u*128+h.toNat%128,1)else(kA c (u*128+h.toNat%128) d).map λx=>(x.1,x.2+1)).map (λy=>(y.1,f+y.2))=J (x,j):=b;refine aC trivial (XB s o.kD (~~~ac 1808987019870 e) p (λr i=>?_) (λk l i=>?_)<|λk l=>?_)
   ·subst r;induction c using ey with
    |zero=>injection b with b;cases b;exact q i
    |succ c=>exact wI (ai 0x1e0d44d53a27a11669 e)
   ·rw[if_neg (λb=>k (by rw[b]at e;exact g0 e)),if_pos @l]at b;injection b with b;cases b;exact q i
   ·rw[if_neg (λb=>k (by rw[b]at e;exact g0 e)),if_neg @l,Option.map_map]at b;refine t (g+1) _ (f+1) d _ _ (by exact oP<|>e) (Nat.pow_succ<|>ef (um (j2 _<|~~~_) _) (by exact aY (w4 ..)<|oR _ p)) (bA.nA (a:=[h]) o) ?_
    ·refine aY (b ..)<|?_;congr 1;funext y;refine iB<|>ll 1<|>?_;rfl
theorem aaS:pk (bB F N):=λ{j g v h f i a x l} d e c b q=>by subst d;refine bU JX [J v,J (.I (a:Int)),D,D,D,D] rfl rfl (aF<|gV ⟨⟨⟨by decide,by decide⟩,by decide,by decide⟩,.inl ⟨rfl,?_⟩⟩);exact Xq e (λk=>q) 9 0 0 a f D D rfl (~~~_) c (by refine b<|>?_;rfl)
noncomputable def gI (b:List UInt8):List O:=b.map λa=>.I (a.toNat:Int)
theorem SM:io (gI Z)=J (Z.map λa=>(a.toNat:Int)):=by
 induction Z with
 |nil=>exact rfl|cons a Z b=>exact by show(io<|gI Z).map _=_;refine b<|>?_;rfl
theorem ZT:tx (Z.map λa=>(a.toNat:Int))=Z:=by
 induction Z with
 |nil=>exact rfl|cons a Z b=>show qZ (a.toNat:Int)::tx (Z.map _)=_;refine b<|>?_;have:qZ (a.toNat:Int)=a:=UInt8.ofNat_toNat;exact this<|>rfl
theorem IF (b:W.U g=J (gI Z))(q:S (.aA Z) W):vx (.ah g) W S:=by
 refine av b<|SM<|>⟨λi c=>?_,ZT<|>q⟩
 ·obtain⟨a,_,rfl⟩:=eS.mp c;exact⟨eH _,cz.mpr a.toNat_lt⟩
theorem EI {hF:List UInt8}(a:g<256):gI hF++[.I (g:Int)]=gI (hF++[dQ g]):=by unfold gI;exact cD<|>rH<|>pS a<|>rfl
theorem EJ:(gI Z).length=Z.length:=ax _
theorem adQ:(g:Int)/2^(7:Int).toNat=((g/128:Nat):Int):=by refine V (show(2:Int)^(7:Int).toNat=((128:Nat):Int)by decide)<|?_;rfl
theorem HV:(((g:Int).toNat&&&(127:Int).toNat:Nat):Int)=((g%128:Nat):Int):=congrArg jF Io
theorem S7:(((g:Int).toNat&&&(255:Int).toNat:Nat):Int)=((g%256:Nat):Int):=congrArg jF Ts
theorem TT {b:Nat}(a:b<128):b|||128=b+128:=by refine Nat.or_comm<|>?_;have:=Cn (u:=1) (b:=b) (k:=7) a;exact ll<|>this
theorem S6:(((((g:Int).toNat&&&(127:Int).toNat:Nat):Int).toNat|||(128:Int).toNat:Nat):Int)=((g%128+128:Nat):Int):=HV<|>congrArg jF (TT<|j2 g<|~~~_)
theorem YO:g%128+128<256:=PS (j2 g<|~~~_) 128
noncomputable def aav:b2:=Cd.aP.aP.aP
noncomputable def aaw:b2:=Cd.aP.aP.as.aP.aP.as
theorem aax {c h a:w}{f:O->w->Prop}{b:Nat}{n o p r:Option O}{e d:List UInt8}(q:∀a,c.ar a->f (.aA d) a)(l:c.U b=D)(m:c.ar h)(g:a.U b=J (gI e))(k:e=d.reverse)(j:cW (·=b) h a):a6 (bn F N) aav [n,o,J (.ah b),p,r] a (dI f):=by
 have i:(gI e).reverse=gI d:=by refine k<|>?_;unfold gI;exact Py<|>List.reverse_reverse<|>rfl
 refine cI ?_;intro s;refine cc (av g<|av g<|bH ?_);exact i<|>IF cg (q _<|(j.ak gb).dP l m)
theorem Nl (c:W.U g=J (gI Z))(d:Z.length<=9)(a:∀b,b.U g=J (gI<|Z++[dQ (Q%128+128)])->cW (·=g) W b->P .cO [z,J (.I ((Q/128:Nat):Int)),J (.ah g),z8,A8] b):a6 (bn F N) aaw [z,J (.I (Q:Int)),J (.ah g),z8,A8] W P:=by have a:=a (W.a1 g<|gI Z++[.I ((((((Q:Int).toNat&&&(127:Int).toNat:Nat):Int)).toNat|||(128:Int).toNat:Nat):Int)]) (by exact cg<|>S6<|>EI YO<|>rfl) gb;refine cc (av c<|aC ⟨eH _,by decide⟩ ⟨⟨eH _,by decide⟩,av c ⟨by exact EJ<|>eo d (~~~_),?_⟩⟩);refine z4 rfl (aC ⟨by decide,by decide⟩<|k7 ?_);rw[<-adQ]at a;exact a
theorem aaR:pj (bB F N):=λ{m A i d} E q=>by
 subst E;have G:i%18446744073709551616=(fF i:Int):=by unfold fF;exact ie (rE _<|~~~_)<|>rfl
 have Q:=rz i;generalize fF i=d at*;refine bU Ki [J (.I i),D,D,D,D] rfl rfl (aF<|aC (~~~_) ?_);refine iy (bV:=[J (.I i),J (.I (d:Int)),D,D,D]) (by refine G<|>?_;rfl) (aF<|aC (ct<|dB _) λe t=>?_);have k:(m.a1 e []).U e=J (gI []):=cg;have z:m.ar (m.a1 e []):=dS t;generalize m.a1 e []=h at k z⊢;have j:=λ(f:w) (H K:Option O) (hF:List UInt8)=>@aax F N m h f A e (J<|.I i) H K D hF (er d) q t z;unfold er at j;refine bx (eh (λb=>?_)<|λb=>?_)
 ·rw[if_neg (by exactλM=>ai 0x7071d79576f7bdef7bde951950403579650108421084210841dc7a11685 b M)]at j;have g:(h.a1 e<|gI []++[.I (((d:Int).toNat&&&(255:Int).toNat:Nat):Int)]).U e=J (gI [dQ (d%256)]):=cg<|>S7<|>congrArg J (EI (hF:=[])<|j2 _<|~~~_);refine cc (av @k<|aC ⟨eH _,by decide⟩<|av @k ⟨by decide,?_⟩);refine z4 rfl (aC ⟨by decide,by decide⟩<|gV<|aC ⟨⟨by decide,by decide⟩,by decide,by decide⟩<|.inl ⟨rfl,?_⟩);have o:cW (·=e) h _:=gb (x:=gI []++[.I (((d:Int).toNat&&&(255:Int).toNat:Nat):Int)]);refine CV (σ:=Nat×List UInt8×Option O) (λa=>[J (.I i),J (.I (a.1:Int)),J (.ah e),a.2.2,D]) (λs a f=>f.U e=J (gI a.2.1)/\(a.2.1++(nn s.length a.1).reverse=(nn 8 (d/256)++[dQ (d%256)]).reverse/\cW (·=e) h f)) (λv s a f b C p P=>aC trivial ?_) (λa f b=>aC trivial (bc<|bc<|j f _ _ _ b.1 ?_ b.2.2)) _ (d/256,[dQ (d%256)],D) _ ⟨g,?_,o⟩
  ·refine Nl b.1 ?_ λr g n=>p (a.1/128,_,J v) r ⟨g,?_,b.2.2.ak n⟩
   ·have l:=congrArg mL b.2.1;rw[a2,jb,jb,a2,yX,yX]at l;exact ba (eN _ _) (fv l)
   ·refine aY (b.2.1 ..)<|?_;show _=a.2.1++(nn s.length (a.1/128)++[_]).reverse;refine AN<|>bN<|>?_;rfl
  ·exact aY (b.2.1 ..)<|(dn _).symm
  ·refine AN<|>?_;rfl
 ·rw[if_pos (~~~ai 0x24f72a46318c6318c611771bc2d6b5ad6b5ad6b4fdb (iV.mp b))]at j;have g:(h.a1 e<|gI []++[.I (((d:Int).toNat&&&(127:Int).toNat:Nat):Int)]).U e=J (gI [dQ (d%128)]):=cg<|>HV<|>congrArg J (EI (hF:=[])<|rO (j2 _<|~~~_)<|~~~_);refine cc (av @k<|aC ⟨eH _,by decide⟩<|av @k ⟨by decide,?_⟩);refine z4 rfl (aC ⟨by decide,by decide⟩<|mG ⟨d/128+1,?_⟩);have o:cW (·=e) h _:=gb (x:=gI []++[.I (((d:Int).toNat&&&(127:Int).toNat:Nat):Int)]);refine Al (σ:=Nat×List UInt8) (λa=>[J (.I i),J (.I (a.1:Int)),J (.ah e),D,D]) (λy a f=>f.U e=J (gI a.2)/\(a.2++(dt a.1).reverse=(dt (d/128)++[dQ (d%128)]).reverse/\(cW (·=e) h f/\y=a.1))) (λy a f b C p P=>eh (λc=>?_)<|λc=>bc<|bc<|j f _ _ _ b.1 ?_ b.2.2.1) _ (d/128) (d/128,[dQ (d%128)]) _ (nN _) ⟨g,?_,o,rfl⟩
  ·refine Nl b.1 ?_ λr g n=>p (a.1/128) (a.1/128,_) r (b.2.2.2<|>AU (cz.mp c) (~~~_)) ⟨g,?_,b.2.2.1.ak n,rfl⟩
   ·have l:=congrArg mL b.2.1;rw[a2,jb,jb,a2]at l;exact ba (ba (eN _ _)<|fv l) (jd<|yW 8<|mO<|rO (cz.mp<|iV.mp (by assumption:¬(72057594037927936:Int)<=(d:Int)))<|~~~_)
   ·refine aY (b.2.1 ..)<|C1 (P2<|cz.mp c)<|>AN<|>bN<|>?_;rfl
  ·refine aY (b.2.1 ..)<|?_;have:a.1=0:=Nat.eq_zero_of_not_pos λx=>c (cz.mpr x);exact this<|>vP<|>(dn _).symm
  ·refine AN<|>?_;rfl
end
noncomputable def dq (a:Bool):Int:=if a then 13 else 5
noncomputable def cm (a:Bool):Nat:=if a then 8 else 12
theorem tf {a:Bool}:cm a<=12:=by cases a<;>decide
def im (d:aJ):Prop:=∀{c:w} {a:O->w->Prop} (b:Bool),a (.bs b) c->d 8 [.I (dq b)] c a
def n4 (c:aJ):Prop:=∀{b:w} {a:O->w->Prop} (d:Bool),a (.bs ag) b->c 9 [.I (dq d)] b a
def qG (d:aJ):Prop:=∀{c:w} {a:O->w->Prop} (b:Bool),a (.I (cm b:Int)) c->d 10 [.I (dq b)] c a
def xD (d:aJ):Prop:=∀{c:w} {b:O->w->Prop} {a:Nat},35<=a->b (.I ((a-35:Nat):Int)) c->d 11 [.I 13,.I (a:Int)] c b
noncomputable def it (a:Nat):Nat:=(a-12)/8-12
def xE (d:aJ):Prop:=∀{c:w} {b:O->w->Prop} {a:Nat},12<=a->b (.I (it a:Int)) c->d 12 [.I (a:Int)] c b
noncomputable def e7 (a b:Nat):Nat:=if b<=a-35 then b else if it a+(b-it a)%(a-4)<=a-35 then it a+(b-it a)%(a-4)else it a
theorem pM {a b:Nat}:e7 a b<=b:=by
 unfold e7;have:=Nat.mod_le (b-it a) (a-4);split
 ·exact cL _
 ·rename_i d;have:it a<=a-35:=by
   unfold it;have e:8*((a-12)/8)<=a-12:=lU _ _;generalize (a-12)/8=q at*;by_cases c:q<=12
   ·exact V (A0 c ..)<|dB _
   ·have c:=iC c;exact bP 0x10d334676840c574b9561a8b8c72 @e (iC ‹_›) aw (bL _ _) (bL _ _)
  split<;>(first|exact az 69515591511941 (iC d) ‹_›|exact aj 1220420839 (iC d) this)
theorem LX {b d:Nat}:e7 b d<=b-35:=by
 unfold e7;split
 ·assumption
 ·split
  ·assumption
  ·unfold it;exact pu (λc=>pu (λa=>bP 0xfff09ae762406d68b053c6173 c a (lU _ _)<|bL _ _) λa f=>ac 356498 a) λc e=>ac 356498 (BH<|aj 0xf98913a78bd1ee351f2 e (lU _ _)<|bL _ _)
def u1 (e:aJ):Prop:=∀{c:w} {b:O->w->Prop} {a d:Nat},64<=a->b (.I (e7 a d:Int)) c->e 13 [.I 13,.I (a:Int),.I (d:Int)] c b
structure au where
 bI:Int
 cU:List UInt8
 c6:Nat
variable{G w8:List au}
noncomputable def au.jz (a:Nat)(c:au):List UInt8:=c.cU.take (e7 a c.cU.length)
noncomputable def au.bQ (a:Nat)(c:au):List UInt8:=er c.cU.length++(er (fF c.bI)++(c.jz a++if c.c6=0 then []else bY 4 c.c6))
noncomputable def au.fu (a:Nat)(c:au):O:=.gd 0 [(0,.I 0),(1,.I c.bI),(2,.I (c.cU.length:Int)),(3,.aA (c.jz a)),(4,.I (c.c6:Int))]
structure au.dg (a:Nat) (c:au):Prop where
 bI:iM c.bI
 cU:c.cU.length<=a
 c6:c.c6<4294967296
 oG:c.c6=0↔e7 a c.cU.length=c.cU.length
noncomputable def dO (c:Nat)(a:Int):List UInt8:=bY 4 c++er (fF a)
theorem au.tk {a:Nat}{c:au}:(c.jz a).length=e7 a c.cU.length:=Pw pM
def sk (h:aJ):Prop:=∀{g:w} {b:O->w->Prop} {a d c e f:O},b (.gd 0 [(0,a),(1,d),(2,c),(3,e),(4,f)]) g->h 0 [a,d,c,e,f] g b
def vc (e:aJ):Prop:=∀{d:w} {a:O->w->Prop} {b:Nat} {c:au},a (.I ((c.cU.length-e7 b c.cU.length:Nat):Int)) d->e 62 [c.fu b] d a
def vd (f:aJ):Prop:=∀{d:w} {b:O->w->Prop} {a:Nat} {c:au},a<=128->c.dg a->(∀e,d.ar e->b (.aA<|c.bQ a) e)->f 63 [c.fu a,.I 13] d b
def nY (h:aJ):Prop:=∀{d:w} {f:O->w->Prop} {v:O} {b:List UInt8} {i:Int} {e a:Nat} {c:au},a=64\/a=128->i=(e:Int)->d6 d b v->b.length=a->c.dg a->bA b e (c.bQ a)->(∀g,d.ar g->f (.ce [c.fu a,.I ((e+(c.bQ a).length:Nat):Int)]) g)->h 14 [v,.I i,.I 13,.I (a:Int)] d f
def qH (g:aJ):Prop:=∀{b:w} {e:O->w->Prop} {v u:O} {f:List UInt8} {i:Int} {d c:Nat} {a:Int},i=(d:Int)->d6 b f v->c<4294967296->iM a->bA f d (dO c a)->(e (.ce [.gd 0 [(0,.I (c:Int)),(1,.I a),(2,.I 0),(3,.aA []),(4,.I 0)],.I ((d+(dO c a).length:Nat):Int)]) b)->g 14 [v,.I i,.I 5,u] b e
section
variable {F N:aJ}
theorem acn:im (bB F N):=λ{c b} a q=>by cases a<;>exact q
theorem acx:n4 (bB F N):=λ{c b} a q=>by cases a<;>exact q
theorem aaT (b:im F):qG (bB F N):=λ{d c} a q=>b a (by cases a<;>exact q)
theorem aa0:xD (bB F N):=λ{e d a} c q=>by have b:((a-35:Nat):Int)=(a:Int)-35:=dW (ac 0x1a918865dc8bb3e<|ay<|ai 22234833418 c) (ac 0x1b949fbe750ceb0 aw);rw[b]at q;exact q
theorem aa1:xE (bB F N):=λ{g d a} e q=>by
 refine aC ⟨by decide,by decide,by decide⟩ ?_;have b:(if(0:Int)<((a:Int)-12)/8-12 then((a:Int)-12)/8-12 else 0)=(it a:Int):=by
  have b:((a:Int)-12)/8=(((a-12)/8:Nat):Int):=congrArg (·/8) (OV e).symm;unfold it;refine b<|>?_;by_cases c:12<(a-12)/8
  ·exact(if_pos<|Int.sub_pos_of_lt<|cz.mpr c).trans (OV<|gY c).symm
  ·exact A0 (kO.mp c)<|>if_neg λf=>c (cz.mp<|Int.lt_of_sub_pos f)
 show d (.I (if(0:Int)<((a:Int)-12)/8-12 then((a:Int)-12)/8-12 else 0)) g;exact b<|>q
theorem aa2 (g:xD F)(h:xE F):u1 (bB F N):=λ{k j a b} d q=>by
 have f:it a<=a-35:=by unfold it;exact bP 0xa853edcdd01866a26f09bb20e1a1cc95069 d (bL _ _) aw (lU _ _) (bL _ _)
 unfold e7 at q;refine bU J7 [J (.I 13),J (.I (a:Int)),J (.I (b:Int)),D,D,D,D] rfl rfl (aF<|g (ba (~~~_) d)<|bx<|eh (λc=>?_)<|λc=>?_)
 ·rw[if_pos (eM.mp c)]at q;exact bH q
 ·have c:¬b<=a-35:=λx=>c (eM.mpr x);rw[if_neg c]at q;have e:((it a:Nat):Int)+(((b:Nat):Int)-(it a:Nat))%((a:Int)-4)=((it a+(b-it a)%(a-4):Nat):Int):=by refine aY (E7 (ba f<|Nat.le_of_not_le c) ..)<|V (show(a:Int)-4=((a-4:Nat):Int)from(E7<|ba (~~~_) d).symm)<|?_;rfl
  generalize i:it a=l at q f e;refine cI ?_;intro m;refine bc (aF<|h (ba (~~~_) d)<|aF<|aC (~~~ai 85047146319548 d) ?_);refine iy (bV:=[J (.I 13),J (.I (a:Int)),J (.I (b:Int)),J (.I ((a-35:Nat):Int)),J (.I (l:Int)),J (.I ((l+(b-l)%(a-4):Nat):Int)),D]) (by refine aY (e ..)<|aY (i ..)<|?_;rfl) (bx<|eh (λx=>?_)<|λx=>?_)
  ·rw[if_pos (eM.mp x)]at q;exact bH q
  ·rw[if_neg (λy=>x<|eM.mpr y)]at q;exact bc (bH q)
theorem Ze:sk (rn F N):=λ{g b a d c e f} q=>aC rfl q
theorem ab0:vc (bB F N):=λ{e b a c} q=>by
 have d:((c.cU.length:Int)-((c.jz a).length:Int))=((c.cU.length-e7 a c.cU.length:Nat):Int):=by refine au.tk<|>?_;have:=@pM a c.cU.length;exact dW (aj 2321420436608 aw) (aj 2322931884226<|ay (ac 354984 this))
 show b (.I<|(c.cU.length:Int)-((c.jz a).length:Int)) e;exact d<|>q
theorem afg (a:g<=Q)(b:Q<=128):fF (g:Int)=g:=Ol (eo (ba a b)<|~~~_)
theorem yc {a b x:List UInt8}{c l:Nat}(e:a.length<=c)(f:b.length<=l)(d:c+l<=1000):(a++b).length<=c+l/\a.length+b.length<=b5:=by refine a2<|>?_;have:=ul e f;exact⟨this,ct (ba this d)⟩
theorem ab1 (h:pj F)(m:m7 F)(n:im F):vd (bB F N):=λ{x t a c} i b q=>by
 have e:=@yc [] (er c.cU.length) [] 0 9 (cL _) oE.2 (~~~_);have f:=@yc _ (er<|fF c.bI) [] _ 9 e.1 oE.2 (~~~_);have g:=@yc _ (c.jz a) [] _ 128 f.1 (by exact au.tk<|>ba pM (ba b.cU i)) (~~~_);have o:c.bQ a=[]++er c.cU.length++er (fF c.bI)++c.jz a++(if c.c6=0 then []else bY 4 c.c6):=by unfold au.bQ;exact gW<|>bN<|>bN<|>rfl
 rw[o]at q;refine bU I1 [J (c.fu a),J (.I 13),D,D] rfl rfl (aF<|bx<|n ag<|bc<|bx<|bc<|aF<|h (afg b.cU i) λy j=>?_);refine aC e.2<|bx (aF<|h rfl λr k=>?_);refine aC f.2 (bc<|aF ?_);refine aC g.2 (bx ?_);refine rd (λd=>?_) (λd=>?_)
 ·rw[if_neg (λl=>d<|congrArg jF l)]at q;refine cI ?_;intro z;refine aF (m b.c6 λs p=>?_);exact aC (@yc _ (bY 4 c.c6) [] _ 4 g.1 (fv cC)<|~~~_).2 (bc<|bH<|q s<|j.ak<|k.ak p)
 ·rw[if_pos (iW.mp d),dn]at q;exact bc (bH<|q r<|j.ak k)
theorem yJ (a:bA Z g n8)(b:g+n8.length<=Z.length):dp Z g (g+n8.length)=n8:=by
 unfold dp;refine Fe λi=>nI<|>?_;by_cases c:i<n8.length
 ·exact rG (um c g)<|>a i c
 ·exact p5 (eT c)<|>List.getElem?_take_eq_none (~~~aj 14410118450 (eT c))<|>rfl
theorem yE:h2 g (Q:Int)=min Q g:=by unfold h2;exact if_neg (gk.mpr<|eH Q)<|>E6 (Int.le_min.mpr ⟨eH Q,eH g⟩)<|>(AW Q g).elim (λa=>by refine OP (eM.mpr a)<|>gZ a<|>?_;rfl) λa=>by refine Int.min_eq_right (eM.mpr a)<|>rR a<|>?_;rfl
theorem q0 {a k:Nat}(b:k<=a):h2 a (k:Int)=k:=yE.trans (gZ b)
theorem Eh {b r:List UInt8}{v:O}{i j:Int}{c e:Nat}(k:d6 W b v)(t:i=(c:Int))(x:j=(e:Int))(n:bA b c r)(s:e=c+r.length)(d:e<=b.length)(p:b.length<=1000)(q:∀g l,W.ar g->d6 g r l->(∀{m:O->w->Prop},m (.aA r) g->vx l g m)->S l g):kJ v (.I i) (.I j) W S:=by
 subst s t x;have y:c<=b.length:=ba (eN _ _) d;have o:∀{h:Nat->Nat->Prop},h c (c+r.length)->k6 b.length (.I (c:Int)) (.I ((c+r.length:Nat):Int)) h:=λ{h} f=>by show h (h2 b.length _) (h2 b.length _);exact q0 y<|>q0 d<|>f
 refine y4 k ?_ λa k=>?_
 ·have:=@o λA e=>S (.aA<|dp b A e) W;rw[yJ n d]at this;exact this (q W _ .cf rfl λf=>f)
 ·refine kY k (o ?_);exact yJ n d<|>⟨ct<|ba (ba (mP _ _) d) p,λC z=>q _ _ (Dg z) mF λf=>kY mF f⟩
theorem ED {a x:Nat}(b:0<a):bY a x≠[]:=λc=>by rw[<-@cC a x,c]at b;cases b
theorem EQ {x:Nat}:er x≠[]:=λa=>by have:=(@oE x).1;rw[a]at this;cases this
theorem aa4 (h:pk F)(j:qJ F)(k:n0 F)(l:im F)(m:sk N):qH (bB F N):=λ{y x v u f i p c e} r b o s a q=>by subst r;have d:=bA.ar a.i5 (ED<|~~~_);rw[cC]at d;have t:=zY s;unfold dO at q a;rw[a2,cC,<-iB]at q;have n:bA f (p+4) (er (fF e)++[]):=dn<|>a.nA;exact bU CD [J v,J (.I (p:Int)),J (.I 5),J u,D,D,D,D,D,D,D,D] rfl rfl (aF<|aF<|aF<|bx<|l ap<|bx<|op b<|fN (λg=>eI _<|ef (cz.mp g) d)<|bc<|aF<|k rfl b a.i5 o<|aF<|bc<|bx<|ft<|h (p:=p+4) rfl b n (p0 (rz e) [])<|bH<|j t<|m q)
theorem aa3 (G:pk F)(S:qJ F)(T:n0 F)(W:im F)(R:u1 F)(Z:sk N):nY (bB F N):=λ{d' C v h i f a c} a9 c9 g b' t d q=>by
 subst c9;have y:64<=a/\a<=128:=a9.elim (λe=>by exact e<|>⟨by decide,by decide⟩) λe=>by exact e<|>⟨by decide,by decide⟩
 have c8:h.length<=1000:=b'▸ba y.2 (~~~_);have c':c.cU.length<18446744073709551616:=eo (ba t.cU y.2) (~~~_);have b:f+(c.bQ a).length<=h.length:=bA.ar d (AC EQ _);have n:=@au.tk a c;have E:f+(c.bQ a).length=f+(er c.cU.length).length+(er<|fF c.bI).length+e7 a c.cU.length+(if c.c6=0 then []else bY 4 c.c6).length:=by unfold au.bQ;refine a2<|>a2<|>a2<|>n<|>?_;simp-iota only[iB]
 rw[E]at b q;clear E;have a':bA h f (er c.cU.length++[]):=dn<|>d.i5;have b8:bA h (f+(er c.cU.length).length) (er (fF c.bI)++[]):=dn<|>d.nA.i5;have d:=d.nA.nA;unfold au.fu at q;refine bU CD [J v,J (.I (f:Int)),J (.I 13),J (.I (a:Int)),D,D,D,D,D,D,D,D] rfl rfl (aF<|aF<|aF<|bx<|W ag ?_);refine bc (bx ?_);refine cI ?_;intro Q;refine bc (ft<|G rfl g a' (p0 c' []) ?_);refine bx<|ft (G rfl g b8 (p0 (rz c.bI) []) ?_);refine aF (S (zY t.bI) ?_);refine bc (aF<|R y.1 ?_);generalize f+(er c.cU.length).length+(er<|fF c.bI).length=M at*;have P:=t.oG;have d8:=@pM a c.cU.length;generalize e7 a c.cU.length=p at*;generalize c.bI=l at*;generalize c.cU.length=z at*;refine aF (Eh (r:=c.jz a) (e:=M+p) g rfl (p1 _ _) d.i5 (by exact n<|>rfl) (ba (eN _ _) b) c8 λs e8 k d9 b9=>b9<|aF ?_);refine iy (bV:=[J v,J (.I ((M+p:Nat):Int)),J (.I 13),J (.I (a:Int)),J (.I 0),J (.I l),J (.I 0),J (.I (fF l:Int)),J (.I (z:Int)),J (.I (p:Int)),J (.aA<|c.jz a),D]) rfl ?_;generalize c.jz a=K at*;have H:∀{m:Nat} {A:Int},m<=h.length->C (.ce [.gd 0 [(0,.I 0),(1,.I l),(2,.I (z:Int)),(3,.aA K),(4,.I A)],.I (m:Int)]) s->a6 (bn F N) Ie.aP.aP.aP.aP.aP.aP.aP.aP.aP.aP.aP [J v,J (.I (m:Int)),J (.I 13),J (.I (a:Int)),J (.I 0),J (.I l),J (.I A),J (.I (fF l:Int)),J (.I (z:Int)),J (.I (p:Int)),J (.aA K),D] s (dI C):=by intro m A a8 q;refine b3 ?_;intro e9 Q e';refine bx (op (g.ar k) ?_);exact fN (λj=>eI _<|ef (cz.mp j) a8)<|fN (λj=>eI _<|n▸cz.mp j)<|bc (bH<|Z q)
 refine bx (eh (λe=>?_)<|λe=>?_)
 ·have o:c.c6≠0:=λx=>by rw[P.mp x]at e;exact Aw _ e
  rw[if_neg o]at d q b;rw[cC]at q b;refine cI ?_;intro Q;refine bx (op (g.ar k) ?_);refine fN (λj=>eI _<|ef (cz.mp j) b)<|bc (aF<|T rfl (g.ar k) (n▸d.nA) t.c6 ?_);exact aF (bc<|bc<|H b<|q s k)
 ·have o:c.c6=0:=P.mpr (bo d8<|eT λx=>e<|cz.mpr x);rw[if_pos o]at q b;rw[o]at q;exact bc (H b<|q s k)
end
noncomputable def bd (v:O)(c a b:Nat):O:=.gd 1 [(5,v),(6,.I (c:Int)),(7,.I (a:Int)),(8,.I (b:Int))]
noncomputable def lI (a:Bool):UInt8:=if a then 13 else 5
theorem De (a:Bool):((lI a).toNat:Int)=dq a:=by cases a<;>rfl
def m6 (f:aJ):Prop:=∀{a:w} {b:O->w->Prop} {v:O} {h g d:Nat} {e:List UInt8} (c:Bool),d6 a e v->e[d]?=J (lI c)->b (.I<|dq c) a->f 64 [bd v h g d] a b
def pq (f:aJ):Prop:=∀{a:w} {b:O->w->Prop} {v:O} {h g d:Nat} {e:List UInt8} (c:Bool),d6 a e v->e[d]?=J (lI c)->b (.bs c) a->f 65 [bd v h g d] a b
def sy (e:aJ):Prop:=∀{a:w} {b:O->w->Prop} {v:O} {h f c:Nat} {d:List UInt8} (g:Bool),d6 a d v->d[c]?=J (lI g)->b (.bs ag) a->e 66 [bd v h f c] a b
def jn (f:aJ):Prop:=∀{a:w} {c:O->w->Prop} {v:O} {h g d b:Nat} {e:List UInt8},d6 a e v->bA e (d+3) (bY 2 b)->b<65536->c (.I (b:Int)) a->f 67 [bd v h g d] a c
def n1 (f:aJ):Prop:=∀{b:w} {c:O->w->Prop} {v:O} {h g a:Nat} {e:List UInt8} (d:Bool),d6 b e v->e[a]?=J (lI d)->c (.I ((a+cm d:Nat):Int)) b->f 68 [bd v h g a] b c
def mc (f:aJ):Prop:=∀{a:w} {c:O->w->Prop} {v:O} {h g d b:Nat} {e:List UInt8},d6 a e v->bA e (d+5) (bY 2 b)->b<65536->c (.I (b:Int)) a->f 69 [bd v h g d] a c
def pr (f:aJ):Prop:=∀{a:w} {b:O->w->Prop} {v:O} {h g c:Nat} {e:UInt8} {d:List UInt8},d6 a d v->d[c+7]?=J e->b (.I (e.toNat:Int)) a->f 70 [bd v h g c] a b
def xV (f:aJ):Prop:=∀{a:w} {c:O->w->Prop} {v:O} {h g d b:Nat} {e:List UInt8},d6 a e v->bA e (d+8) (bY 4 b)->b<4294967296->c (.I (b:Int)) a->f 71 [bd v h g d] a c
def xW (d:aJ):Prop:=∀{a:w} {b:O->w->Prop} {v:O} {g e f:Nat} {c:List UInt8},d6 a c v->b (.aA c) a->d 72 [bd v g e f] a b
structure fA (g b:Nat) (c:List UInt8) (f:Bool) (e:List (List UInt8)) (d:List Nat):Prop where
 aH:c.length=g
 ee:c[b]?=J (lI f)
 hu:bA c (b+3) (bY 2 e.length)
 eQ:d.length=e.length
 iL:b+cm f+2*e.length<=g
 k4:∀(i a:Nat),d[i]?=J a->bA c (b+cm f+2*i) (bY 2 a)
 dA:∀(i a:Nat) (h:List UInt8),d[i]?=J a->e[i]?=J h->bA c a h
 de:∀a,a∈d->b+cm f+2*e.length<=a
 dt:∀a,a∈d->a+4<=g
section
variable {aa b1:Nat}{d:List UInt8}{b:Bool}{uN:List (List UInt8)}{cw:List Nat}
theorem fA.q1 (a:fA aa b1 d b uN cw)(c:aa<=128):uN.length<65536:=by have:=a.iL;exact az 0xd17ca5b1eb30bf2816f2f4 c this
theorem fA.zH (a:fA aa b1 d b uN cw)(c:aa<=128)(e:g∈cw):g<65536:=by have:=a.dt g e;exact ac 0x1a07ed8c9d75f2b8 c this
theorem fA.rq (c:fA aa b1 d b uN cw){i:Nat}(a:uN[i]?=J Z):∃e,cw[i]?=J e:=⟨_,du<|by exact c.eQ<|>(dv.mp a).1⟩
end
def n2 (h:aJ):Prop:=∀{b:w} {c:O->w->Prop} {v:O} {k a d i f:Nat} {e:List UInt8} {j:Bool} {l:List (List UInt8)} {g:List Nat},d6 b e v->fA a d e j l g->a<=128->g[i]?=J f->c (.I (f:Int)) b->h 73 [bd v k a d,.I (i:Int)] b c
def qN (j:aJ):Prop:=∀{b:w} {d:O->w->Prop} {v:O} {k a e i:Nat} {c:au} {f:List UInt8} {h:List (List UInt8)} {l:List Nat},d6 b f v->fA a e f ag h l->a=64\/a=128->h[i]?=J (c.bQ a)->c.dg a->(∀g,b.ar g->d (c.fu a) g)->j 74 [bd v k a e,.I (i:Int)] b d
def ve (j:aJ):Prop:=∀{b:w} {d:O->w->Prop} {v:O} {k a e i:Nat} {c:au} {f:List UInt8} {h:List (List UInt8)} {l:List Nat},d6 b f v->fA a e f ag h l->a=64\/a=128->h[i]?=J (c.bQ a)->c.dg a->(∀g,b.ar g->d (.aA<|c.bQ a) g)->j 75 [bd v k a e,.I (i:Int)] b d
def sA (h:aJ):Prop:=∀{b:w} {d:O->w->Prop} {v:O} {j a e i:Nat} {c:au} {f:List UInt8} {g:List (List UInt8)} {k:List Nat},d6 b f v->fA a e f ag g k->a<=128->g[i]?=J (c.bQ a)->c.dg a->d (.I c.bI) b->h 77 [bd v j a e,.I (i:Int)] b d
def xX (j:aJ):Prop:=∀{d:w} {e:O->w->Prop} {v:O} {k a f i c:Nat} {b:Int} {g:List UInt8} {h:List (List UInt8)} {l:List Nat},d6 d g v->fA a f g ap h l->a<=128->h[i]?=J (dO c b)->iM b->e (.I b) d->j 77 [bd v k a f,.I (i:Int)] d e
def sB (h:aJ):Prop:=∀{b:w} {d:O->w->Prop} {v:O} {j a e i c:Nat} {k:Int} {f:List UInt8} {g:List (List UInt8)} {l:List Nat},d6 b f v->fA a e f ap g l->a<=128->g[i]?=J (dO c k)->c<4294967296->d (.I (c:Int)) b->h 78 [bd v j a e,.I (i:Int)] b d
def sC (g:aJ):Prop:=∀{d:w} {Q:O->w->Prop} {v:O} {bf a b e:Nat} {c:List UInt8} {f:List (List UInt8)} {h:List Nat},d6 d c v->fA a b c ap f h->a<=128->bA c (b+8) (bY 4 e)->e<4294967296->Q (.I (e:Int)) d->g 78 [bd v bf a b,.I (f.length:Int)] d Q
section
variable {F N:aJ}
theorem TX {v:O}(a:d6 W Z v)(q:S (.aA Z) W):vx v W S:=y4 a q λb a=>kY a q
theorem ab2:m6 (bB F N):=λ{i g v f a c h} b d e q=>by refine bU Jd [J (bd v f a c),D,D] rfl rfl (aF<|ru d rfl e ?_);refine De<|>?_;cases b<;>(refine bx<|bc ?_;exact bH q)
theorem ab3 (e:im F)(d:m6 F):pq (bB F N):=λ{k i v h b c j} a f g q=>bU Jb [J (bd v h b c),D] rfl rfl (bH<|d a f g<|e a q)
theorem ab4 (e:n4 F)(d:m6 F):sy (bB F N):=λ{k i v h b c j} a f g q=>bU Jc [J (bd v h b c),D] rfl rfl (bH<|d a f g<|e a q)
theorem ab5 (d:jm F):jn (bB F N):=λ{j h v g a b k i} e c f q=>bU I7 [J (bd v g a b),D] rfl rfl (bH<|d rfl e c f q)
theorem ab6:n1 (bB F N):=λ{i g v f a c h} b d e q=>by
 refine bU Jg [J (bd v f a c),D] rfl rfl (bx<|ru d rfl e ?_);refine De<|>?_;cases b
 ·exact bc<|bH q
 ·exact bH q
theorem ab7 (d:jm F):mc (bB F N):=λ{j h v g a b k i} e c f q=>bU I6 [J (bd v g a b),D] rfl rfl (bH<|d rfl e c f q)
theorem acb:pr (bB F N):=λ{i f v e a b h g} d c q=>bU Ja [J (bd v e a b),D] rfl rfl (bH<|ru d rfl c q)
theorem acc (d:n0 F):xV (bB F N):=λ{j h v g a b k i} e c f q=>bU Jj [J (bd v g a b),D] rfl rfl (bH<|d rfl e c f q)
theorem acd:xW (bB F N):=λ{g e v d a b f} c q=>bU Je [J (bd v d a b),D] rfl rfl (bH<|TX c q)
theorem Dm {a:Type}{l:List a}{i:Nat}{x:a}(b:l[i]?=J x):x∈l:=dT b
theorem ace (n:jm F)(h:jn F)(o:n1 F):n2 (bB F N):=λ{G C v x m g i e E f y H} d a j c q=>by have l:=a.q1 j;have r:i<y.length:=a.eQ▸(dv.mp c).1;have s:=a.zH j (Dm c);have t:=a.de e (Dm c);have p:=a.dt e (Dm c);refine bU Jf [J (bd v x m g),J (.I (i:Int)),D,D,D] rfl rfl (bx ?_);refine h d a.hu l<|fN (λb=>eI _<|ef r<|eM.mp b)<|bc (aF<|o f d a.ee ?_);refine cl ?_;intro z A;refine aF (aC (.inl ⟨by decide,by decide⟩)<|n (k:=g+cm f+2*i) rfl d (a.k4 i e c) s ?_);refine cl ?_;intro z A;refine bx (h d a.hu l<|aC (.inl ⟨by decide,by decide⟩) ?_);exact fN (λb=>eI _<|ef (cz.mp b) t)<|fN (λb=>eI _<|ef (cz.mp b) p)<|bc (bH q)
theorem co (a:g=64\/g=128):g<=128:=by rcases a with rfl|rfl<;>decide
theorem acf (j:nY F)(k:m6 F)(m:n2 F):qN (bB F N):=λ{x s v r g h i c t z y} b a d e o q=>by refine aW (a.rq e) λp f=>bU I4 [J (bd v r g h),J (.I (i:Int)),D,D,D] rfl rfl (ft<|m b a (co d) f ?_);refine k ag b a.ee (j d rfl b a.aH o (a.dA i p _ f e) λn l=>?_);exact bH (q n l)
theorem acg (n:nY F)(o:m6 F)(p:n2 F):ve (bB F N):=λ{E A v z f k i c m K H} b a d g y q=>by refine aW (a.rq g) λj h=>?_;have e:=a.dA i j _ h g;have s:j+(c.bQ f).length<=m.length:=bA.ar e (AC EQ _);refine bU Jh [J (bd v z f k),J (.I (i:Int)),D,D,D,D] rfl rfl (aF<|p b a (co d) h ?_);refine ft (o ag b a.ee<|n d rfl b a.aH y e λG l=>?_);refine cI ?_;intro P;refine bH (Eh (b.ar l) rfl rfl e rfl s (a.aH▸ba (co d) (~~~_)) λx M t C r=>r ?_);exact q x (l.ak t)
theorem aci (f:pk F)(o:qJ F)(p:m6 F)(r:n2 F):sA (bB F N):=λ{A z v y m n i c e E C} b a g j l q=>by refine aW (a.rq j) λd k=>?_;have h:=a.dA i d _ k j;have s:bA e d (er c.cU.length++[]):=dn<|>h.i5;have t:bA e (d+(er c.cU.length).length) (er (fF c.bI)++[]):=dn<|>h.nA.i5;have x:c.cU.length<18446744073709551616:=eo (ba l.cU g) (~~~_);refine bU CA [J (bd v y m n),J (.I (i:Int)),D,D,D,D] rfl rfl (aF<|r b a g k ?_);refine cI ?_;intro G;refine bx (p ag b a.ee ?_);refine bc (ft<|f rfl b s (p0 x []) ?_);refine ft (f rfl b t (p0 (rz c.bI) []) ?_);exact bH (o (zY l.bI) q)
theorem acj (k:pk F)(l:qJ F)(m:m6 F)(n:n2 F):xX (bB F N):=λ{y x v t g h i c f j A z} b a o d s q=>by refine aW (a.rq d) λp e=>?_;have r:bA j (p+4) (er (fF f)++[]):=dn<|>(a.dA i p _ e d).nA;refine bU CA [J (bd v t g h),J (.I (i:Int)),D,D,D,D] rfl rfl (aF<|n b a o e ?_);refine cl ?_;intro C E;refine bx (m ap b a.ee ?_);refine ft (k (p:=p+4) rfl b r (p0 (rz f) []) ?_);exact bH (l (zY s) q)
theorem ack (k:n0 F)(l:jn F)(m:n2 F):sB (bB F N):=λ{x r v p g h i c t s z y} b a e d n q=>by refine aW (a.rq d) λo f=>bU Cz [J (bd v p g h),J (.I (i:Int)),D] rfl rfl (bx<|l b a.hu (a.q1 e) ?_);exact fN (λj=>eI _<|iW.mp j▸(dv.mp d).1)<|bc (bH<|m b a e f<|k rfl b (a.dA i o _ f d).i5 n q)
theorem acl (e:jn F)(f:xV F):sC (bB F N):=λ{n l v j c d p m k o} b a g i h q=>by refine bU Cz [J (bd v j c d),J (.I (k.length:Int)),D] rfl rfl (bx<|e b a.hu (a.q1 g) ?_);exact pI rfl (bH<|f b i h q)
end
abbrev bF:=Nat×Nat
variable{t C8:List bF}{i Q9:bF}
noncomputable def gL (a:List bF):Nat:=(a.map (·.2)).sum
abbrev nc (x y:bF):Prop:=x.1+x.2<=y.1\/y.1+y.2<=x.1
theorem gM {x:bF}:gL (x::t)=x.2+gL t:=rfl
theorem Yb:gL (t++C8)=gL t+gL C8:=by unfold gL;exact cD<|>AQ<|>rfl
theorem Yc (c:t.Perm C8):gL t=gL C8:=by
 induction c with
 |nil=>rfl|cons x _ d=>exact gM<|>gM<|>d<|>rfl|swap x y l=>exact gM<|>gM<|>gM<|>gM<|>PR<|>rfl|trans _ _ a b=>exact a.trans b
theorem Yd (c:bF->Bool){a:List bF}:gL (a.filter c)+gL (a.filter λx=>!c x)=gL a:=by
 induction a with
 |nil=>exact rfl|cons x a d=>
  have:=d;cases b:c x
  ·exact V (uf (by rw[b];exact rD) ..)<|V (wM (by rw[b];rfl) ..)<|V (gM ..)<|V (gM ..)<|aY (this ..)<|PR<|>rfl
  ·exact V (wM b ..)<|V (uf (by rw[b];exact rD) ..)<|V (gM ..)<|V (gM ..)<|aY (this ..)<|iB<|>rfl
theorem yb:∀(g:Nat) (b:List bF) (c d:Nat),b.length<=g->c<=d->(∀x∈b,c<=x.1/\x.1+x.2<=d)->b.Pairwise nc->gL b+c<=d
 |_,[],c,d,_,e,_,_=>by exact V (show gL []=0 from rfl)<|jG<|>e
 |0,_::_,_,_,e,_,_,_=>absurd e (rU _)|g+1,x::b,c,d,e,o,h,m=>by have k:=h x (.head _);have⟨n,j⟩:=es.mp m;have a:=yb g (b.filter λy=>dk (y.1+y.2<=x.1)) c x.1 (ba (Fo _ _)<|qe e) k.1 (λy f=>⟨(h y<|.tail _ (uh.mp f).1).1,of_decide_eq_true (uh.mp f).2⟩) (j.filter _);have l:=yb g (b.filter λy=>!dk (y.1+y.2<=x.1)) (x.1+x.2) d (ba (Fo _ _)<|qe e) k.2 (λy f=>by have i:=(uh.mp f).2;rw[As,decide_eq_false_iff_not]at i;exact⟨(n y (uh.mp f).1).resolve_right i,(h y<|.tail _ (uh.mp f).1).2⟩) (j.filter _);exact gM<|>fJ 0x96c474de274dc15dff4c51e8 a l (@Yd (λy=>dk (y.1+y.2<=x.1)) b)
structure ez (c b:Nat) (a:List bF) (d:Nat):Prop where
 fT:∀x∈a,4<=x.2
 de:∀x∈a,c<=x.1
 dt:∀x∈a,x.1+x.2<=b
 oj:a.Pairwise nc
 bM:gL a+d+c=b
theorem RR {x y:bF}(a:nc x y):nc y x:=a.symm
section
variable {c aa f:Nat}{g4 GO R:List bF}{x y:bF}
theorem ez.iS (a:ez c aa g4 f)(d:g4.Perm GO):ez c aa GO f:=⟨λx b=>a.fT x<|d.mem_iff.mpr b,λx b=>a.de x<|d.mem_iff.mpr b,λx b=>a.dt x<|d.mem_iff.mpr b,d.pairwise a.oj RR,by exact aY (Yc d ..)<|a.bM⟩
theorem ez.YZ (e:ez c aa (x::y::R) f)(h:x.1+x.2<=y.1)(q:y.1<x.1+x.2+4):y.1-(x.1+x.2)<=f/\ez c aa ((x.1,y.1+y.2-x.1)::R) (f-(y.1-(x.1+x.2))):=by
 have⟨r,s⟩:=es.mp e.oj;have⟨t,z⟩:=es.mp s;have o:=e.de x (.head _);have p:=e.dt y (.tail _<|.head _);have j:=e.fT x (.head _);have k:((x.1,y.1+y.2-x.1)::R).Pairwise nc:=es.mpr ⟨λb d=>by have a:=r b (.tail _ d);have g:=t b d;show x.1+(y.1+y.2-x.1)<=b.1\/_;refine mN (ba (ba (eN _ _) @h)<|eN _ _)<|>?_;exact a.elim (λ(a:x.1+x.2<=b.1)=>g.elim .inl λ(g:b.1+b.2<=y.1)=>wI<|by exact bP 0x178516eb56fab2a9106b75500ee38846950d78ad6fcfa1165b @q (e.fT b<|.tail _<|.tail _ d) a g) .inr,z⟩;have n:∀b∈((x.1,y.1+y.2-x.1)::R),c<=b.1:=λb d=>by
  rcases dE.mp d with rfl|d
  ·exact o
  ·exact e.de b (.tail _<|.tail _ d)
 have l:∀b∈((x.1,y.1+y.2-x.1)::R),b.1+b.2<=aa:=λb d=>by
  rcases dE.mp d with rfl|d
  ·dsimp-iota only;exact bP 0xa47cbabfb83c0a24 p (ay<|az 0xa31e25ee3950 @h j)
  ·exact e.dt b (.tail _<|.tail _ d)
 have g:=yb _ _ c aa (cL _) (~~~dN 0x2ade62355f7524dce54 @h o p j) (λb m=>⟨n b m,l b m⟩) k;have i:=e.bM;rw[gM]at g;rw[gM,gM]at i;dsimp-iota only at g;refine⟨by exact nd 0x863cff40fabfb5e03b762a603070da0d904fc g i aw<|ay<|aj 25563529852 @h,λb d=>?_,n,l,k,by refine gM<|>?_;dsimp-iota only;exact bo (px 0x5273a82c67df2c53470395ca0a14dd3293b0af5960 i aw (ay<|az 0xa31e25ee3950 @h j)<|ay<|nd 0x863cff40fabfb5e03b762a603070da0d904fc g i aw<|ay<|aj 25563529852 @h)<|px 0x461fb35651981803a6200ac76ef03236b5dd54b3a5 i aw aw<|ay<|aj 25563529852 @h⟩;rcases dE.mp d with rfl|d
 ·dsimp-iota only;exact bP 0x139bf938051b20a4bc @h j aw
 ·exact e.fT b (.tail _<|.tail _ d)
theorem ez.W0 (d:ez c aa (x::R) f)(m:x.1<c+4):x.1-c<=f/\ez (x.1+x.2) aa R (f-(x.1-c)):=by
 have⟨n,l⟩:=es.mp d.oj;have i:=d.de x (.head _);have k:∀b∈R,x.1+x.2<=b.1:=λb e=>by have a:=n b e;have h:=d.de b (.tail _ e);exact a.elim id λ(a:b.1+b.2<=x.1)=>absurd (ef @m<|ba (ul h<|d.fT b<|.tail _ e) a) (eI _)
 have h:=yb _ R (x.1+x.2) aa (cL _) (d.dt x<|.head _) (λb j=>⟨k b j,d.dt b<|.tail _ j⟩) l;have g:=d.bM;rw[gM]at g;exact⟨by exact fJ 0x822f1df7f9cb74b6ecf96dde h g<|ay<|ac 354984 i,λb e=>d.fT b<|.tail _ e,k,λb e=>d.dt b<|.tail _ e,l,by exact bo (me 0x235a68328c9cce5153c011c7544f2 g aw<|ay<|fJ 0x822f1df7f9cb74b6ecf96dde h g<|ay<|ac 354984 i)<|me 0x3a5ccdf72504821da5eb663e48f3 g aw<|ay<|ac 354984 i⟩
theorem ez.RM (d:ez c aa R f)(i:4<=g)(e:g<=c):ez (c-g) aa ((c-g,g)::R) f:=by
 have h:=d.bM;refine⟨λb a=>?_,λb a=>?_,λb a=>?_,es.mpr ⟨λb a=>.inl (by have:=d.de b a;dsimp-iota only;exact az 69515591517428 this<|ay<|ac 354984 e),d.oj⟩,by refine gM<|>?_;dsimp-iota only;exact bo (dN 0x22e0f1e1b8c89b6bce596 h<|ay<|ac 354984 e)<|dN 0x2b8f1e17b889b0abce597 h aw⟩<;>rcases dE.mp a with rfl|a
 ·exact i
 ·exact d.fT b a
 ·exact cL _
 ·have:=d.de b a;exact aj 1220420838 this (bL _ _)
 ·dsimp-iota only;exact dN 0x23b0c8c89b6bce596 h (ay<|ac 354984 e)
 ·exact d.dt b a
theorem ez.aem {l g:Nat}(d:ez c aa (x::R) f)(e:x.2=l+g)(n:4<=l)(h:4<=g):ez c aa ((x.1,l)::(x.1+l,g)::R) f:=by
 have⟨m,o⟩:=es.mp d.oj;have i:=d.bM;have k:=d.de x (.head _);have j:=d.dt x (.head _);refine⟨λb a=>?_,λb a=>?_,λb a=>?_,es.mpr ⟨λb a=>?_,es.mpr ⟨λb a=>?_,o⟩⟩,by rw[gM]at i;refine gM<|>gM<|>?_;dsimp-iota only;exact bo (fJ 0xf1899ede7dd62562b39fabf3f e i)<|fJ 0xc8dc377789ffe95c978c5f84c e i⟩
 ·rcases dE.mp a with rfl|a
  ·exact n
  rcases dE.mp a with rfl|a
  ·exact h
  ·exact d.fT b (.tail _ a)
 ·rcases dE.mp a with rfl|a
  ·exact k
  rcases dE.mp a with rfl|a
  ·exact ba k (eN _ _)
  ·exact d.de b (.tail _ a)
 ·rcases dE.mp a with rfl|a
  ·dsimp-iota only;exact bP 0x108b04761d1fd52777 e h j
  rcases dE.mp a with rfl|a
  ·dsimp-iota only;exact bP 0x132bbf93f8b1480e7 e j
  ·exact d.dt b (.tail _ a)
 ·rcases dE.mp a with rfl|a
  ·exact .inl (cL _)
  ·exact(m b a).imp_left λ(c:x.1+x.2<=b.1)=>show x.1+l<=b.1 by exact bP 0x108b04761d1fd52777 e h c
 ·exact(m b a).imp (λ(c:x.1+x.2<=b.1)=>show x.1+l+g<=b.1 by exact bP 0x132bbf93f8b1480e7 e c) λ(c:b.1+b.2<=x.1)=>ba c (eN _ _)
theorem ez.adR {l g:Nat}(d:ez c aa (x::R) f)(e:x.2=l+g)(i:4<=g):ez c aa ((x.1,g)::R) (f+l):=by
 have⟨k,m⟩:=es.mp d.oj;have h:=d.bM;have j:=d.dt x (.head _);refine⟨λb a=>?_,λb a=>?_,λb a=>?_,es.mpr ⟨λb a=>?_,m⟩,by rw[gM]at h;refine gM<|>?_;dsimp-iota only;exact bo (fJ 0xf1266dfd6ef026d6308c134bf e h)<|fJ 0xc245f8858cba0207e33f3c5cc e h⟩
 ·rcases dE.mp a with rfl|a
  ·exact i
  ·exact d.fT b (.tail _ a)
 ·rcases dE.mp a with rfl|a
  ·exact d.de x (.head _)
  ·exact d.de b (.tail _ a)
 ·rcases dE.mp a with rfl|a
  ·dsimp-iota only;exact bP 98460159312473703 e j
  ·exact d.dt b (.tail _ a)
 ·exact(k b a).imp_left λ(c:x.1+x.2<=b.1)=>show x.1+g<=b.1 by exact bP 98460159312473703 e c
end
noncomputable def vO:List bF->Nat
 |[]=>0|x::_=>x.1
def km (a:List UInt8):List bF->Prop
 |[]=>True|x::b=>bA a (x.1+2) (bY 2 x.2)/\(bA a x.1 (bY 2<|vO b)/\km a b)
def sh (b:List UInt8)(c:Nat)(a:List bF):Prop:=bA b c (bY 2<|vO a)/\km b a
noncomputable def cq (x:bF):O:=.ce [.I (x.1:Int),.I (x.2:Int)]
structure gD (c b:Nat) (a:List bF):Prop where
 de:∀x∈a,c<=x.1
 fT:∀x∈a,4<=x.2
 dt:∀x∈a,x.1+x.2<=b
 cY:a.Pairwise λx y=>x.1+x.2<=y.1
theorem gD.tQ {c d:Nat}{x:bF}(a:gD c d (x::t)):gD (x.1+x.2) d t:=⟨(es.mp a.cY).1,λy b=>a.fT y<|.tail _ b,λy b=>a.dt y<|.tail _ b,(es.mp a.cY).2⟩
theorem gD.bb {c d b:Nat}(a:gD c b t)(e:d<=c):gD d b t:=⟨λx f=>ba e<|a.de x f,a.fT,a.dt,a.cY⟩
theorem gD.aH:∀{c d:Nat},gD c d t->c<=d->4*t.length+c<=d:=by
 induction t with
 |nil=>exactλ{c} {d} f b=>by exact Fp<|>ac 20046338088 b
 |cons x t e=>exactλ{c} {d} b f=>by have:=e b.tQ (b.dt x<|.head _);have a:=b.de x (.head _);exact fQ<|>bP 0x296981c8f169a102ba85da7c this a (b.fT x<|.head _)
theorem gD.jv {c a:Nat}(b:gD c a t)(d:a<=128):vO t<65536:=by
 induction t using cj with
 |nil=>decide|cons x e=>have:=b.dt x<|.head _;show x.1<65536;exact aj 0x316254bc47c56c6c d this
def sD (j:aJ):Prop:=∀{b:w} {i:O->w->Prop} {v:O} {k a d c:Nat} {f:List UInt8} {e:List bF},d6 b f v->sh f (d+1) e->bA f (d+5) (bY 2 c)->0<c->c<=a->gD c a e->a<=128->(∀h g,b.U h=D->g.U h=J (e.map cq)->b.ar g->i (.ah h) g)->j 80 [bd v k a d] b i
theorem d6.ds {v:O}(a:d6 W Z v)(l:cW b W A):d6 A Z v:=by cases v<;>first|exact a.elim|exact a|exact l.a4 _ _ a
noncomputable def TJ:b2:=HW.aP.aP.aP.as
section
variable {F N:aJ}
theorem TK (n:jm F)(r:mc F){m:w}{v:O}{q b g c d l:Nat}{x:bF}{cZ:List bF}(i:d6 m Z v)(t:bA Z (g+5) (bY 2 c))(C:c<=b)(h:b<=128)(e:gD c b (x::cZ))(s:l<=x.1)(a:km Z (x::cZ))(o:m.U d=J R)(y:R.length<=128)(A:P .cO [J (bd v q b g),J (.ah d),J (.I (vO cZ:Int)),J (.I ((x.1+x.2:Nat):Int)),J (.I (x.2:Int)),D] (m.a1 d<|R++[cq x])):a6 (bn F N) TJ [J (bd v q b g),J (.ah d),J (.I (x.1:Int)),J (.I (l:Int)),z,D] m P:=by have f:=e.dt x (.head _);have p:=e.de x (.head _);have j:=e.fT x (.head _);refine bx (fN (λa=>eI _<|ef (cz.mp a) s) ?_);refine r i t (~~~az 0x2818dbb84a615c8f15fd94 h f p j) (fN (λa=>eI _<|ef (cz.mp a) p) ?_);refine fN (λa=>eI _<|ef (cz.mp a)<|ba (jc j _) f)<|bc (aF<|n (k:=x.1+2) rfl i a.1 (~~~aj 0x316254bf5d387b64 h f) ?_);refine bx (fN (λa=>eI _<|ef (cz.mp a) j) ?_);refine fN (λa=>eI _<|ef (cz.mp a) f)<|bc (cc<|av o<|av o ⟨eo y<|~~~_,?_⟩);refine aF (aF<|n (m:=m.a1 d<|R++[cq x]) rfl (by cases v<;>exact i) a.2.1 (gD.jv e.tQ h) ?_);exact k7 A
theorem aco (C:jm F)(Q:mc F):sD (bB F N):=λ{h b8 v M n o c P cZ} H G S z E m r q=>by
 refine bU I3 [J (bd v M n o),D,D,D,D,D] rfl rfl (aF<|aC (ct<|dB _) λd s=>?_);have y:(h.a1 d []).U d=J (([]:List bF).map cq):=cg;have g:h.ar (h.a1 d []):=dS s;generalize h.a1 d []=K at y g⊢;refine cI ?_;intro a';refine aF (C (k:=o+1) rfl (H.ar g) G.1 (m.jv r) ?_);refine b3 ?_;intro c9 a' c';refine aF (mG ⟨cZ.length+1,?_⟩);refine Al (σ:=Nat×List bF×List bF×Option O) (λa=>[J (bd v M n o),J (.ah d),J (.I (vO a.2.2.1:Int)),J (.I (a.1:Int)),a.2.2.2,D]) (λk a i=>i.U d=J (a.2.1.map cq)/\(a.2.1++a.2.2.1=cZ/\(k=a.2.2.1.length/\(gD c n a.2.2.1/\((∀x∈a.2.2.1,a.1<=x.1)/\(km P a.2.2.1/\cW (·=d) K i)))))) (λk a i b b9 R t=>?_) _ cZ.length (0,[],cZ,D) K (nN _) ⟨y,rfl,rfl,m,λt t=>dB _,G.2,.cf⟩;obtain⟨b',e,a9,c8⟩:=a;induction a9 using cj with
 |nil=>
  refine bc (bH ?_);have T:e=cZ:=by have:=b.2.1;exact aY (this ..)<|(dn _).symm
  exact q d i s (T▸b.1) (b.2.2.2.2.2.2.dP s g)
 |cons x j=>
  have f:=b.2.2.2.1;have A:e++x::j=cZ:=b.2.1;have a8:0<x.1:=ef @z (f.de x<|.head _);have Z:((x.1:Nat):Int)≠0:=λp=>eI 0 ((iW.mp p)▸a8);refine rd (λt=>?_) (λp=>absurd p Z);have W:e.length<=128:=by have:=congrArg mL @A;have l:=m.aH E;rw[a2]at this;exact bP 0x120023b2ea68d3c3dc2ada5f67 @z r this l
  refine TK @C @Q (x:=x) (cZ:=j) ((H.ar g).ds b.2.2.2.2.2.2) S E r f (b.2.2.2.2.1 x<|.head _) b.2.2.2.2.2.1 b.1 (by exact ax<|>W)<|R j.length (x.1+x.2,e++[x],j,_) _ (by exact b.2.2.1<|>nN _) ⟨cg<|>congrArg J (cD (l₁:=e) (l₂:=[x])).symm,?_,rfl,f.tQ.bb<|ba (f.de x<|.head _)<|eN _ _,f.tQ.de,b.2.2.2.2.2.1.2.2,b.2.2.2.2.2.2.ak gb⟩
  ·refine aY (A ..)<|bN<|>?_;rfl
structure qD (a:Nat) (d:List bF) (b c:List UInt8):Prop where
 aH:c.length=b.length
 fg:∀j,(j<a\/a+2<=j)->(∀x∈d,j<x.1\/x.1+4<=j)->c[j]?=b[j]?
theorem qD.ca (k:qD g t Z n8)(f:bA Z Q o8)(e:Q+o8.length<=g\/g+2<=Q)(h:∀x∈t,Q+o8.length<=x.1\/x.1+4<=Q):bA n8 Q o8:=λi c=>by exact V (k.fg (Q+i) (by exact fd λd=>e.elim (λb=>az 0x19d4d1ed4ff0636516a59f985ebb2ae44fa1165b c d b) λb=>aj 4361331582468 b) λx j=>by have:=h x j;exact fd λd=>e.elim (λb=>this.elim (λa=>az 0x19e9118b5d1df75096a59f985ebb2ae44fa1165b c d a) λa=>aj 4363223696328 a) λb=>this.elim (λa=>az 0x19e9118b5d1df75096a59f985ebb2ae44fa1165b c d a) λa=>aj 4363223696328 a ..)<|f i c
noncomputable def acU:b2:=B7.aP.as
noncomputable def acV:b2:=B7.aP.aP
def n3 (F:aJ):Prop:=∀{m:w} {g:O->w->Prop} {a h i b c:Nat} {d:List UInt8} {cZ:List bF},m.a4 a=J d->m.U h=J (cZ.map cq)->d.length=b->b<=128->c+3<=b->gD (c+3) b cZ->(∀f e,f.a4 a=J e->sh e (c+1) cZ->qD (c+1) cZ d e->eV a m f->g .bE f)->F 85 [bd (.br a) i b c,.ah h] m g
theorem acW (P:il F){a c8 i:Nat}:∀(e:List bF) (b:Nat) (g:w) (l:List UInt8) (Z a8:Option O) {W H:Nat},g.a4 a=J l->g.U c8=J R->l.length=i->i<=128->b+2<=i->gD (b+2) i e->(∀o K,o.a4 a=J K->sh K b e->qD b e l K->eV a g o->S .bE o)->gK ag [3,4] (a6 (bn F N) acU) (λo=>o.U c8=J R) (e.map cq) [J (bd (.br a) W i H),z,J (.I (b:Int)),Z,a8,D] g (h6 (bn F N) acV<|dI S):=by
 intro e;induction e with
 |nil=>intro b g l Z a8 W H Q A n C T d q;refine aC A (cc<|P (x:=0) rfl rfl Q (by exact n<|>T) (~~~_) λb' a9 z M t=>?_);exact q b' a9 M ⟨z.dA,trivial⟩ ⟨z.aH,λj m g8=>z.fg j m⟩ t|cons x f' e9=>
  intro b g l Z a8 W H Q A n C T d q;have f:=d.de x (.head _);have h:=d.fT x (.head _);have E:=d.dt x (.head _);refine aC A<|cl ?_;intro f9 g9;refine cc (P (x:=x.1) rfl rfl Q (by exact n<|>T) (~~~aj 0x1c86acb409cb7083bac C h E) λb' a9 z M t=>?_);refine cc (P (k:=x.1+2) (x:=x.2) rfl rfl M (by exact z.aH<|>az 0x123f7a2e4b5e4ae37 n h E) (~~~az 0x2dd344404cc15fe7f9c54 C f E) λe' c' p d9 a'=>?_);refine cI ?_;intro f9;refine aF<|e9 x.1 e' c' _ _ d9 (a'.U _ _<|t.U _ _ A) (by exact p.aH<|>z.aH<|>n) C (~~~aj 76324044082244 h E) (d.tQ.bb<|~~~ac 711656190 h) λf8 d8 d' c9 G e8=>?_;have b9:=d.tQ.de;refine q f8 d8 d' ⟨?_,?_,c9⟩ ⟨by exact G.aH<|>p.aH<|>z.aH<|>rfl,λj m b8=>?_⟩ (t.ak<|a'.ak e8)
  ·refine G.ca (p.ca z.dA<|.inl<|by exact cC<|>ac 7181648383420 f) (.inl<|by exact cC<|>ac 11130293692 f) λy k=>.inl ?_;have:=b9 y k;exact cC<|>az 0x60630fac467a25880 f h this
  ·refine G.ca p.dA (.inr<|cL _) λy k=>.inl ?_;have:=b9 y k;exact cC<|>aj 0x2e87de65957f6c h this
  ·have:=b8 x (.head _);exact V (G.fg j (by exact fd λr=>m.elim (λs=>aj 0xd6e58db7258dc145b78d8377b02e47a1164d f r s) λs=>this.elim (λc=>ac 0x6f1bec17b23fc1749fa11711 r c) λc=>ac 11130297724 c) λy k=>b8 y (.tail _ k) ..)<|V (p.fg j (by rw[cC];exact fd λr=>m.elim (λs=>aj 0x5f183422386bb54d27cf724eff37b02e47a1164d f r s) λs=>this.elim (λc=>ac 0x24340a17041443dcd7394fa11711 r c) λc=>ac 1650521111932 c) ..)<|V (z.fg j (by rw[cC];exact m) ..)<|rfl
theorem acs (h:il F):n3 (bB F N):=λ{m p a o n e b g f} i c l j k d q=>by refine bU Jt [J (bd (.br a) n e b),J (.ah o),D,D,D,D] rfl rfl (aF<|gV<|av c ?_);exact acW @h f (b+1) m g D D i c l j k d q
end
noncomputable def e6 (a:Nat)(c:au):Nat:=max 4 (c.bQ a).length
noncomputable def e5 (a:Nat)(b:List au)(e:List Nat):List bF:=PO (λc d=>(d,e6 a c)) b e
structure c0 (a b:Nat) (e:List UInt8) (d:List au) (h:List Nat) (f:List bF) (c g:Nat) (H:List bF):Prop where
 cu:fA a b e ag (d.map<|au.bQ a) h
 dg:∀x∈d,x.dg a
 jR:bA e (b+5) (bY 2 c)
 mj:e[b+7]?=J (dQ g)
 kU:sh e (b+1) f
 ir:b+8+2*d.length<=c
 fD:ez c a (H++(e5 a d h++f)) g
 cY:f.Pairwise λx y=>x.1+x.2<=y.1
section
variable {aa b1 c f:Nat}{d:List UInt8}{bw:List au}{cw:List Nat}{cZ H:List bF}
theorem c0.hI (a:c0 aa b1 d bw cw cZ c f H):c<=aa:=by have:=a.fD.bM;exact this▸mP _ _
theorem c0.Wy (a:c0 aa b1 d bw cw cZ c f H):f<=aa:=by have:=a.fD.bM;exact az 64325940954 this
theorem c0.sV (b:c0 aa b1 d bw cw cZ c f H):gD c aa cZ:=⟨λx a=>b.fD.de x<|cP _<|cP _ a,λx a=>b.fD.fT x<|cP _<|cP _ a,λx a=>b.fD.dt x<|cP _<|cP _ a,b.cY⟩
theorem c0.hu (a:c0 aa b1 d bw cw cZ c f H):bA d (b1+3) (bY 2 bw.length):=by have:=a.cu.hu;rw[ax]at this;exact this
theorem c0.yC (a:c0 aa b1 d bw cw cZ c f H):0<c:=ef (ef (show 0<8 by decide)<|mP _ _) (ba (eN _ _) a.ir)
theorem c0.yT (a:c0 aa b1 d bw cw cZ c f H)(b:aa<=128):(dQ f).toNat=f:=pS (eo (ba a.Wy b)<|~~~_)
end
def sE (h:aJ):Prop:=∀{d:w} {e:O->w->Prop} {v:O} {k a b c j:Nat} {g:List UInt8} {f:List au} {l:List Nat} {i H:List bF},d6 d g v->c0 a b g f l i c j H->a<=128->e (.I ((c-(b+8+2*f.length):Nat):Int)) d->h 84 [bd v k a b] d e
def vg (k:aJ):Prop:=∀{d:w} {e:O->w->Prop} {v:O} {l a b c i:Nat} {h:List UInt8} {g:List au} {m:List Nat} {f H:List bF},d6 d h v->c0 a b h g m f c i H->a<=128->(∀j,d.ar j->e (.I ((c-(b+8+2*g.length)+i+gL f:Nat):Int)) j)->k 86 [bd v l a b] d e
def x0 (h:aJ):Prop:=∀{b:w} {d:O->w->Prop} {v:O} {m a e c l:Nat} {f:List UInt8} {k:List au} {n:List Nat} {j H:List bF},d6 b f v->c0 a e f k n j c l H->a<=128->(∀i g,b.ar g->d (.bs i) g)->h 87 [bd v m a e] b d
def sz (i:aJ):Prop:=∀{b:w} {f:O->w->Prop} {v:O} {j a g:Nat} {h:List UInt8} {c:List au} {k:List Nat},d6 b h v->fA a g h ag (c.map<|au.bQ a) k->(∀x∈c,x.dg a)->a=64\/a=128->(∀e d,b.U e=D->d.U e=J (c.map λx=>.aA<|x.bQ a)->b.ar d->f (.ah e) d)->i 76 [bd v j a g] b f
theorem w.ar.hM (l:W.ar A)(a:A.U g=D):W.U g=D:=by
 cases b:W.U g with
 |none=>rfl|some x=>rw[l.U g x b]at a;cases a
theorem oh {m:w}(j:∀a,m.ar a->y a):∀(e b c:List O) (a:w),m.ar a->e.length=b.length->(∀(i:Nat) (v d:O),e[i]?=J v->b[i]?=J d->∀(a:w) (g:O->w->Prop),m.ar a->(∀k,a.ar k->g d k)->H v a g)->(∀a,m.ar a->E9 (c++b) a)->pE H y e c a E9:=by
 intro e;induction e with
 |nil=>
  intro b c a l f _ q;induction b using cj with
  |nil=>exact⟨j a l,dn c▸q a l⟩|cons d b=>cases f
 |cons v e p=>
  intro b c a l f h q;induction b using cj with
  |nil=>cases f
  |cons d b=>refine⟨j a l,h 0 v d rfl rfl a _ l λt r=>?_⟩;exact p b (c++[d]) t (l.ak r) (g0 f) (λi A z o n=>h (i+1) A z o n) λx s=>bN<|>q x s
theorem Ab:∀{a:Int},(gA a g).length=g:=by
 induction g with
 |zero=>exactλ{c}=>rfl|succ g b=>exactλ{a}=>congrArg oT b
theorem afh:∀{i:Nat} {a x:Int},(gA a g)[i]?=J x->x=a+i:=by
 induction g with
 |zero=>exactλ{i} {a} {x} b=>by cases b
 |succ g c=>
  intro i;induction i using ey with
  |zero=>exactλ{a} {x} b=>by injection b with b;refine aY (b ..)<|?_;exact(OL a).symm
  |succ i=>exactλ{a} {x} b=>by have:=c b;refine this<|>?_;show _=a+((i:Int)+1);exact E3<|>At 1<|>rfl
theorem Ac {d i:Nat}{v:O}(a:((gA 0 d).map O.I)[i]?=J v):v=.I (i:Int):=by rw[cv]at a;refine aU (fw.mp a) λx c b=>?_;subst b;exact afh c<|>O1<|>rfl
section
variable {F N:aJ}
theorem acr (i:jn F)(j:n1 F)(k:mc F):sE (bB F N):=λ{t o v n g b c s r d x p H} e a l q=>by
 have f:c<65536:=eo (ba a.hI l) (~~~_);have m:d.length<65536:=by have:=a.ir;exact aj 0xb96b628bc7a89ab8090c183292b9 f this
 have h:((c:Nat):Int)-((b+cm ag:Nat):Int)-2*(d.length:Int)=((c-(b+8+2*d.length):Nat):Int):=by have:=a.ir;unfold cm;simp-iota only[if_true];exact dW (az 0x61df6cf57c9a0fc5265b708 aw) (az 0xbf0ae2f26d3cf7f608089ba<|ay (aj 0x6dd0caddcc99a96b4 this))
 rw[<-h]at q;exact bU Jm [J (bd v n g b),D] rfl rfl (bH<|k e a.jR f<|j ag e a.cu.ee<|i e a.hu m<|aC (.inl ⟨by decide,by decide⟩) q)
theorem act (y:pr F)(z:sD F)(A:sE F):vg (bB F N):=λ{S M v s k f c o Q m T l H} j d i q=>by
 refine bU Js [J (bd v s k f),D,D,D,D] rfl rfl (aF<|A j d i<|y j d.mj ?_);refine d.yT i<|>b3 ?_;intro b9 b8 b';refine gV (z j d.kU d.jR d.yC d.hI d.sV i λW r R h K=>av h ?_);refine CV (σ:=Nat×Option O×Option O×List bF) (λa=>[J (bd v s k f),J (.I (a.1:Int)),a.2.1,a.2.2.1,D]) (λt a e=>e=r/\(t=a.2.2.2.map cq/\a.1+gL a.2.2.2=c-(f+8+2*m.length)+o+gL l)) (λZ t a e b P C a'=>?_) (λa e b=>?_) _ (c-(f+8+2*m.length)+o,D,D,l) r ⟨rfl,rfl,rfl⟩
 ·obtain⟨p,a8,a9,g⟩:=a;induction g using cj with
  |nil=>cases b.2.1
  |cons x g=>have G:=(p3 b.2.1).1;subst G;refine aC (b.1▸h) (aF<|C (p+x.2,J (.I (x.1:Int)),J (.I (x.2:Int)),g) e ⟨b.1,(p3 b.2.1).2,?_⟩);have:p+gL (x::g)=_:=b.2.2;rw[gM,<-iB]at this;exact this
 ·have E:=b.1;subst E;refine aC h (bH ?_);have:a.2.2.2=[]:=Px.mp b.2.1.symm;have n:=b.2.2;rw[this]at n;have q:=q e K;rw[<-n]at q;exact q
theorem acu (i:jn F)(j:n1 F)(k:vg F):x0 (bB F N):=λ{m r v o f g c x t h y s H} b a d q=>by
 have l:h.length<65536:=by have:=a.ir;have:=a.hI;exact az 0x8c5700f922a5e07ba871b8ef4 d ‹_› this
 refine bU Jp [J (bd v o f g),D] rfl rfl (bH<|i b a.hu l ?_);refine eh (λp=>q _ m .cf) (λp=>k b a d λn e=>?_);refine aC (.inr ⟨by decide,by decide⟩) (j ag (b.ar e) a.cu.ee<|aC (.inr ⟨by decide,by decide⟩) ?_);exact q _ n e
theorem ach (p:jn F)(r:ve F):sz (bB F N):=λ{m K v C c n M d P} h a A b q=>by
 have t:=a.q1 (co b);have e:d.length<=128:=by have:=a.iL;rw[ax]at this;have:=co b;exact az 0x8279cc44c3fd4f2f4 (co b) ‹_›
 refine bU Ji [J (bd v C c n),D] rfl rfl (bH<|p h a.hu t ?_);refine ax<|>aC ⟨⟨by decide,by decide⟩,by constructor<;>(first|exact ai 34898773920|exact ai 650303751492164 @e)⟩ (.inl ⟨rfl,?_⟩);refine oh (m:=m) (λG G=>trivial) _ (d.map λx=>.aA<|x.bQ c) [] m .cf (ax<|>Ab<|>ax<|>fV _) (λi R Q j f z H l y=>?_) λz l=>aC (ct<|gW<|>ax<|>ba @e (~~~_)) λE g=>q E _ (l.hM g) cg (l.ak<|dS g)
 ·have s:=Ac j;clear j;subst s;rw[cv]at f;refine aU (fw.mp f) λx k o=>?_;subst o;exact r (h.ar l) a b (by refine cv<|>k<|>?_;rfl) (A x<|dT k) y
end
theorem pV {b p e:Nat}{i j:Int}{a:Nat->Nat->Prop}(d:i=(p:Int))(f:j=(e:Int))(g:p<=b)(c:e<=b)(h:a p e):k6 b (.I i) (.I j) a:=by subst d f;show a (h2 _ _) (h2 _ _);exact q0 g<|>q0 c<|>h
theorem fY {hF:List O}{k:Nat}{v:O}(b:hF[k]?=J v)(q:a v):nx hF (k:Int) a:=by
 have c:=(dv.mp b).1;have:hN hF.length (k:Int)=J k:=by unfold hN;exact if_pos (eH _)<|>if_pos (cz.mpr c)<|>fV<|>rfl
 exact gf this (gf b q)
theorem S0 {e d i c:Nat}(f:bA Z e (dK d 0))(b:i+c<=d):bA Z (e+i) (dK c 0):=λj a=>by rw[hh]at a;exact iB<|>f (i+j) (by rw[hh];exact az 0x72431d03dd30 b a)<|>AJ<|>AJ<|>if_pos (~~~az 0x72431d03dd30 b a)<|>if_pos a<|>rfl
def vf (i:aJ):Prop:=∀{e:w} {g:O->w->Prop} {a j d b:Nat} {h:List UInt8},e.a4 a=J h->h.length=d->b+12<=d->d<=128->(∀f c,f.a4 a=J c->eV a e f->c.length=d->c[b]?=J 13->bA c (b+5) (bY 2 d)->bA c (b+1) (bY 2 0)->bA c (b+3) (bY 2 0)->c[b+7]?=J 0->g .bE f)->i 83 [bd (.br a) j d b,.I 13] e g
structure RA (f j i:Nat) (g:List UInt8) (e:List au) (d:List Nat) (c h:Nat):Prop where
 eQ:d.length=e.length
 k4:∀(a b:Nat),d[a]?=J b->bA g (j+8+2*(i+a)) (bY 2 b)
 lz:∀(a b:Nat) (x:au),d[a]?=J b->e[a]?=J x->bA g b (x.bQ f)
 fD:ez c h (e5 f e d) 0
theorem ez.Oe {c e n f:Nat}(d:ez c e t f)(h:4<=n)(g:c<=e):ez c (e+n) ((e,n)::t) f:=by
 refine⟨λb a=>?_,λb a=>?_,λb a=>?_,es.mpr ⟨λb a=>.inr<|d.dt b a,d.oj⟩,by have:=d.bM;refine gM<|>?_;dsimp-iota only;exact bo (bP 0x13a5c89f384e081826 this) (bP 0x99f20918969a732c7 this)⟩<;>rcases dE.mp a with rfl|a
 ·exact h
 ·exact d.fT b a
 ·exact g
 ·exact d.de b a
 ·exact cL _
 ·exact ba (d.dt b a) (eN _ _)
noncomputable def kK (a:Nat)(b:List au):Nat:=(b.map<|e6 a).sum
theorem yI {a:Nat}{c:au}:4<=e6 a c:=lS _ _
theorem vA {a:Nat}{c:au}:(c.bQ a).length<=e6 a c:=qd _ _
def sF (j:aJ):Prop:=∀{m:w} {g:O->w->Prop} {a i k b d:Nat} {e:List UInt8} {bw:List au},m.a4 a=J e->e[d]?=J (lI ag)->m.U i=J (bw.map λx=>.aA<|x.bQ b)->e.length=b->(∀x∈bw,x.dg b)->d+12<=b->d+8+2*bw.length+kK b bw<=b->b=64\/b=128->(∀f h l c,f.a4 a=J h->eV a m f->c0 b d h bw l [] c 0 []->g .bE f)->j 90 [bd (.br a) k b d,.ah i] m g
noncomputable def MZ:b2:=B6.aP.aP.aP.aP.aP.aP.aP.as
noncomputable def aaa:b2:=B6.aP.aP.aP.aP.aP.aP.aP.aP
section
variable {F N:aJ}
theorem acq (W:il F):vf (bB F N):=λ{m b8 a a9 f b d} Z l h K q=>by
 have e:(f:Int)-(b:Int)=((f-b:Nat):Int):=(E7<|ba (eN _ _) h).symm;have t:(dK (f-b) (0:UInt8)).length=f-b:=hh;refine bU Jl [J (bd (.br a) a9 f b),J (.I 13),D] rfl rfl (Er<|aC ?_ ?_)
 ·exact e<|>⟨eH _,eM.mpr<|ct<|ba (bL _ _)<|ba K<|~~~_⟩
 refine e<|>fV<|>?_;have j:b<=f:=ba (eN _ _) h;have z:=An (d:=d) (r:=dK (f-b) (0:UInt8)) (p:=b) (by exact t<|>l<|>mN j<|>cL _);rw[t,mN j]at z;refine kY Z (pV (p:=b) (e:=f) rfl rfl (l▸j) (fv l.symm) ⟨by exact t<|>mN j<|>rfl,?_⟩);have E:(m.gh a<|d.take b++dK (f-b) 0++d.drop f).a4 a=J _:=mF;have G:eV a m (m.gh a<|d.take b++dK (f-b) 0++d.drop f):=rb;generalize d.take b++dK (f-b) 0++d.drop f=g at*;generalize m.gh a g=y at E G⊢;have a':=z.dA;have x:g.length=f:=z.aH.trans l;have M:b<g.length:=x<|>ac 1645352380 h;refine lO (kY E ⟨⟨eH _,cz.mpr M,by decide,by decide⟩,?_⟩);have n:fi g b [13] (g.set b 13):=Am M;have P:(y.gh a<|g.set b 13).a4 a=J _:=mF;have R:eV a y (y.gh a<|g.set b 13):=rb;refine cc (W (k:=b+5) rfl rfl P (by exact n.aH<|>x<|>ac 0x5e02982ab55bc h) (~~~ai 4562078980074 K) λa8 C o Q S=>?_);have A:∀i k,b+i+k<=f->(1<=i/\(i+k<=5\/7<=i))->bA C (b+i) (dK k 0):=λi k T H=>o.ca (n.ca (S0 a'<|~~~bP 0x69bb0becb6d1be9a22 e @T)<|.inr (by show b+1<=b+i;exact ac 707591892 H.1)) (by exact cC<|>hh<|>H.2.imp (λc=>by exact aj 0xaca51ac0a80e126 c) λc=>by exact ac 0x5f7994a8b4c2 c);refine q a8 C Q (G.ak<|R.ak S) (by exact o.aH<|>n.aH<|>x<|>rfl) ?_ o.dA (A 1 2 (~~~ac 52591938196924 h)<|~~~⟨g7 624,ya λs=>g7 0x228a82c86d7a1165b s⟩) (A 3 2 (~~~ac 0x5db41b1ab55bc h)<|~~~⟨g7 4404,ya λs=>g7 0x1feae4f46aad7a1165b s⟩) (A 7 1 (~~~ac 0x5969443ab55bc h)<|~~~⟨g7 10004,ya λs=>g7 319082⟩).kD;exact(o.ca n.dA<|.inl (by show b+1<=b+5;exact ai 128545824)).kD
theorem aab (H:il F){a l d c n i b z:Nat}(K:W.a4 a=J Z)(r:W.U l=J R)(y:R[i]?=J (.aA n8))(s:Z.length=d)(M:d<=128)(j:z=max 4 n8.length)(t:c+8+2*R.length<=b)(m:b+z<=d)(q:∀f o g,fi Z b n8 o->fi o (c+8+2*i) (bY 2 b) g->f.a4 a=J g->eV a W f->P .cO [J (bd (.br a) n d c),J (.ah l),z8,A8,J (.I (b:Int)),J (.I ((c+8:Nat):Int)),J (.I (i:Int)),J (.aA n8),D] f):a6 (bn F N) MZ [J (bd (.br a) n d c),J (.ah l),z8,A8,J (.I ((b+z:Nat):Int)),J (.I ((c+8:Nat):Int)),J (.I (i:Int)),B8,D] W P:=by
 have C:((b+z:Nat):Int)-(if(4:Int)<n8.length then(n8.length:Int)else 4)=(b:Int):=by refine j<|>?_;split<;>(first|exact dW (aj 4567962494552<|rQ<|ai 28977051 ‹_›) (aj 29254113798<|qd _ _)|exact dW (ac 3816502165226<|rP<|ai 299456546<|gk.mp ‹_›)<|ac 5823143948286<|lS _ _)
 have Q:=(dv.mp y).1;have h:b+n8.length<=Z.length:=s<|>ba (jc (j▸qd _ _) b) m;refine cI ?_;intro A;refine aF (av r<|fY y ?_);refine aF<|iy (bV:=[J (bd (.br a) n d c),J (.ah l),z8,A8,J (.I (b:Int)),J (.I ((c+8:Nat):Int)),J (.I (i:Int)),J (.aA n8),D]) (by refine aY (C ..)<|?_;rfl) ?_;refine b3 ?_;intro T A a8;refine bx (av r<|aC (.inl ⟨by decide,by decide⟩) ?_);refine fN (λG=>eI _<|ef (cz.mp G) t)<|bc (Er<|kY K<|pV (p:=b) (e:=b+n8.length) rfl rfl (ba (eN _ _) h) h ⟨rfl,?_⟩);refine b3 ?_;intro T A a8;exact cc (aC (.inl ⟨by decide,by decide⟩)<|H (k:=c+8+2*i) (x:=b) rfl rfl mF ((An h).aH<|>s<|>fJ 0x51e6bf510bed1f09adcef1bfc8f15fb660011 j t m Q (lS _ _)) (az 0x2818dbb84a6110b75418ec M j m<|lS _ _) λf g S e E=>q f _ g (An h) S e<|rb.ak E)
theorem aac (h8:il F){Q:db}{a c' b b1 bf:Nat}{pa ki:Option O}(n:b<=128):∀(p:List au) (i h:Nat) (A:w) (E:List UInt8) (r s:Option O),G.drop i=p->A.a4 a=J E->A.U c'=J (G.map λx=>.aA<|x.bQ b)->E.length=b->b1+8+2*G.length+kK b p<=h->h<=b->(∀S H c9 c r s,S.a4 a=J H->eV a A S->RA b b1 i H p c9 c h->H.length=b->c+kK b p=h->(∀j,(j<b1+8+2*i\/b1+8+2*(i+p.length)<=j)->(j<c\/h<=j)->H[j]?=E[j]?)->Q .cO [J (bd (.br a) bf b b1),J (.ah c'),pa,ki,J (.I (c:Int)),J (.I ((b1+8:Nat):Int)),r,s,D] S)->gK ap [6] (a6 (bn F N) MZ) (λd9=>True) ((gA (i:Int) p.length).map .I) [J (bd (.br a) bf b b1),J (.ah c'),pa,ki,J (.I (h:Int)),J (.I ((b1+8:Nat):Int)),r,s,D] A Q:=by
 intro p;induction p with
 |nil=>intro i h A E r s Z b8 b9 a8 c8 l q;refine aC trivial (q A E [] h r s b8 .cf ⟨rfl,λf T e=>(nomatch e),λf T x e=>(nomatch e),?_⟩ a8 rfl λd9 d9 d9=>rfl);exact⟨λx e=>(nomatch e),λx e=>(nomatch e),λx e=>(nomatch e),mK,jG _⟩|cons x f8 i8=>
  intro i h A E r s Z b8 b9 a8 c8 l q;have e8:G[i]?=J x:=by have:=congrArg (·[0]?) Z;rw[nI]at this;exact this
  have o:=(dv.mp e8).1;have k:b1+8+2*G.length+(e6 b x+kK b f8)<=h:=c8;have m:=@yI b x;have a':=@vA b x;have h':((G.map λx=>O.aA<|x.bQ b))[i]?=J (.aA<|x.bQ b):=by refine cv<|>e8<|>?_;rfl
  refine aW (show∃K,h=K+e6 b x from⟨h-e6 b x,(w3<|~~~dN 0xc401da8e249c772ab89a3 o k).symm⟩) λK g8=>?_;clear c8;subst g8;refine aC trivial (aab @h8 (z:=e6 b x) b8 b9 h' a8 n rfl (by exact ax<|>bP 0x3a8a15f6299c6b1fb431d55a k) l λi9 i' f9 d8 pa g9 d'=>?_);have M:=@cC 2 K;have a9:=congrArg mL Z;rw[gB,fQ]at a9;refine i8 (i+1) K i9 f9 _ _ (by refine aY (Pc ..)<|Z<|>?_;rfl) g9 (d'.U _ _ b9) (by exact pa.aH<|>d8.aH<|>a8) (~~~bP 0x352135d96f8a5f1ab06c0e1cda k) (~~~aj 365323138684 m l) λS H c9 c r s f' g' W h9 t b'=>?_;refine q S H (K::c9) c r s f' (d'.ak g') ⟨congrArg oT W.eQ,λf T e=>?_,λf T y e e'=>?_,W.fD.Oe m<|~~~aj 148809614 t⟩ h9 ?_ λj P e9=>?_
  ·induction f using ey with
   |zero=>cases e;exactλf R=>by exact b' _ (by exact fd λd=>px 0x2248f30d84135633bbd85cb7961cf4c259a7175f73db20b5a80de10512a45393704c86355a3b8434079b9228f23529c0482b3c6a71d1b2e980dd04 n m l k M a9 R d<|bL _ _) (by exact fd λd=>nd 0x7d02ec70f6fd23dea642a53b7ee10819e227fbba46fc8d000b02f17e485e9fc6bd940c0b4bafd1fa2b9ee6950e50931607c6b86609479465a68 n o m l k M t R d)<|>pa.dA f R
   |succ f=>exact V (show i+(f+1)=i+1+f by exact bo (ac 108447732324)<|ac 440451987060)<|W.k4 f T e
  ·induction f using ey with
   |zero=>cases e;cases e';exactλf R=>by exact b' _ (by exact fd λd=>py 0x4313d8511e3c007cc4f9a21cebbedebe29326f9c02ce442 k a9<|ay<|ac 354985 o) (by exact fd λd=>ac 24536)<|>pa.fg _ (by exact fd λd=>me 0x2d0bdbbafd09baa4d2ac873fdb63741f0b1aa3 o k M)<|>d8.dA f R
   |succ f=>exact W.lz f T y e e'
  ·show c+(e6 b x+kK b f8)=_;exact bo (az 0x8ebd2233e8112 t) (az 980082087940371 t)
  ·rw[fQ]at P;exact V (b' j (by exact fd λd=>P.elim (λg=>nd 0x374420cbbc19abfbbc4a0546f7bc3a0e92da4fc17af9ef9feada253ab378fd86bf5dffa62bf9f0855cb0b44c808 n m l k a9 d g<|bL _ _) λg=>az 0x972cae4fb97c7e6ead78b75a8 g) (by exact fd λd=>P.elim (λg=>py 0x2ddb6c9a08e559f76e634dce0786bc77e68c897a52e2abf8b03261e79989de9a18b145833562e217a7a40222e n o m l k t d g) λg=>e9.elim (λC=>py 0x195e3fd982dad4a58ad02a091df1fe8426e0c3c9ad63797dfde3e972332dae n o m l k t d C) λC=>aj 365323138684 m C) ..)<|V (pa.fg j (by exact fd λd=>P.elim (λg=>az 0x1c10a1ae7fc581280d9f346953d6b3c215ae9206af451e M d g) λg=>bP 0x2c53914a25774cb64688a5a0862 M g) ..)<|V (d8.fg j (by exact fd λd=>P.elim (λg=>py 0x1510079234914494ff5034cce3ef4bea9d82cd8372b6937405d416fd09d8ce3f57712327a40222e n o a' l k d g) λg=>e9.elim (λC=>nd 0x18e22ee7f4b9bf68fa3fc4e164a74723a9a531fd538d2a4cf7acdf59baf0d24e3fff5268 n o a' l k t d C) λC=>az 0x9b4d006d1184 a' C) ..)<|rfl
theorem acy (z:il F)(a':im F)(f9:m6 F)(f':n1 F)(g8:vf F):sF (bB F N):=λ{m8 Q a j9 bf h b1 l8 n} b8 h9 g9 h' j8 C e l q=>by
 have b9:=co l;have l':n.length<=128:=az 0x62d0ed72eda1af47f68 e (co l);refine bU Jq [J (bd (.br a) bf h b1),J (.ah j9),D,D,D,D,D,D,D] rfl rfl (aF<|f9 (v:=.br a) ag b8 h9 ?_);refine b3 ?_;intro k9 t y;refine aF (bx<|a' ag ?_);refine cl ?_;intro t y;refine bc (cc<|g8 b8 h' C b9 λi9 r Z a8 i8 d8 k' j' n' k8=>?_);refine cl ?_;intro t y;refine bx (a' ag ?_);refine bc (aF<|aF<|f' (v:=.br a) ag Z d8 ?_);have A:=a8.U _ _ g9;refine cl ?_;intro t y;refine gV (av A ?_);refine ax<|>aC ⟨⟨by decide,by decide⟩,by constructor<;>(first|exact ai 34898773920|exact az 0x462b80e20649b91aa9bc047f68 e<|co l)⟩ (.inl ⟨rfl,?_⟩);have:=aac (N:=N) @z (bf:=bf) (b1:=b1) (Q:=h6 (bn F N) aaa<|dI Q) (pa:=J<|.I 13) (ki:=J<|.I 0) b9 n 0 h i9 r D D rfl Z A i8 (~~~az 0xfeff7621ba27cd2017f68 e) (cL _) λm9 T P c n8 n9 d9 a9 g M s h8=>?_
 ·exact this
 have g':=a9.U _ _ A;have E:∀b,b∈P->c<=b/\b+4<=h:=λb k=>by refine aW (p6 k) λi c8=>aW (show∃x,n[i]?=J x from⟨_,du<|by exact aY (g.eQ ..)<|(dv.mp c8).1⟩) λx G=>?_;have c9:(b,e6 h x)∈e5 h n P:=dT (i:=i) (by unfold e5;exact Fl<|>G<|>c8<|>rfl);have a:=g.fD.de _ c9;have S:=g.fD.dt _ c9;have c:=@yI h x;exact⟨a,by dsimp-iota only at S;exact aj 80628575088376 S c⟩
 refine b3 ?_;intro k9 t y;refine cc (av g' ?_);refine ax<|>z (k:=b1+3) (x:=n.length) rfl rfl d9 (~~~aj 0xb754b59942a73f6a C M) (~~~az 0xa0636ecaf2e236d3ed7c7f68 e (co l)) λm' l9 ki e8 e'=>cc (z (k:=b1+5) (x:=c) rfl rfl e8 (by exact ki.aH<|>aj 0xb7aab89bace7dd6a C M) (~~~aj 0x316254bc47c57ee8 (co l) s) λi' W p e9 f8=>?_);have o:=@cC 2;have b':b1+8+2*n.length<=c:=bP 0x3338d3376504c6521ce318c1a e s;have K:∀{b f},bA T b f->b1+7<=b->bA W b f:=λ{b f} d k=>p.ca (ki.ca d<|.inr<|by exact o<|>ac 0x5db41b1a97d3c k) (.inr<|by exact o<|>ac 0x5e02982a97d3c k);have H:∀{b f},bA r b f->b+f.length<=b1+8->bA T b f:=λ{b f} d k j m=>by exact h8 _ (by exact fd λR=>fJ 0x4b5ec6d6dbe5ce3ee4e261cc85356073faad0809b85525a1900bc418b11f87a1ca584b6 e (co l) k m R) (by exact fd λR=>me 0xc97bb01cfceeff5ecc7fa04c05083626bdaf5fb7b311ed5ba10a97f6df0e15bfcb5f7fa11711 e (co l) s k m R)<|>d j m
 have ff:∀{x:UInt8} {b:Nat},r[b]?=J x->bA r b [x]:=λ{x b} d j m=>by
  have:j=0:=by rw[nK]at m;exact bo (ai 2362207 m) (ai 134)
  clear m;subst this;exact d
 refine q i' W P c e9 (a8.ak<|a9.ak<|e'.ak f8) ⟨⟨p.aH<|>ki.aH<|>M,(p.ca (ki.ca (H (ff d8) (by show b1+1<=_;exact ai 15810124))<|.inl (by show b1+1<=_;exact ai 78942116))<|.inl (by show b1+1<=_;exact ai 128545824)).kD,ax<|>p.ca ki.dA (.inl<|by exact o<|>ai 497736556878),g.eQ<|>ax<|>rfl,?_,λi b d=>K (by have:=g.k4 i b d;rw[jG]at this;exact this) (by show b1+7<=b1+8+2*i;exact ac 6624413863236),?_,?_,λb k=>(E b k).2⟩,j8,p.dA,(K (H (ff k8) (by show b1+7+1<=_;exact ai 61218187206))<|cL _).kD,⟨p.ca (ki.ca (H j'<|by exact o<|>ai 1913320662)<|.inl<|by exact o<|>ai 9552291694)<|.inl<|by exact o<|>ai 15554340362,trivial⟩,b',dn<|>g.fD,mK⟩
 ·refine ax<|>?_;show b1+8+_<=h;exact az 0x14581941fee65f217f68 e
 ·intro i b f d c';rw[cv]at c';refine aU (fw.mp c') λx G d'=>?_;subst d';exact K (g.lz i b x d G) (by have:=(E b<|dT d).1;exact dN 0xc44ca9b490cfb8979e3a85994 e s this)
 ·intro b k;exact ax<|>ba b' (E b k).1
end
section
variable {aa b1 c f:Nat}{d f5:List UInt8}{bw:List au}{cw:List Nat}{cZ kR H:List bF}
theorem fA.K6 {x:UInt8}(a:fA aa b1 d ag r cw)(b:fi d (b1+7) [x] f5):fA aa b1 f5 ag r cw:=⟨b.aH.trans a.aH,b.fg _ (.inl<|~~~ai 1472249)<|>a.ee,b.ca a.hu<|.inl<|by exact cC<|>ai 689802114254,a.eQ,a.iL,λi e c=>b.ca (a.k4 i e c)<|.inr (by show b1+8<=b1+8+2*i;exact ac 207012943908),λi e g c f=>b.ca (a.dA i e g c f)<|.inr<|ba (show b1+8<=b1+8+2*r.length by exact ac 207012943908)<|a.de e<|dT c,a.de,a.dt⟩
theorem fA.MW (a:fA aa b1 d ag r cw)(e:qD (b1+1) cZ d f5)(g:∀x∈cZ,b1+8+2*r.length<=x.1)(j:∀(i c:Nat) (f:List UInt8),cw[i]?=J c->r[i]?=J f->∀x∈cZ,c+f.length<=x.1\/x.1+4<=c):fA aa b1 f5 ag r cw:=by
 refine⟨e.aH.trans a.aH,?_,e.ca a.hu (.inr<|~~~ai 9552291694) λx b=>.inl ?_,a.eQ,a.iL,λi c b=>e.ca (a.k4 i c b) (.inr (by show b1+3<=b1+8+2*i;exact ac 6624413766468)) λx k=>.inl ?_,λi c f b h=>e.ca (a.dA i c f b h) (.inr<|ba (show b1+1+2<=b1+8+2*r.length by exact ac 29809863772788)<|a.de c<|dT b)<|j i c f b h,a.de,a.dt⟩
 ·exact V (e.fg _ (.inl<|nN _) λx b=>.inl (by have:=g x b;exact aj 0x98a66a1d174 this) ..)<|a.ee
 ·have:=g x b;exact cC<|>aj 0xaa3c5f7c7c90d234 this
 ·have:=g x k;have:=(dv.mp b).1;rw[a.eQ]at this;show b1+8+2*i+_<=_;exact cC<|>az 0x149b852bc1c34c35ab964ada8 ‹_› this
theorem yD {i a:Nat}{x:au}(b:cw[i]?=J a)(c:bw[i]?=J x):(a,e6 aa x)∈e5 aa bw cw:=dT (i:=i) (by unfold e5;exact Fl<|>c<|>b<|>rfl)
theorem ez.hf {g4 a:List bF}(b:ez c aa (g4++a) f){x y:bF}(d:x∈g4)(e:y∈a):nc x y:=(gX.mp b.oj).2.2 x d y e
theorem IM (g:ez c aa (H++(e5 aa bw cw++cZ)) f):∀(i b:Nat) (e:List UInt8),cw[i]?=J b->(bw.map<|au.bQ aa)[i]?=J e->∀x∈cZ,b+e.length<=x.1\/x.1+4<=b:=by intro i b e m h x j;rw[cv]at h;refine aU (fw.mp h) λy n k=>?_;subst k;have a:=g.fT x (cP _<|cP _ j);have d:=(gX.mp (gX.mp g.oj).2.1).2.2 _ (yD m n) x j;have l:=@vA aa y;exact d.imp (λ(c:b+e6 aa y<=x.1)=>by exact az 0x9b4d006d1184 l c) λ(c:x.1+x.2<=b)=>by exact aj 80800774279092 a c
theorem c0.Ix (a:c0 aa b1 d bw cw cZ c f H)(k:List UInt8)(e:fi d (b1+7) [dQ g] k)(l:sh f5 (b1+1) kR)(j:qD (b1+1) kR k f5)(h:ez c aa (t++(e5 aa bw cw++kR)) g)(m:kR.Pairwise λx y=>x.1+x.2<=y.1):c0 aa b1 f5 bw cw kR c g t:=by
 have i:∀x∈kR,b1+8+2*bw.length<=x.1:=λx b=>ba a.ir (h.de x<|cP _<|cP _ b);refine⟨(a.cu.K6 e).MW j (by exact ax<|>i)<|IM h,a.dg,j.ca (e.ca a.jR<|.inl<|cC<|>cL _) (.inr<|~~~ai 15554340362) λx b=>.inl ?_,?_,l,a.ir,h,m⟩
 ·have:=i x b;exact cC<|>aj 0xaa8c3db59615f734 this
 ·exact V (j.fg _ (.inr<|~~~ai 21556389030) λx b=>.inl (by have:=i x b;exact aj 0xdb0d3122968174 this) ..)<|e.dA.kD
end
theorem fi.acR {x:UInt8}(b:Z[g]?=J x):fi Z g [x] Z:=⟨rfl,λi a=>by
 have:i=0:=by rw[nK]at a;exact bo (ai 2362207 a) (ai 134)
 clear a;subst this;exact b,λc c=>rfl⟩
def x1 (n:aJ):Prop:=∀{e:w} {f:O->w->Prop} {a s d g c q h:Nat} {k:List UInt8} {j:List au} {m:List Nat} {o:List bF},e.a4 a=J k->c0 d g k j m o c q []->d<=128->4<=h->(∀b,e.ar b->f (.I 0) b)->(∀b l p r (i:Nat),b.a4 a=J l->eV a e b->c0 d g l j m p c r [(i,h)]->0<i->f (.I (i:Int)) b)->n 88 [bd (.br a) s d g,.I (h:Int)] e f
noncomputable def EB:b2:=HZ.aP.as
theorem gD.wd {c e f:Nat}{g4 b:List bF}(d:ez c e (g4++b) f)(g:b.Pairwise λx y=>x.1+x.2<=y.1):gD c e b:=⟨λx a=>d.de x<|cP _ a,λx a=>d.fT x<|cP _ a,λx a=>d.dt x<|cP _ a,g⟩
theorem afo {x y:bF}(i:(t++x::C8).Pairwise λx y=>x.1+x.2<=y.1)(j:x.1<=y.1)(k:y.1+y.2<=x.1+x.2):(t++y::C8).Pairwise λx y=>x.1+x.2<=y.1:=by
 have⟨a,f,c⟩:=gX.mp i;have⟨g,h⟩:=es.mp f;refine gX.mpr ⟨a,es.mpr ⟨λb l=>ba @k<|g b l,h⟩,λb e m d=>?_⟩;rcases dE.mp d with rfl|d
 ·exact ba (c b e x<|.head _) @j
 ·exact c b e m (.tail _ d)
theorem afk {x:bF}(d:(t++x::C8).Pairwise λx y=>x.1+x.2<=y.1):(t++C8).Pairwise λx y=>x.1+x.2<=y.1:=by have⟨a,b,c⟩:=gX.mp d;exact gX.mpr ⟨a,(es.mp b).2,λh f g e=>c h f g<|.tail _ e⟩
theorem rj {C xo Bt:List bF}{x:bF}:(C++(xo++x::Bt)).Perm (x::(C++(xo++Bt))):=aY (bN ..)<|aY (bN ..)<|rJ
theorem Ee {b e:Nat}{j:Int}{a:Nat->Nat->Prop}(d:j=(e:Int))(c:e<=b)(f:a 0 e):k6 b .bE (.I j) a:=by subst d;show a 0<|h2 _ _;exact q0 c<|>f
theorem zZ {a p:Nat}{i:Int}{b:Nat->Nat->Prop}(c:i=(p:Int))(d:p<=a)(e:b p a):k6 a (.I i) .bE b:=by subst c;show b (h2 _ _) a;exact q0 d<|>e
theorem zm {a k:Nat}(c:k<a)(q:b k):ei (hN a (k:Int)) b:=by
 have:hN a (k:Int)=J k:=by unfold hN;exact if_pos (eH _)<|>if_pos (cz.mpr c)<|>fV<|>rfl
 exact gf this q
theorem Xr {x:bF}:((t++x::C8).map cq)[t.length]?=J (cq x):=by refine cv<|>hT (cL _)<|>iD<|>?_;rfl
theorem adI {x y:bF}:((t++x::C8).map cq).set t.length (cq y)=(t++y::C8).map cq:=by refine cD<|>AO _ _ (by rw[ax];exact cL _)<|>ax<|>iD<|>cD<|>?_;rfl
section
variable {F N:aJ}
theorem aeO (T:n3 F){a m c9 d i c p e l:Nat}{x:bF}(b9:W.U m=D)(b':W.ar A)(a8:A.a4 a=J Z)(b:c0 d i Z G M (t++x::C8) c p [])(a':d<=128)(b8:4<=e)(o:x.2=l+e)(r:4<=l)(a9:A.U m=J ((t++x::C8).map cq))(q:∀f g H R (k:Nat) h,f.a4 a=J g->eV a W f->c0 d i g G M H c R [(k,e)]->0<k->P (.aI<|.I (k:Int)) h f):a6 (bn F N) (match EB with|.Y _ (.Y _<|.Y (.bJ _ E _) _)=>E|_=>.L) [J (bd (.br a) c9 d i),J (.I (e:Int)),J (.ah m),J (.I (t.length:Int)),J (.I (x.1:Int)),J (.I (x.2:Int)),J (.I (l:Int)),z] A P:=by have s:=((b.fD.iS (show([]++(e5 d G M++(t++x::C8))).Perm (x::(e5 d G M++(t++C8)))from rj)).aem o r b8).iS ((wK (x.1+l,e) (x.1,l)<|e5 d G M++(t++C8)).trans<|oI _ rj.symm);have C:=afo (y:=(x.1,l)) b.cY (cL _) (jc (by exact o<|>eN _ _) _);have n:=gD.wd (g4:=(x.1+l,e)::e5 d G M) s C;have j:=b.ir;have d8:=b.yC;refine cI ?_;intro h;refine lO (av a9<|zm (by exact ax<|>a2<|>fQ<|>ac 21240921) ?_);refine b3 ?_;intro d9 h c';refine cc (T (cZ:=t++(x.1,l)::C8) a8 (by exact cg<|>congrArg J (adI (y:=(x.1,l)))) b.cu.aH a' (by have:=b.hI;exact az 0x1ad0507376505d4da8 j this) (n.bb<|~~~aj 0xcec397f58e9eb4 j) λf g Q K c8 S=>?_);refine cl ?_;intro h c';refine bH (q f g _ p (x.1+l) _ Q ((gb.dP b9 b').mn.ak S) (b.Ix Z (fi.acR b.mj) K c8 s C) ?_);have:=n.de (x.1,l) (cP _<|.head _);dsimp-iota only at this;exact bP 0x239e4fe388914140054 r j this
theorem UE (a:R.length=g):dp (R++F8) 0 g=R:=by subst a;unfold dp;rw[oL,List.take_left'];rfl
theorem I0 {hF a:List O}(b:hF.length=g):dp (hF++a) g (hF++a).length=a:=by subst b;unfold dp;rw[nL,Pe];rfl
theorem aeQ (a9:pr F)(i':n3 F){a R m9 i f c g o l:Nat}{b:List bF}{x:bF}(n8:W.U R=D)(l9:W.ar A)(Q:A.a4 a=J Z)(d:c0 i f Z G M (t++x::b) c g [])(j:i<=128)(j':4<=o)(e:x.2=l+o)(j8:A.U R=J ((t++x::b).map cq))(l8:∀m,P (.aI<|.I 0) m A)(q:∀n r f8 h8 (p:Nat) m,n.a4 a=J r->eV a W n->c0 i f r G M f8 c h8 [(p,o)]->0<p->P (.aI<|.I (p:Int)) m n):a6 (bn F N) (match EB with|.Y _ (.Y _<|.Y _<|.Y (.bJ _ e' _) _)=>e'|_=>.L) [J (bd (.br a) m9 i f),J (.I (o:Int)),J (.ah R),J (.I (t.length:Int)),J (.I (x.1:Int)),J (.I (x.2:Int)),J (.I (l:Int)),z] A P:=by
 have d9:=(d.fD.iS (show([]++(e5 i G M++(t++x::b))).Perm (x::(e5 i G M++(t++b)))from rj)).adR e j';have d':=afk d.cY;have e9:=gD.wd (g4:=(x.1,o)::e5 i G M) d9 d';have S:=d.sV;have h:=d.ir;have j9:=d.hI;have k:=S.aH j9;rw[a2,fQ]at k;refine cI ?_;intro m;refine bx (a9 (v:=.br a) Q d.mj ?_);refine d.yT j<|>eh (λn'=>bH<|l8 _) (λb8=>?_);have b8:g+l<=57:=ac 0x26bdf9157f25b38 (gk.mp b8);have b':f+7<Z.length:=d.cu.aH<|>dN 0x1c0af3dcd17705ced339e3a8594 h k;refine b3 ?_;intro o8 m o9;refine bc (lO<|a9 (v:=.br a) Q d.mj ?_);refine d.yT j<|>kY Q ⟨⟨eH<|f+7,cz.mpr b',eH<|g+l,by exact ac 0x204cc3828cf54db38<|gk.mp ‹_›⟩,?_⟩;have e8:fi Z (f+7) [dQ (g+l)] (Z.set (f+7)<|dQ<|g+l):=Am b';have g':(A.gh a<|Z.set (f+7)<|dQ<|g+l).a4 a=J _:=mF;have a8:eV a A (A.gh a<|Z.set (f+7)<|dQ<|g+l):=rb;have c8:A.gh a (Z.set (f+7)<|dQ<|g+l)=A.gh a (Z.set ((f:Int)+7).toNat<|qZ<|(g:Int)+(l:Int)):=rfl;refine aY (c8 ..)<|?_;generalize Z.set (f+7) (dQ<|g+l)=T at*;clear c8;generalize A.gh a T=s at*;have a':=a8.U _ _ j8;have m':((t++x::b).map cq).length<=1000:=ax<|>a2<|>fQ<|>dN 0x4104d47b6172ddfc532ff4f8ecaf34122520 j h k;have b9:t.length+1<=((t++x::b).map cq).length:=ax<|>a2<|>fQ<|>ac 3058703460;have f':dp ((t++x::b).map cq) 0 t.length=t.map cq:=cD<|>UE (ax _);have g8:dp ((t++x::b).map cq) (t.length+1) ((t++x::b).map cq).length=b.map cq:=by
  have:(t++x::b).map cq=(t++[x]).map cq++b.map cq:=by refine aY (cD ..)<|bN<|>?_;rfl
  exact this<|>I0 (by refine ax<|>a2<|>?_;rfl)
 refine cc (av a'<|Ee (e:=t.length) rfl (rL b9) ?_);refine f'<|>aC (ct<|by exact ax<|>dN 0x4104bb12fdfc532ff4f8ecaf34122520 j h k) λE k8=>?_;have h9:(s.a1 E<|t.map cq).U E=J (t.map cq):=cg;have c':s.ar (s.a1 E<|t.map cq):=dS k8;generalize s.a1 E (t.map cq)=y at*;refine av (c'.U _ _ a') (zZ (p:=t.length+1) rfl b9 ?_);refine g8<|>aC (ct<|by exact ax<|>dN 0x4104bf2d6dfc532ff4f8ecaf34122520 j h k) λH k9=>?_;have h':(y.a1 H<|b.map cq).U H=J (b.map cq):=cg;have d8:y.ar (y.a1 H<|b.map cq):=dS k9;generalize y.a1 H (b.map cq)=C at*;refine av (d8.U _ _ h9) (av h'<|aC (by exact a2<|>ax<|>ax<|>ct (~~~dN 0x4104bfb502ddfc532ff4f8ecaf34122520 j h k)) λK k'=>?_);refine aY (cD ..)<|?_;have i8:(C.a1 K<|(t++b).map cq).U K=J ((t++b).map cq):=cg;have l':C.ar (C.a1 K<|(t++b).map cq):=dS k';generalize C.a1 K ((t++b).map cq)=n9 at*;have c9:=c'.ak (d8.ak l');refine i' (cZ:=t++b) (c9.a4 _ _ g') i8 (by exact e8.aH<|>d.cu.aH) j (~~~dN 0x1b5f73abd17705ced339e3a8594 h k) (e9.bb<|~~~aj 0xcec397f58e9eb4 h) λn r g9 f9 m8 i9=>cI ?_;intro m;refine bH (q n r _ (g+l) x.1 _ g9 (l9.mn.ak<|a8.ak<|c9.mn.ak i9) (d.Ix T e8 f9 m8 d9 d') ?_);have:=S.de x (cP _<|.head _);exact az 99162453113327016 h this
theorem aeP (b8:pr F)(H:n3 F){Q:db}{a o bf h i c a9 b:Nat}(S:W.U o=D)(T:W.ar A)(K:A.a4 a=J Z)(z:c0 h i Z G M t c a9 [])(P:h<=128)(R:4<=b)(l:A.U o=J (t.map cq))(b9:∀g,Q (.aI<|.I 0) g A)(q:∀m C a8 a' (n:Nat) g,m.a4 a=J C->eV a W m->c0 h i C G M a8 c a' [(n,b)]->0<n->Q (.aI<|.I (n:Int)) g m)(c8:∀g,Q .cO g A):∀(f e:List bF) (p r s y:Option O),e++f=t->gK ap [3] (a6 (bn F N) EB) (λc9=>True) ((gA (e.length:Int) f.length).map .I) [J (bd (.br a) bf h i),J (.I (b:Int)),J (.ah o),p,r,s,y,D] A Q:=by
 intro f;induction f with
 |nil=>intro e p r s y _;exact aC trivial (c8 _)|cons x f b'=>
  intro e p r s y d;subst d;refine aC trivial (ft<|av l<|fY Xr ?_);refine aF<|bx (eh (λk=>?_)<|λk=>?_)
  ·have d:x.2=(x.2-b)+b:=(w3<|~~~ac 3420570458 @k).symm;have j:(x.2:Int)-b=((x.2-b:Nat):Int):=dW (aj 2321420436610 d) (aj 4544525506979 d);exact j<|>aeO @H S T K z P R d (~~~aj 0x843d9a719a339a @k d) l q
  ·refine bc (bx<|eh (λE=>?_)<|λE=>bc<|k7 ?_)
   ·have d:x.2=(x.2-b)+b:=(w3<|~~~ac 3420570066 @E).symm;have j:(x.2:Int)-b=((x.2-b:Nat):Int):=dW (aj 2321420436610 d) (aj 4544525506979 d);exact j<|>aeQ @b8 @H S T K z P R d l b9 q
   ·have:=b' (e++[x]) (J<|.I (e.length:Int)) (J<|.I (x.1:Int)) (J<|.I (x.2:Int)) (J<|.I<|(x.2:Int)-b) (by refine bN<|>?_;rfl);rw[a2]at this;exact this
theorem acv (x:pr F)(y:sD F)(z:n3 F):x1 (bB F N):=λ{W Q a bf l m c S K R P Z n} g b e C i q=>by have A:=b.sV.aH b.hI;have T:=b.hI;refine bU Ju [J (bd (.br a) bf l m),J (.I (K:Int)),D,D,D,D,D,D] rfl rfl (aF<|y (v:=.br a) g b.kU b.jR b.yC b.hI b.sV e λa8 h G f d=>?_);refine cI ?_;intro a9;refine gV (av f ?_);refine ax<|>aC ⟨⟨by decide,by decide⟩,by constructor<;>(first|exact ai 34898773920|exact aj 0x422ac00b1ebfc749b04f28 e A)⟩ (.inl ⟨rfl,?_⟩);have:=aeP (N:=N) @x @z (bf:=bf) (Q:=h6 (bn F N) (.Y (.aI<|.ab<|.I 0) .L)<|dI Q) G d (d.a4 _ _ g) b e C f (λj=>i h d) (λH p o s M j r t k E=>q H p o s M r t k E) (λj=>bH<|i h d) n [] D D D D rfl;exact this
end
theorem LF {a:Nat}:∀{b:List au} {e:List Nat},e.length=b.length->gL (e5 a b e)=kK a b
 |[],[],_=>rfl|c::b,f::e,d=>by show e6 a c+gL (e5 a b e)=e6 a c+kK a b;exact LF (g0 d)<|>rfl
 |[],_::_,d=>nomatch d|_::_,[],d=>nomatch d
section
variable {aa b1 c f q:Nat}{d f5 r:List UInt8}{bw:List au}{cw:List Nat}{cZ H GN:List bF}
theorem fA.rB {f:List (List UInt8)}(a:fA aa b1 d ag f cw)(b:fi d q r f5)(g:b1+5<=q)(h:q+r.length<=b1+8):fA aa b1 f5 ag f cw:=⟨b.aH.trans a.aH,b.fg _ (.inl<|~~~ac 1645183036 @g)<|>a.ee,b.ca a.hu<|.inl<|by exact cC<|>ac 0x5db41b1a8c03c @g,a.eQ,a.iL,λi e c=>b.ca (a.k4 i e c)<|.inr (by show _<=b1+8+2*i;exact az 0xba0969660ef40bb70 @h),λi e r c j=>b.ca (a.dA i e r c j)<|.inr<|ba @h<|ba (show b1+8<=b1+8+2*f.length by exact ac 207012943908)<|a.de e<|dT c,a.de,a.dt⟩
theorem km.rB (c:fi d q r f5){cZ:List bF}:km d cZ->(∀x∈cZ,q+r.length<=x.1)->km f5 cZ:=by
 induction cZ with
 |nil=>exactλg g=>trivial|cons x cZ e=>exactλa b=>⟨c.ca a.1<|.inr<|ba (b x<|.head _)<|eN _ _,c.ca a.2.1<|.inr<|b x<|.head _,e a.2.2 λy f=>b y<|.tail _ f⟩
theorem km.ca {cZ:List bF}:km d cZ->(∀x∈cZ,∀j,x.1<=j->j<x.1+4->f5[j]?=d[j]?)->km f5 cZ:=by
 induction cZ with
 |nil=>exactλg g=>trivial|cons x cZ e=>exactλb c=>⟨λj a=>by rw[cC]at a;refine V (c x (.head _) _ (~~~ac 5520152) (~~~ac 9200521236985 a) ..)<|?_;exact b.1 j<|by exact cC<|>a,λj a=>by rw[cC]at a;refine V (c x (.head _) _ (~~~ac 24536) (~~~ac 63890518777 a) ..)<|?_;exact b.2.1 j<|by exact cC<|>a,e b.2.2 λy f=>c y<|.tail _ f⟩
theorem c0.UA (a:c0 aa b1 d bw cw cZ c f H)(b:fi d (b1+5) (bY 2 g) f5)(h:b1+8+2*bw.length<=g)(i:ez g aa (GN++(e5 aa bw cw++cZ)) f):c0 aa b1 f5 bw cw cZ g f GN:=by
 have e:=@cC 2 g;have k:∀x∈cZ,b1+5+(bY 2 g).length<=x.1:=λx j=>by have:=i.de x<|cP _<|cP _ j;exact bP 0x38415fd5cf0621c1afd44ec h e this
 exact⟨a.cu.rB b (cL _)<|~~~ac 0xee5476ad4a1a e,a.dg,b.dA,by exact b.fg _ (.inr<|~~~ac 0xa038d70ad4a1a e)<|>a.mj,⟨b.ca a.kU.1<|.inl<|by exact cC<|>ai 15554340362,a.kU.2.rB b k⟩,h,i,a.cY⟩
theorem c0.kK (a:c0 aa b1 d bw cw cZ c f []):kK aa bw+gL cZ+f+c=aa:=by have:=a.fD.bM;rw[gW,Yb,LF (by have:=a.cu.eQ;rw[ax]at this;exact this)]at this;exact this
end
def x2 (p:aJ):Prop:=∀{g:w} {i:O->w->Prop} {a s b d c n f:Nat} {l:List UInt8} {e:List au} {t:List Nat} {j:List bF},g.a4 a=J l->c0 b d l e t j c n []->b=64\/b=128->d+12<=b->4<=f->f+2<=c-(d+8+2*e.length)+n+gL j->(∀h m x q k r (o:Nat),h.a4 a=J m->eV a g h->c0 b d m e x q k r [(o,f)]->d+8+2*e.length+2<=k->i (.I (o:Int)) h)->p 89 [bd (.br a) s b d,.I (f:Int)] g i
noncomputable def RI:b2:=B4.aP.aP
noncomputable def RJ:b2:=B4.aP
section
variable {F N:aJ}
theorem G2 (K:il F)(P:mc F){a y f d c o b:Nat}(p:W.a4 a=J Z)(e:c0 f d Z G M t c o [])(r:f<=128)(m:4<=b)(g:d+8+2*G.length+(b+2)<=c)(q:∀h i Q A n E (s:Nat),h.a4 a=J i->eV a W h->c0 f d i G Q A n E [(s,b)]->d+8+2*G.length+2<=n->S (.I (s:Int)) h):a6 (bn F N) RI [J (bd (.br a) y f d),J (.I (b:Int)),z,D] W (dI S):=by have l:=e.hI;have j:(c:Int)-(b:Int)=((c-b:Nat):Int):=dW (aj 2321420436608 aw) (aj 2322931884226<|ay<|az 0xfb794f733897f68 g);refine aF (P (v:=.br a) p e.jR (~~~ac 0x2e46fba4a2b178 r l) ?_);refine cI ?_;intro T;refine iy (bV:=[J (bd (.br a) y f d),J (.I (b:Int)),J (.I ((c-b:Nat):Int)),D]) (by refine aY (j ..)<|?_;rfl) ?_;refine cc (K (k:=d+5) (x:=c-b) rfl rfl p (by exact e.cu.aH<|>bP 0x304585299413c865ab29e111b90 m g l) (~~~az 0x1adca731f640adc7205ab684 r m l j) λh i R C H=>?_);exact bH (q h i M t (c-b) o (c-b) C H (e.UA R (~~~bP 0x1c26175aae72b9d4d3ced79ade99a g j)<|ez.RM e.fD m<|~~~az 0xfb794f733897f68 g)<|~~~bP 0x1c6207317dc616b749d09950dd0109a g j)
theorem G3 (y:il F)(A:mc F)(a9:sz F)(a':sE F)(b8:sF F){a b' d e c x k:Nat}(j:W.a4 a=J Z)(b:c0 d e Z G M t c x [])(f:d=64\/d=128)(b9:e+12<=d)(C:4<=k)(E:k+2<=c-(e+8+2*G.length)+x+gL t)(q:∀g i r m h n (l:Nat),g.a4 a=J i->eV a W g->c0 d e i G r m h n [(l,k)]->e+8+2*G.length+2<=h->S (.I (l:Int)) g):a6 (bn F N) RJ [J (bd (.br a) b' d e),J (.I (k:Int)),z,D] W (dI S):=by
 have c8:=b.kK;have p:=b.ir;refine cI ?_;intro e';refine bx (a' (v:=.br a) j b (co f) ?_);refine eh (λo=>?_) (λo=>bc<|G2 @y @A j b (co f) C (~~~bP 0x3c821215c23ed0e65b9b3b305cbe8ce (gk.mp o) (ay<|aj 0x6dd0caddcc99a96b4 p)) q)
 ·refine cc (a9 (v:=.br a) j b.cu b.dg f λc8 d' d9 Q H=>?_);refine b8 (H.a4 _ _ j) b.cu.ee Q b.cu.aH b.dg b9 (by exact py 0x1100be225b58ef92ab159db89eb31e5823791afde4816636 E ‹_› p o) f λe8 d8 e9 c' R a8 s=>?_;have K:=s.kK;have c9:gL []=0:=rfl;rw[c9]at K;exact bc (G2 @y @A R s (co f) C (by exact nd 0x390c77f34dcc8c5ebbbd95c705bcf02cc6cfed45addc521d62003ac E ‹_› K (ay<|aj 0x6dd0caddcc99a96b4 p)) λg i r m h n l P T=>q g i r m h n l P<|H.mn.ak<|a8.ak T)
theorem acw (k:il F)(l:mc F)(m:sz F)(g:sE F)(T:x1 F)(n:sF F):x2 (bB F N):=λ{d9 c8 a a9 x j c d8 a8 c' C a' c9} e d f o h p q=>by
 refine bU Jk [J (bd (.br a) a9 x j),J (.I (a8:Int)),D,D] rfl rfl (bx<|g (v:=.br a) e d (co f) ?_);refine eh (λb=>?_) (λb=>bc<|G3 @k @l @m @g @n e d f o h p q)
 ·refine b3 ?_;intro e8 b9 b';refine aF (T e d (co f) h (λs r=>?_) λs G z Q i M S t W=>?_)
  ·refine cl ?_;intro b9 b';refine bx<|bc (bc ?_);exact G3 @k @l @m @g @n (r.a4 _ _ e) d f o h p λZ E b8 y A P i K R=>q Z E b8 y A P i K (r.mn.ak R)
  ·exact bx (rd (λd'=>bH<|q s G a' z c Q i M S t (by have b:2<=c-(j+8+2*C.length):=eM.mp b;exact ba (fv<|ll _ 2)<|Nat.add_le_of_le_sub (gY<|Nat.lt_of_sub_pos<|ef Nat.two_pos b) b))<|λH=>absurd (iW.mp H)<|P2 W)
noncomputable def XI:b2:=HX.aP.aP.aP.aP.aP.aP.as
theorem U4 (d':jm F)(e8:il F){a S M Q h i:Nat}{W Z a8 a9:Option O}{cw:List Nat}(s:∀b,b∈cw->b<65536):∀(k:Nat) (l:Int) (n:w) (f:List UInt8) (g:Option O),l=((i+k:Nat):Int)->n.a4 a=J f->i+k<=cw.length->h+2*(i+k)+2<=f.length->(∀j b,j<i+k->cw[j]?=J b->bA f (h+2*j) (bY 2 b))->(∀o m g,o.a4 a=J m->eV a n o->m.length=f.length->(∀j,(j<h+2*i+2\/h+2*(i+k)+2<=j)->m[j]?=f[j]?)->(∀j b,i<=j->j<i+k->cw[j]?=J b->bA m (h+2*(j+1)) (bY 2 b))->P .cO [J (bd (.br a) S M Q),z,W,Z,a8,a9,J (.I (h:Int)),g,D] o)->gK ap [7] (a6 (bn F N) XI) (λK=>True) ((lD l k).map .I) [J (bd (.br a) S M Q),z,W,Z,a8,a9,J (.I (h:Int)),g,D] n P:=by
 intro k;induction k with
 |zero=>intro l n f g t r C E A q;exact aC trivial (q n f g r .cf rfl (λK K=>rfl) λj b y e K=>absurd @e<|kO.mpr @y)|succ k e'=>
  intro l n f g t r C E A q;refine aW (show∃b,cw[i+k]?=J b from⟨_,du<|~~~aj 4320306550238 C⟩) λb d=>?_;have T:=@cC 2;have c9:(h:Int)+2*l-2=((h+2*(i+k):Nat):Int):=t<|>dW (aj 0x12c648be174492085270c) (aj 0x8167f687ff39db5eb4fe);have c':(h:Int)+2*l=((h+2*(i+k+1):Nat):Int):=t<|>dW (aj 0x6eaa3a46152fcc934eb2) (aj 0x6ed56f4c8d2c8b8a0abe);refine aC trivial (cc<|aC (.inl ⟨by decide,by decide⟩)<|aC (.inl ⟨by decide,by decide⟩) ?_);refine d' (v:=.br a) (k:=h+2*(i+k)) c9 r (A _ b (nN _) d) (s b<|dT d)<|e8 (k:=h+2*(i+k+1)) (x:=b) c' rfl r (~~~az 0xaeed3fa68246f08ba50e86968 E) (s b<|dT d) λf9 b9 p c8 d9=>?_;have a':=p.fg;rw[T]at a';refine e' (l-1) f9 b9 _ (by exact t<|>wJ ((i+k:Nat):Int) 1) c8 (~~~aj 4320238974912 C) (by exact p.aH<|>az 0xe28f306bafcbde940e86968 E) (λj b d s=>p.ca (A j b (w1 d) s)<|.inl<|by exact T<|>az 0x4831c10920e9b08cf55e17a3 d) λo m g b' d8 f8 R g8=>q o m g b' (d9.ak d8) (f8.trans p.aH) (λj d=>by exact V (R j (d.imp_right λc=>by exact az 0xe28f306bafcbde940e86968 c) ..)<|V (a' j (by exact fd λb8=>d.elim (λH=>az 0x1e0d9e3ecea1f0e408e5ad3bd9232dd48fe09631fa11711 b8 H) λH=>az 0xaeed3fa68246f08ba50e86968 H) ..)<|rfl) λj f' y e G=>?_;rcases FC (lT @e)with e|e
  ·exact g8 j f' @y @e G
  ·have e:j=i+k:=e;subst e;rw[d]at G;cases G;exactλx e9=>by exact R _ (by exact fd λb8=>az 0x14b939273fde2702fe970)<|>p.dA x e9
end
theorem IH {e f:Nat}{x:au}:∀{i:Nat} {a:List au} {d:List Nat},d.length=a.length->i<=a.length->(e5 e (a.insertIdx i x)<|d.insertIdx i f).Perm ((f,e6 e x)::e5 e a d)
 |0,a,d,_,_=>by exact Ps<|>Ps<|>iX _
 |i+1,[],_,_,b=>absurd b (rU _)|i+1,c::a,[],b,_=>nomatch b|i+1,c::a,q::d,b,g=>by exact Fn<|>Fn<|>(oI (q,e6 e c)<|IH (g0 b)<|qe g).trans (wK _ _ _)
theorem LO {c b j:Nat}{d H:List bF}(e:ez c b (H++(e5 b G M++d)) j)(h:M.length=G.length):∀a,a∈M->c<=a/\a+4<=b:=λa l=>by refine aW (p6 l) λi f=>aW (show∃x,G[i]?=J x from⟨_,du<|by exact aY (h ..)<|(dv.mp f).1⟩) λx k=>?_;have g:(a,e6 b x)∈H++(e5 b G M++d):=cP _ (dJ _<|yD f k);exact⟨e.de _ g,ba (jc yI a)<|e.dt _ g⟩
def qO (l:aJ):Prop:=∀{f:w} {g:O->w->Prop} {a r b e c p i:Nat} {j:List UInt8} {h:List au} {s:List Nat} {m:List bF} {x:au},f.a4 a=J j->c0 b e j h s m c p []->b=64\/b=128->e+12<=b->i<=h.length->x.dg b->(∀d,f.ar d->g (.bs ap) d)->(∀d k t n o q,d.a4 a=J k->eV a f d->c0 b e k (h.insertIdx i x) t n o q []->g (.bs ag) d)->l 91 [bd (.br a) r b e,.I (i:Int),.aA (x.bQ b)] f g
section
variable {F N:aJ}
theorem XV {aa k c b9 i n:Nat}{W a8 c9 E:List UInt8}{x:au}(g:c0 aa k Z G M t c b9 [(n,e6 aa x)])(s:aa<=128)(g9:x.dg aa)(z:i<=G.length)(m:k+8+2*G.length+2<=c)(S:fi Z n (x.bQ aa) W)(g8:a8.length=W.length)(c8:∀j,(j<k+8+2*i+2\/k+8+2*G.length+2<=j)->a8[j]?=W[j]?)(g':∀j q,i<=j->j<G.length->M[j]?=J q->bA a8 (k+8+2*(j+1)) (bY 2 q))(F:fi a8 (k+8+2*i) (bY 2 n) c9)(A:fi c9 (k+3) (bY 2<|G.length+1) E):c0 aa k E (G.insertIdx i x) (M.insertIdx i n) t c b9 []:=by
 have P:M.length=G.length:=by have:=g.cu.eQ;rw[ax]at this;exact this
 have p:=@cC 2;have R:(G.insertIdx i x).length=G.length+1:=Pv z x;have K:=g.hI;have C:=@vA aa x;have b8:=g.fD.de (n,e6 aa x) (.head _);have N:=g.fD.dt (n,e6 aa x) (.head _);dsimp-iota only at b8 N;have e9:ez c aa ([]++(e5 aa (G.insertIdx i x) (M.insertIdx i n)++t)) b9:=g.fD.iS ((IH P z).symm.append_right t);have Q:∀{q r},bA Z q r->q+r.length<=k+3\/(k+5<=q/\q+r.length<=k+8+2*i)->bA E q r:=λ{q r} d h j f=>by exact A.fg _ (by rw[p];exact fd λb=>h.elim (λe=>az 0x5cbc34a3d11f24b2fe3a5fb96d99971b284bb2ae44fa1165b f b e) λe=>aj 0xa79798d575d8920 e.1)<|>F.fg _ (by rw[p];exact fd λb=>h.elim (λe=>bP 0x148d10b7e3344b7dc88068daa0d2915826ca08fd5c2be0a85fe9d55b f b e) λe=>bP 0x10eefbf684c5ed30694b0fb0d6589a582a3975181f62d449330bfa1165b f b e.2)<|>c8 _ (by exact fd λb=>h.elim (λe=>me 0x51bf15598d915869bd9aa3735b4975c983be55396b0af101f42ec80ceef81d0c963d2d00c0b2bc s m K f b e) λe=>me 0x746491e602117371abce021c8ee751aaa2cf8e6ee3ca05ca851f42ec80ceef81d0c963d2d00c0b2bc s m K f b e.2)<|>S.fg _ (by exact fd λb=>h.elim (λe=>nd 0x6f02ce1d1a571dc3a41ae39457abd92fe2346510df30d053b269e892326aff813db627227bf8bade3d8a8a8 s m C b8 N f b e) λe=>px 0x1109028b12994ce29afe8e258b696081c793d19f9a4e81b96b4ffec0d914ab4b98dc7c6f5d517a58ad5e1eace2fbae4ef7ebfe s z m C b8 N f b e.2)<|>d j f
 have e8:∀{q r},bA W q r->c<=q->bA E q r:=λ{q r} d h j f=>by exact A.fg _ (by rw[p];exact fd λb=>bP 0x38b1a161f7e12c9b1c7bc91a m h)<|>F.fg _ (by rw[p];exact fd λb=>dN 0x15a63d209f968ca422a4849c772ab8995 z m h)<|>c8 _ (by exact fd λb=>bP 0x2eb6d58777fc3a23951e115b71a m h)<|>d j f
 have ff:∀{x:UInt8} {n:Nat},Z[n]?=J x->bA Z n [x]:=λ{x n} d j f=>by
  have:j=0:=by rw[nK]at f;exact bo (ai 2362207 f) (ai 134)
  clear f;subst this;exact d
 have f8:(M.insertIdx i n).length=(G.insertIdx i x).length:=R<|>Pv (P▸z) n<|>P<|>rfl;have d9:=LO (H:=[]) e9 f8;have c':(n,e6 aa x)∈[(n,e6 aa x)]:=.head _;have cell:∀(j q:Nat) (y:au),M[j]?=J q->G[j]?=J y->bA E q (y.bQ aa):=λj q y d o=>by have e':=yD (aa:=aa) d o;have a:=g.fD.hf c' (dJ _ e');have T:=g.fD.de _ (cP _<|dJ _ e');have l:=@vA aa y;unfold nc at a;dsimp-iota only at a T;exact e8 (S.ca (g.cu.dA j q _ d (by refine cv<|>o<|>?_;rfl))<|by exact ya λb=>a.elim (λe=>az 0x9b4d006d1184 C e) λe=>nd 0x72a90a194f9312a3b35005e5b4d03288b0f5631d6ffdb218a9ec86959bc46d6c548 s m C N T l b e) T
 refine⟨⟨A.aH<|>F.aH<|>g8<|>S.aH<|>g.cu.aH,(Q (ff g.cu.ee)<|.inl (by show k+1<=_;exact ai 78942116)).kD,ax<|>R<|>A.dA,ax<|>f8,?_,?_,?_,?_,λq h=>(d9 q h).2⟩,?_,Q g.jR<|.inr<|by exact p<|>⟨ai 4113291204,ac 953915637596916⟩,(Q (ff g.mj)<|.inr (by show _/\k+7+1<=_;exact⟨ai 5700609860,ac 953915628887796⟩)).kD,⟨Q g.kU.1<|.inl<|by exact p<|>ai 9552291694,?_⟩,R<|>aj 0x3a7f3f325aae4e07c8b4e m,e9,g.cY⟩
 ·refine ax<|>R<|>?_;show k+8+2*(G.length+1)<=aa;exact az 0xc224594d0738f5205f149f68 m K
 ·intro j q d;show bA E (k+8+2*j) (bY 2 q);rw[Pn]at d;split at d
  ·refine Q (g.cu.k4 j q d) (.inr ?_);show k+5<=k+8+2*j/\k+8+2*j+_<=_;exact p<|>⟨ac 6624413814852,aj 0x418e0152e51eb0660c923 ‹_›⟩
  split at d
  ·split at d
   ·rename_i f _;cases d;subst f;exact A.ca F.dA (.inr<|by exact p<|>ac 953915637016308)
   ·cases d
  ·have d8:=(dv.mp d).1;have:=g' (j-1) q (by exact(fo ‹_›).elim (λb=>fJ 0x258a36f1e35bb85e4970e8427a6b7eb848472ec70a5870754c6 s z m K (eT ‹_›) b) λb=>aj 352454232859 b aw) (~~~aj 1226021162 P d8) d;rw[show j-1+1=j by exact bo ((fo ‹_›).elim (λb=>me 0x13ea1bc7f9eb2fd5d9ac7894743946af5359bf286ca05ccdb37061cb2bc s m P K (eT ‹_›) d8 b) λb=>ac 10545038814<|ay<|ac 524329 b) (ac 42823471152 aw)]at this;exact A.ca (F.ca this<|.inr<|by exact p<|>(fo ‹_›).elim (λb=>aj 0x4244544693abedc0967948ce6141bfa117d5 (eT ‹_›) b) λb=>aj 0x418e0152e51eb0660c923 b) (.inr<|by exact p<|>ac 953915637016308)
 ·intro j q r d d';rw[cv]at d';refine aU (fw.mp d') λy o f9=>?_;subst f9;rw[Pn]at d o;split at d
  ·rename_i f;rw[if_pos f]at o;exact cell j q y d o
  split at d
  ·rename_i f b';rw[if_neg f,if_pos b']at o;split at d
   ·cases d;split at o
    ·cases o;exact e8 S.dA b8
    ·cases o
   ·cases d
  ·rename_i f b';rw[if_neg f,if_neg b']at o;exact cell _ q y d o
 ·intro q h;refine ax<|>R<|>?_;have:=(d9 q h).1;show k+8+2*(G.length+1)<=q;exact az 0xc224594d0738f5205f149f68 m this
 ·intro y h;rcases(List.mem_insertIdx z).mp h with rfl|h
  ·exact g9
  ·exact g.dg y h
 ·refine g.kU.2.ca λT h j a' f'=>?_;have a:=g.fD.hf c' (cP _ h);have a9:=g.fD.de _ (cP _<|cP _ h);have h8:=g.fD.fT _ (cP _<|cP _ h);unfold nc at a;dsimp-iota only at a;exact A.fg _ (by rw[p];exact fd λb=>bP 0x36df8f808e8555232703e051a m @a' a9)<|>F.fg _ (by rw[p];exact fd λb=>dN 0x146bda8ba3bb0fa1f7ee4849c772ab8995 z m @a' a9)<|>c8 _ (by exact fd λb=>bP 0x2d3127aa676e4de971a2968d891a m @a' a9)<|>S.fg _ (by exact fd λb=>a.elim (λe=>bP 0xdec85cf43091bee C @a' e) λe=>nd 0x1125570aa451dbeaf7228884da31e3eb97c62bf4e9bb20c6b3eb927434b890cfb4c1bc46d6c548 s m C N @f' a9 h8 b e)<|>rfl
theorem acz (g9:jm F)(H:il F)(g':jn F)(h8:n1 F)(h9:vg F)(h':x2 F):qO (bB F N):=λ{p8 m' a a8 b n c o9 i n9 f cw n8 x} S z r W t k9 k' l8=>by
 have K:=co r;have e8:(if(4:Int)<(x.bQ b).length then((x.bQ b).length:Int)else 4)=(e6 b x:Int):=by unfold e6;split<;>(first|exact dW (ac 16616040<|qd _ _) (ac 16616042<|rQ<|ai 28977051 ‹_›)|exact dW (ai 704816<|lS _ _)<|ai 52976002<|rP<|ai 299456546<|gk.mp ‹_›)
 have l9:=@cC 2;refine bU Jo [J (bd (.br a) a8 b n),J (.I (i:Int)),J (.aA<|x.bQ b),D,D,D,D,D,D] rfl rfl (aF ?_);refine cl ?_;intro E m9;refine iy (bV:=[J (bd (.br a) a8 b n),J (.I (i:Int)),J (.aA<|x.bQ b),J (.I (e6 b x:Int)),D,D,D,D,D]) (by refine aY (e8 ..)<|?_;rfl) ?_;refine cI ?_;intro E;refine bx (h9 (v:=.br a) S z K λj9 P=>?_);refine eh (λm8=>bH<|k' j9 P) (λi'=>?_);have T:=P.a4 _ _ S;have i8:f.length<65536:=by have:=z.ir;have:=z.hI;exact az 0x8c5700f922a5e07ba871b8ef4 (co r) ‹_› this
 refine bc (aF<|g' (v:=.br a) T z.hu i8 ?_);refine b3 ?_;intro q9 E m9;refine aF (h' T z r W yI (~~~az 0x7f8bff77c3d567402dc (gk.mp i')) λC o a9 b9 b' e9 p c' e' d g=>?_);have l:=d.fD.de (p,e6 b x) (.head _);have m:=d.fD.dt (p,e6 b x) (.head _);dsimp-iota only at l m;have c8:=@vA b x;have A:=d.cu.aH;have M:p+(x.bQ b).length<=o.length:=bP 0x13602b4e10eb19bc m c8 A;have y:=An M;refine Er (kY c'<|pV (p:=p) (e:=p+(x.bQ b).length) rfl rfl (ba (eN _ _) M) M ⟨rfl,?_⟩);have R:(C.gh a<|o.take p++x.bQ b++o.drop (p+(x.bQ b).length)).a4 a=J _:=mF;have f8:eV a C (C.gh a<|o.take p++x.bQ b++o.drop (p+(x.bQ b).length)):=rb;generalize o.take p++x.bQ b++o.drop (p+(x.bQ b).length)=G at*;generalize C.gh a G=j' at*;have j8:G[n]?=J (lI ag):=y.fg _ (.inl<|~~~az 0xd282830862a09f68 g l)<|>d.cu.ee;refine cI ?_;intro E;refine aF (h8 (v:=.br a) ag R j8<|gV ?_);refine aC ⟨by constructor<;>(first|exact ai 34898773920|exact dN 0x10abaac3353a4d64eb65caa8af341262520 (co r) g l m),by constructor<;>(first|exact ai 34898773920|exact fJ 0x55d14240d5b21e1c61d66decf2e929a9cc3654c6 (co r) t g l m)⟩ (.inr ⟨rfl,?_⟩);have i9:a9.length=f.length:=by have:=d.cu.eQ;rw[ax]at this;exact this
 have s:i+(f.length-i)=f.length:=mN t;have o':=d.hI;refine V (show((f.length:Int)-(i:Int)).toNat=f.length-i by exact bo (az 0x2b5af6a2283413 s<|ie<|ac 328801704 t)<|az 0x6b81b8260150f2 s<|ie<|ac 328801704 t)<|U4 @g9 @H (h:=n+8) (i:=i) (cw:=a9) (λq k=>d.cu.zH K k) (f.length-i) f.length j' G D (by exact s<|>rfl) R (by exact s<|>i9<|>cL _) (by exact s<|>y.aH<|>fJ 0x3eaa1de9f1229059c9a8fa7ba626e922f6 g l m A) (λj q m8 h=>y.ca (d.cu.k4 j q h)<|.inl ?_) λp9 n' q8 d8 f9 Q Z a'=>?_
 ·have:=(dv.mp h).1;show n+8+2*j+_<=p;exact l9<|>fJ 0x7856e5cde2bfe7fc98c248b3b73686515c409f76 g l s ‹_›
 rw[s]at Z a';refine cI ?_;intro E;refine cc (aC (.inl ⟨by decide,by decide⟩)<|H (k:=n+8+2*i) (x:=p) rfl rfl d8 (by exact Q<|>y.aH<|>me 0x247791ece2ef052f3618078fad228d5d27cb1a95 t g l m A) (~~~aj 0x316254bc47c56c6c (co r) m) λp' o8 b8 d9 f'=>?_);refine cc (H (k:=n+3) (x:=f.length+1) rfl rfl d9 (by exact b8.aH<|>Q<|>y.aH<|>aj 0xb754b59942a73f6a W A) (~~~dN 0x2b8c30f657786ec8eb65caa8af341262520 (co r) g l m) λk8 c9 l' d' g8=>?_);exact bH (l8 k8 c9 _ b9 b' e9 d' (P.mn.ak<|e'.ak<|f8.ak<|f9.ak<|f'.ak g8)<|XV d K k9 t g y Q Z a' b8 l')
end
noncomputable def jy (a:bF):List bF->List bF
 |[]=>[a]|x::b=>if x.1<a.1 then x::jy a b else a::x::b
theorem y0 {e:bF}{l:List bF}:(jy e l).Perm (e::l):=by
 induction l with
 |nil=>exact iX _|cons x b a=>
  unfold jy;split
  ·exact(oI x a).trans (wK _ _ _)
  ·exact iX _
theorem XS {l:List bF}:l.Pairwise (λx y=>x.1+x.2<=y.1)->(∀x∈l,nc i x/\0<x.2)->0<i.2->(jy i l).Pairwise λx y=>x.1+x.2<=y.1:=by
 induction l with
 |nil=>exactλh h h=>PD _ _|cons x n m=>
  exactλe g k=>by
   have⟨f,j⟩:=es.mp e;have d:=g x (.head _);unfold jy;by_cases b:x.1<i.1
   ·refine if_pos b<|>es.mpr ⟨λy a=>?_,m @j (λy a=>g y<|.tail _ a) k⟩;rcases dE.mp (y0.mem_iff.mp a)with rfl|a
    ·exact d.1.elim (λ(c:y.1+y.2<=x.1)=>absurd (ef b<|ba (eN _ _) c)<|eI _) id
    ·exact f y a
   ·refine if_neg b<|>es.mpr ⟨λy a=>?_,e⟩;rcases dE.mp a with rfl|a
    ·exact d.1.elim id λ(c:y.1+y.2<=i.1)=>absurd (ef (wZ d.2) c) b
    ·exact ba (d.1.elim id λ(c:x.1+x.2<=i.1)=>absurd (ef (wZ d.2) c) b) (ba (eN _ _)<|f y a)
noncomputable def i4 (x:bF):Int×Int:=((x.1:Int),(x.2:Int))
theorem SO {l:List bF}:vr (l.map cq)=J (l.map i4):=by
 induction l with
 |nil=>exact rfl|cons x l a=>exact by show(vr<|l.map cq).map _=_;refine a<|>?_;rfl
theorem XT {l:List bF}:pJ ((l++[i]).map i4)=(jy i l).map i4:=by
 have b:∀l:List bF,(l.map i4).takeWhile (λx=>dk (x.1<(i4 i).1))++i4 i::(l.map i4).dropWhile (λx=>dk (x.1<(i4 i).1))=(jy i l).map i4:=λl=>by
  induction l with
  |nil=>rfl|cons x e d=>
   unfold jy;by_cases c:x.1<i.1
   ·have a:dk ((i4 x).1<(i4 i).1)=ag:=decide_eq_true (cz.mpr c);refine V (if_pos c ..)<|V (f1 ..)<|V (AS (p:=λx:Int×Int=>dk (x.1<(i4 i).1)) a ..)<|V (Pb (p:=λx:Int×Int=>dk (x.1<(i4 i).1)) a ..)<|V (f1 ..)<|aY (d ..)<|?_;rfl
   ·have a:¬dk ((i4 x).1<(i4 i).1)=ag:=λb=>c (cz.mp<|of_decide_eq_true b);refine V (if_neg c ..)<|f1<|>AR (p:=λx:Int×Int=>dk (x.1<(i4 i).1)) a<|>Pa (p:=λx:Int×Int=>dk (x.1<(i4 i).1)) a<|>?_;rfl
 unfold pJ;refine cD<|>rH<|>AK<|>?_;dsimp only;exact AF<|>b l
theorem aef {l:List bF}(a:W.U g=J ((l++[i]).map cq))(e:l.length<60)(k:l.Pairwise λx y=>x.1<y.1)(j:∀x∈l,x.1≠i.1)(q:hc W ((jy i l).map cq) S):En (.ah g) W S:=by
 refine av a ?_;have f:io ((l++[i]).map cq)=D:=by cases l<;>rfl
 refine f<|>SO<|>⟨⟨by exact ax<|>a2<|>eo (P6 e) (~~~_),?_,λm b x c=>?_⟩,XT<|>oO<|>q⟩
 ·exact cD<|>rH<|>AF<|>Fx.mpr (k.imp λa=>cz.mpr a)
 ·rw[cD,rH]at b c;rw[AK]at b;cases b;rw[AF]at c;refine aU (eS.mp c) λy h d=>?_;subst d;exactλa=>j y h (iW.mp a)
theorem mx {v:O}(q:a v):nx (R++[v]) (-1) a:=by
 have:hN (R++[v]).length (-1)=J R.length:=by unfold hN;exact if_neg (~~~_)<|>a2<|>nK<|>if_pos (~~~ai 146014129432)<|>congrArg J (~~~bo (ac 27558644399334<|ie<|ai 146014129432) (ac 3514245790951<|ie<|ai 146014129432))
 exact gf this (gf (x:=v) (by refine hT (cL _)<|>iD<|>?_;rfl) q)
theorem ZB {v:O}(q:b R.length):ei (hN (R++[v]).length (-1)) b:=by
 have:hN (R++[v]).length (-1)=J R.length:=by unfold hN;exact if_neg (~~~_)<|>a2<|>nK<|>if_pos (~~~ai 146014129432)<|>congrArg J (~~~bo (ac 27558644399334<|ie<|ai 146014129432) (ac 3514245790951<|ie<|ai 146014129432))
 exact gf this q
theorem kB {C:cG}{l b:aX}(c:ao C l f W (el λa W=>if a then ao C b f W (el λa W=>S (.bs a) W)else S (.bs ap) W)):ao C (.hG l b) f W S:=c
theorem CH {C:cG}{i b:Nat}(d:f.b7 i=J (.ah b))(c:W.U b=J R)(g:∀a,W.ar a->S (.bs !R.isEmpty) a):ao C (.a7 .eq (.X i)<|.ah .L) f W S:=by refine gf d<|aC (ct<|dB _) λh e=>?_;have l:=dS (x:=[]) e;exact av (l.U _ _ c) (av cg<|g _ l)
theorem CI {C:cG}{i b:Nat}{hF:List O}{v:O}(d:f.b7 i=J (.ah b))(c:W.U b=J (hF++[v]))(e:∀a,W.ar a->S (.bs ag) a):ao C (.a7 .eq (.X i)<|.ah .L) f W S:=CH d c λa l=>by
 have:(hF++[v]).isEmpty=ap:=by cases hF<;>rfl
 exact this<|>e a l
theorem Kz {C:cG}{i b:Nat}(d:f.b7 i=J (.ah b))(c:W.U b=J [])(e:∀a,W.ar a->S (.bs ap) a):ao C (.a7 .eq (.X i)<|.ah .L) f W S:=CH d c e
noncomputable def CX:b2:=B5.aP.aP.as
noncomputable def Li:b2:=B5.aP.aP.aP
section
variable {F N:aJ}
theorem Xg {f h j k l:Option O}(a:W.U g=J [])(q:∀c,cW (·=g) W c->c.U g=J [cq i]->P .cO [z,f,h,J (.ah g),j,J (cq i),k,l,D] c):a6 (bn F N) CX [z,f,h,J (.ah g),j,J (cq i),k,l,D] W P:=by refine cI ?_;intro o;refine bx (kB<|Kz rfl a λm b=>?_);refine bc (bx<|kB<|Kz rfl (b.U _ _ a) λn e=>?_);have d:=e.U _ _ (b.U _ _ a);refine cc (av @d<|av @d ⟨by decide,?_⟩);exact bc (k7<|q _ ((b.ak e).ds.ak gb) cg)
theorem Xi {f h s y:Option O}{a:bF}(m:W.U g=J (t.map cq++[cq a]))(H:t.length<=100)(j:a.1+a.2<=i.1)(K:¬i.1<a.1+a.2+4->∀b,cW (·=g) W b->b.U g=J (t.map cq++[cq a]++[cq i])->P .cO [z,f,h,J (.ah g),J (.I (Q:Int)),J (cq i),s,y,D] b)(M:i.1<a.1+a.2+4->i.1-(a.1+a.2)<=Q/\∀b,cW (·=g) W b->b.U g=J (t.map cq++[cq (a.1,i.1+i.2-a.1)])->P .cO [z,f,h,J (.ah g),J (.I ((Q-(i.1-(a.1+a.2)):Nat):Int)),J (cq i),J (.I (a.1:Int)),J (.I (a.2:Int)),D] b):a6 (bn F N) CX [z,f,h,J (.ah g),J (.I (Q:Int)),J (cq i),s,y,D] W P:=by
 refine cl ?_;intro l A;refine bx (kB<|CI rfl m λR o=>?_);have e:=o.U _ _ m;refine av @e (mx<|av @e<|mx ?_);refine fN (λd=>eI _<|ef (cz.mp d) j)<|bc (bx<|kB<|CI rfl @e λS r=>?_);have c:=r.U _ _ @e;refine av @c (mx<|av @c<|mx ?_);have p:=(o.ak r).ds (T:=(·=g));have n:((i.1:Int)-(a.1:Int)-(a.2:Int)<4)↔i.1<a.1+a.2+4:=⟨λk=>aj 0x54e167b89e125e51 k,λk=>aj 0xe224df27f47316d k⟩;refine eh (λd=>?_) (λd=>?_)
 ·refine bW (M<|n.mp d) λG q=>ft (av @c<|mx ?_);refine aF ?_;have C:(Q:Int)-((i.1:Int)-(a.1:Int)-(a.2:Int))=((Q-(i.1-(a.1+a.2)):Nat):Int):=dW (dN 0x3d0c3f3858690797535d340 aw<|ay<|aj 25563529852 j) (dN 0xb1d6e4651f00639b6c15340 aw<|ay<|ac 354984 G);have E:(i.1:Int)+(i.2:Int)-(a.1:Int)=((i.1+i.2-a.1:Nat):Int):=dW (az 0xd6d35df2c2fefb0 aw) (az 0x6d0c91aa71eb6b2<|ay<|az 65360754704 j);refine cl ?_;intro l A;refine iy (bV:=[z,f,h,J (.ah g),J (.I ((Q-(i.1-(a.1+a.2)):Nat):Int)),J (cq i),J (.I (a.1:Int)),J (.I (a.2:Int)),D]) (by refine aY (C ..)<|?_;rfl) ?_;refine cl ?_;intro l A;refine lO (av @c<|ZB ?_);refine bc (k7<|q _ (p.ak gb) ?_);refine cg<|>AO _ _ (cL _)<|>iD<|>E<|>?_;rfl
 ·refine cI ?_;intro l;exact cc (av @c<|av @c ⟨a2<|>ax<|>eo (jd H) (~~~_),bc<|k7<|K (λx=>d<|n.mpr x) _ (p.ak gb) cg⟩)
end
section
variable {aa b1 c f:Nat}{d f5:List UInt8}{bw:List au}{cw:List Nat}{cZ kR H:List bF}
theorem fi.bI (a:bA d g Z):fi d g Z d:=⟨rfl,a,λb b=>rfl⟩
theorem c0.aaD (k:c0 aa b1 d bw cw cZ c f H)(m:fi d (b1+5) (bY 2 g) Z)(j:fi Z (b1+7) [dQ Q] n8)(h:qD (b1+1) kR n8 o8)(n:sh o8 (b1+1) kR)(l:b1+8+2*bw.length<=g)(b:ez g aa (e5 aa bw cw++kR) Q)(o:kR.Pairwise λx y=>x.1+x.2<=y.1):c0 aa b1 o8 bw cw kR g Q []:=by
 have i:=@cC 2 g;have e:∀x∈kR,b1+8+2*bw.length<=x.1:=λx a=>ba l (b.de x<|cP _ a);refine⟨((k.cu.rB m (cL _)<|~~~ac 0xee5476ad4a1a i).K6 j).MW h (by exact ax<|>e)<|IM (H:=[]) b,k.dg,h.ca (j.ca m.dA<|.inl<|~~~ac 0xa038d70ad4a1a i) (.inr<|~~~ai 15554340362) λx a=>.inl ?_,?_,n,l,b,o⟩
 ·have:=e x a;exact az 0x13ea1836c31cb6c58be6 i this
 ·exact V (h.fg _ (.inr<|~~~ai 21556389030) λx a=>.inl (by have:=e x a;exact aj 0xdb0d3122968174 this) ..)<|j.dA.kD
end
theorem afn (k:(t++i::Q9::C8).Pairwise λx y=>x.1+x.2<=y.1):(t++(i.1,Q9.1+Q9.2-i.1)::C8).Pairwise λx y=>x.1+x.2<=y.1:=by
 have⟨d,e,b⟩:=gX.mp k;have⟨f,g⟩:=es.mp e;have⟨h,j⟩:=es.mp g;refine gX.mpr ⟨d,es.mpr ⟨λy l=>?_,j⟩,λx c y a=>?_⟩
 ·have:=h y l;have:=f Q9<|.head _;dsimp-iota only;exact bP 0xa47cbabfb83c0a24 ‹_› (ay (az 65360754704 this))
 ·rcases dE.mp a with rfl|a
  ·exact b x c i (.head _)
  ·exact b x c y (.tail _<|.tail _ a)
theorem Vo {C:cG}{i a:Nat}(c:f.b7 i=J (.I (a:Int)))(d:S (.I (a:Int)) W):ao C (.i6 (.ab<|.I 0)<|.X i) f W S:=by
 refine gf c ?_;show S (.I (if(0:Int)<(a:Int)then(a:Int)else 0)) W;have b:(if(0:Int)<(a:Int)then(a:Int)else 0)=(a:Int):=by split<;>(first|exact dW (ai 10) (ai 10)|exact dW (ai 24)<|ai 262722618<|gk.mp ‹_›)
 exact b<|>d
def x3 (n:aJ):Prop:=∀{e:w} {g:O->w->Prop} {a t b d c r l k:Nat} {i:List UInt8} {h:List au} {m:List Nat} {o:List bF},e.a4 a=J i->c0 b d i h m o c r [(l,k)]->b<=128->d+12<=b->(∀f j p q s,f.a4 a=J j->eV a e f->c0 b d j h m p q s []->g .bE f)->n 93 [bd (.br a) t b d,.I (l:Int),.I (k:Int)] e g
section
variable {F N:aJ}
theorem Xh {t S c:Nat}{C:List bF}(T:∀k b,B9 k->cW (·=t) k b->B9 b)(b8:S<=128):∀(g m:List bF) (s:Nat) (k:w) (d e f:Option O),B9 k->k.U t=J (m.map cq)->ez c S (C++(m++g)) s->(m++g).Pairwise (λx y=>x.1+x.2<=y.1)->(∀b i n d e f,cW (·=t) k b->b.U t=J (i.map cq)->ez c S (C++i) n->i.Pairwise (λx y=>x.1+x.2<=y.1)->(m++g≠[]->i≠[])->P .cO [z,z8,A8,J (.ah t),J (.I (n:Int)),d,e,f,D] b)->gK ap [5] (a6 (bn F N) CX) B9 (g.map cq) [z,z8,A8,J (.ah t),J (.I (s:Int)),d,e,f,D] k P:=by
 intro g;induction g with
 |nil=>intro m s k d e f p H l r q;rw[dn]at l r q;exact aC p (q k m s d e f .cf H l r _root_.id)|cons h g W=>
  intro m s k d e f p H l r q;refine aC p ?_;rcases AG m with rfl|⟨j,a,rfl⟩
  ·exact Xg H λM o A=>W [h] s M _ _ _ (T _ _ p o) A l r λb i n d e f G E K R Q=>q b i n d e f (o.ak G) E K R λc8=>Q (oJ _ _)
  ·rw[AE]at*;have a8:(j++[a])++h::g=j++a::h::g:=by refine bN<|>?_;rfl
   have a9:gD c S (j++a::h::g):=a8▸gD.wd l r;have b9:j.length<=100:=by have:=a9.aH (~~~az 65801730010 l.bM);rw[a2]at this;exact az 0x729eaa8652ef6514074 b8 this
   have a':a.1+a.2<=h.1:=(es.mp (gX.mp a9.cY).2.1).1 h (.head _);rw[cD,rH]at H;refine Xi H b9 a' (λc9 M o A=>?_) λb'=>?_
   ·exact W (j++[a]++[h]) s M _ _ _ (T _ _ p o) (by exact cD<|>cD<|>A) (by exact bN (j++[a])<|>l) (by exact bN (j++[a])<|>r) λb i n d e f G E K R Q=>q b i n d e f (o.ak G) E K R λp=>Q<|bN (j++[a])<|>p
   ·rw[a8]at l r;have Z:=(l.iS<|rj.trans<|oI a rj).YZ a' b';refine⟨Z.1,λM o A=>?_⟩;refine W (j++[(a.1,h.1+h.2-a.1)]) _ M _ _ _ (T _ _ p o) (by exact cD<|>A) (by exact bN<|>(Z.2.iS (rj (C:=C) (xo:=j) (Bt:=g) (x:=(a.1,h.1+h.2-a.1))).symm)) (by exact bN<|>(afn r)) λb i n d e f G E K R Q=>q b i n d e f (o.ak G) E K R λc8=>Q (by simp-iota)
theorem Xf (l':il F)(a9:mc F)(m8:n3 F){m:w}{a W c9 b d c k' i:Nat}{r d8 p8 p9:Option O}{cZ H f:List bF}(E:m.a4 a=J Z)(g:c0 b d Z G M cZ c k' H)(j:b<=128)(b9:d+12<=b)(a':m.U W=J (f.map cq))(T:ez c b (e5 b G M++f) i)(c':f.Pairwise λx y=>x.1+x.2<=y.1)(m':f≠[])(q:∀c8 d' i' j8 l8,c8.a4 a=J d'->eV a m c8->c0 b d d' G M i' j8 l8 []->S .bE c8):a6 (bn F N) Li [J (bd (.br a) c9 b d),z,r,J (.ah W),J (.I (i:Int)),d8,p8,p9,D] m (dI S):=by
 induction f using cj with
 |nil=>exact absurd rfl m'|cons y f=>
  have b':=g.hI;have R:=g.ir;have Q:=gD.wd T c';have f':=Q.aH b';have p':=@cC 2;have e9:i<=b:=by have:=T.bM;exact dN 0x7157df7346b9e3a8594 R this
  refine cl ?_;intro n s;refine bx<|b3 ?_;intro h' n s;refine bc (ft<|av a'<|fY (k:=0) rfl ?_);have e8:∀(l:w) (h:List UInt8) (P e t:Nat) (o:List bF) (o':Option O),l.a4 a=J h->eV a m l->fi Z (d+5) (bY 2 t) h->l.U P=J (o.map cq)->ez t b (e5 b G M++o) e->o.Pairwise (λx y=>x.1+x.2<=y.1)->d+8+2*G.length<=t->e<=b->a6 (bn F N) (match Li with|.Y _ (.Y _<|.Y _ i9)=>i9|_=>.L) [J (bd (.br a) c9 b d),z,r,J (.ah P),J (.I (e:Int)),d8,J (.I (y.1:Int)),J (.I (y.2:Int)),D] l (dI S):=by intro l h P e t o o' A i8 z b8 g' h9 f8 m9;have g8:d+7<h.length:=z.aH<|>g.cu.aH<|>ac 8821275956668 b9;refine cl ?_;intro n s;refine lO (Vo rfl ?_);refine kY A ⟨⟨eH<|d+7,cz.mpr g8,eH e,by exact ac 51930417367416 j m9⟩,?_⟩;have r:fi h (d+7) [dQ e] (h.set (d+7)<|dQ e):=Am g8;refine b3 ?_;intro h' n s;refine cc (m8 (m:=l.gh a<|h.set (d+7)<|dQ e) (cZ:=o) mF b8 (by exact r.aH<|>z.aH<|>g.cu.aH) j (~~~ac 7922318267836 b9) ((gD.wd g' h9).bb<|~~~aj 0xcec397f58e9eb4 f8) λn' j' k8 j9 o8 l9=>?_);exact q n' j' o t e k8 (i8.ak<|rb.ak l9) (g.aaD z r o8 j9 f8 g' h9)
  refine cI ?_;intro n;refine bx (kB<|a9 (v:=.br a) E g.jR (~~~ac 0x2e46fba4a2b178 j b') ?_);have o9:=e8 m Z W i c (y::f) D E .cf (fi.bI g.jR) a' T c' R e9;have K:=Q.de y (.head _);have n9:((y.1:Int)-(c:Int)<4)↔y.1<c+4:=⟨λd9=>ac 34090334255591 d9,λd9=>ac 5838254322097 d9⟩;refine eh (λe'=>a9 (v:=.br a) E g.jR (~~~ac 0x2e46fba4a2b178 j b')<|eh (λf9=>?_)<|λf9=>absurd (eM.mpr K) f9) (λe'=>bc o9);have a8:=(T.iS<|rj (C:=e5 b G M) (xo:=[])).W0 (n9.mp @e');have g9:=Q.dt y (.head _);have h8:=Q.fT y (.head _);have A:(i:Int)-((y.1:Int)-(c:Int))=((i-(y.1-c):Nat):Int):=by have:=a8.1;exact dW (bP 0x9bc1b025b13423c558 aw<|ay<|ac 354984 K) (bP 0x12ed90d169269781a54 aw<|ay<|ac 354984 a8.1)
  refine b3 ?_;intro h' n s;refine aF (a9 (v:=.br a) E g.jR (~~~az 0x2818dbb3fbd243794033c4 j K g9 h8) ?_);refine cl ?_;intro n s;refine iy (bV:=[J (bd (.br a) c9 b d),z,r,J (.ah W),J (.I ((i-(y.1-c):Nat):Int)),d8,J (.I (y.1:Int)),J (.I (y.2:Int)),D]) (by refine aY (A ..)<|?_;rfl) ?_;refine cl ?_;intro n s;refine cc (l' (k:=d+5) (x:=y.1+y.2) rfl rfl E (by exact g.cu.aH<|>ac 0x5e02982ab55bc b9) (~~~aj 0x2099e9f1385f7f6b64 j g9) λl h z A e=>?_);have b8:=e.U _ _ a';refine aF (av b8<|zZ (p:=1) rfl (by exact ax<|>jd (dB _)) ?_);have k9:dp ((y::f).map cq) 1 ((y::f).map cq).length=f.map cq:=I0 (hF:=[cq y]) rfl;refine k9<|>aC (ct (by refine ax<|>?_;rw[fQ]at f';exact bP 0x145904f670ada55170ffec61a93d28 j R f')) λP n8=>?_;exact bc (e8 _ h P (i-(y.1-c)) (y.1+y.2) f D A (e.ak (dS n8).mn) z cg a8.2 (es.mp c').2 (~~~bP 0x2e7a2cdd907c0871ef9259796c R K h8)<|by exact bP 0xc4d2e8970d7e9c722 e9 K ‹_›)
theorem acB (g8:il F)(g9:mc F)(g':pr F)(h8:sD F)(h9:n3 F):x3 (bB F N):=λ{n m' a k' h c9 c S d b n8 k o g} K f i h' q=>by
 have j:=f.sV;have M:=j.aH f.hI;have n':=f.hI;have Z:=f.fD.fT (d,b) (.head _);have j9:ez c h (e5 h k o++([]++jy (d,b) g)) S:=f.fD.iS ((rJ (a:=(d,b)) (l₁:=e5 h k o) (l₂:=g)).symm.trans<|y0.symm.append_left<|e5 h k o);have l8:([]++jy (d,b) g).Pairwise (λx y:bF=>x.1+x.2<=y.1):=XS f.cY (λx m=>⟨f.fD.hf (g4:=[(d,b)]) (.head _)<|cP _ m,ef (~~~_)<|j.fT x m⟩) (ef (~~~_) Z);refine bU Jn [J (bd (.br a) k' h c9),J (.I (d:Int)),J (.I (b:Int)),D,D,D,D,D,D] rfl rfl (aF<|aC (ct<|dB _) λp a8=>?_);have T:(n.a1 p []).U p=J (([]:List bF).map cq):=cg;have P:n.ar (n.a1 p []):=dS a8;generalize n.a1 p []=o9 at*;refine cI ?_;intro m8;refine aF (g' (v:=.br a) (P.a4 _ _ K) f.mj ?_);refine f.yT i<|>b3 ?_;intro q9 m8 q';refine gV (h8 (v:=.br a) (P.a4 _ _ K) f.kU f.jR f.yC f.hI j i λp8 t o8 e' a'=>?_);refine aC (ct (show 1<=1000 by decide)) λE i9=>?_;have f8:(t.a1 E [.ce [.I (d:Int),.I (b:Int)]]).U E=J [cq (d,b)]:=cg;have Q:t.ar (t.a1 E [.ce [.I (d:Int),.I (b:Int)]]):=dS i9;generalize t.a1 E [.ce [.I (d:Int),.I (b:Int)]]=z at*;refine av (Q.U _ _ e') (av f8<|aC (ct ?_) λG i'=>?_)
 ·refine a2<|>ax<|>?_;show g.length+1<=_;exact aj 0x3c8e9a7cb4284c82e928 i M
 have f9:(z.a1 G<|g.map cq++[cq (d,b)]).U G=J ((g++[(d,b)]).map cq):=by refine cg<|>cD<|>?_;rfl
 have b8:z.ar (z.a1 G<|g.map cq++[cq (d,b)]):=dS i';generalize z.a1 G (g.map cq++[cq (d,b)])=A at*;refine aef f9 (~~~aj 0x2cfb01d86d5febc28 i M) (PC.mpr λ{x y} s=>?_) (λx m e=>?_) (aC (ct ?_) λr a9=>?_)
 ·have:=PC.mp f.cY s;have:=j.fT x (s.subset<|.head _);exact aj 353007169284 ‹_› this
 ·have a:=f.fD.hf (g4:=[(d,b)]) (.head _) (cP (e5 h k o) m);have l':=j.fT x m;unfold nc at a;dsimp-iota only at a e;exact a.elim (λR=>aj 0x83c6d6b3f8727079dd20e6f6417a1164d Z e R) λR=>aj 0x83e559b2b1797158c264e531acfa11677 e l' R
 ·refine ax<|>y0.length_eq<|>?_;show g.length+1<=_;exact aj 0x3c8e9a7cb4284c82e928 i M
 have W:(A.a1 r<|(jy (d,b) g).map cq).U r=J ((jy (d,b) g).map cq):=cg;have j8:A.ar (A.a1 r<|(jy (d,b) g).map cq):=dS a9;have i8:¬r=p:=λe=>by have:=b8.U _ _<|Q.U _ _<|a'.U _ _ T;rw[<-e,a9]at this;cases this
 generalize A.a1 r ((jy (d,b) g).map cq)=k8 at*;have l:=a'.ak (Q.ak<|b8.ak j8);refine av W<|Xh (C:=e5 h k o) (λn b' s H=>H.U _ _ i8 s) i (jy (d,b) g) [] S k8 D D D W (l.U _ _ T) j9 l8 λo' m9 n9 p9 p' q8 f' e8 j' l9 k9=>?_;have b9:=f'.dP a8 (P.ak l);refine Xf @g8 @g9 @h9 (b9.a4 _ _ K) f i h' e8 j' l9 (k9 λe=>?_) λb' d9 c' d8 e9 d' H c8=>q b' d9 c' d8 e9 d' (b9.mn.ak H) c8;have:=(y0 (e:=(d,b)) (l:=g)).length_eq;rw[gW]at e;rw[e]at this;cases this
end
theorem IG {e g:Nat}{x:au}:∀{i:Nat} {b:List au} {d:List Nat},d.length=b.length->b[i]?=J x->d[i]?=J g->(e5 e b d).Perm ((g,e6 e x)::e5 e (b.eraseIdx i) (d.eraseIdx i))
 |_,[],_,_,a,_=>by cases a
 |_,_::_,[],a,_,_=>nomatch a|0,c::b,q::d,_,a,f=>by cases a;cases f;exact iX _
 |i+1,c::b,q::d,h,a,f=>(oI (q,e6 e c)<|IG (i:=i) (g0 h) a f).trans (wK _ _ _)
def sG (l:aJ):Prop:=∀{f:w} {h:O->w->Prop} {a r b d c p i:Nat} {j:List UInt8} {e:List au} {s:List Nat} {m:List bF},f.a4 a=J j->c0 b d j e s m c p []->b=64\/b=128->d+12<=b->i<e.length->(∀g k t n o q,g.a4 a=J k->eV a f g->c0 b d k (e.eraseIdx i) t n o q []->h .bE g)->l 92 [bd (.br a) r b d,.I (i:Int)] f h
noncomputable def aaJ:b2:=HY.aP.aP.aP.aP.aP.as
section
variable {F N:aJ}
theorem afm (b8:jm F)(b9:il F){a Q H K h:Nat}{cw:List Nat}(C:∀b,b∈cw->b<65536):∀(k i:Nat) (n:w) (e:List UInt8) (f:Option O),n.a4 a=J e->i+k+1=cw.length->h+2*(i+k)+2<=e.length->(∀j b,i<j->cw[j]?=J b->bA e (h+2*j) (bY 2 b))->(∀p l f,p.a4 a=J l->eV a n p->l.length=e.length->(∀j,(j<h+2*i\/h+2*(i+k)<=j)->l[j]?=e[j]?)->(∀j b,i<=j->cw[j+1]?=J b->bA l (h+2*j) (bY 2 b))->P .cO [J (bd (.br a) Q H K),z,z8,A8,B8,J (.I (h:Int)),f,D] p)->gK ap [6] (a6 (bn F N) aaJ) (λS=>True) ((gA (i:Int) k).map .I) [J (bd (.br a) Q H K),z,z8,A8,B8,J (.I (h:Int)),f,D] n P:=by
 intro k;induction k with
 |zero=>intro i n e f s o A y q;refine aC trivial (q n e f s .cf rfl (λS S=>rfl) λj b g a'=>?_);have:=(dv.mp @a').1;exact wI (aj 0x39a045db3f123bea77b402d6a9b5c0fa11677 o @g this)|succ k b'=>
  intro i n e f s o A y q;refine aW (show∃b,cw[i+1]?=J b from⟨_,du<|~~~aj 892253423879316 o⟩) λb d=>?_;have t:=@cC 2;have m:=C b (dT d);refine aC trivial (cc<|aC (.inl ⟨by decide,by decide⟩)<|aC (.inl ⟨by decide,by decide⟩) ?_);refine b8 (v:=.br a) (k:=h+2*(i+1)) (~~~dW (ac 0x47991b63fd281639a) (ac 0x97d056d2627da84e)) s (y _ b (nN _) d) m<|b9 (k:=h+2*i) (x:=b) (~~~dW (ac 64328754462710) (ac 60643257301070)) rfl s (~~~az 0x1277e884bb67ab38e86968 A) m λc9 T r Z a9=>?_;have R:=r.fg;rw[t]at R;refine b' (i+1) c9 T _ Z (~~~bo (aj 0x162b18f36d0eae05e o) (aj 0x3df16abe323be7cbf o)) (by exact r.aH<|>az 0xad93c22dc16d44a96d0e86968 A) (λj b d C=>r.ca (y j b (uq d) C)<|.inr<|by exact t<|>aj 0x632f255cda55faaba23 d) λp l f W a8 c8 M d8=>q p l f W (a9.ak a8) (c8.trans r.aH) (λj d=>by exact V (M j (d.imp (λc=>by exact aj 0x23cd120c628a3bbb c) λc=>by exact az 0x101e5a72aa534cabf250a8 c) ..)<|V (R j (by exact fd λd9=>d.elim (λG=>aj 0x18d5e861dd3eb6d6f238b4d2b79418fa11711 d9 G) λG=>az 0x181f3a2586ffa25250a8 G) ..)<|rfl) λj c' g m=>?_;rcases FC @g with g|g
  ·exact d8 j c' @g m
  ·subst g;rw[d]at m;cases m;exactλx E=>by rw[t]at E;exact M _ (.inl<|~~~aj 0x17a260e9ffb98afa17 E)<|>r.dA x (by exact t<|>E)
theorem UX {g b c C i n:Nat}{x:au}(d:c0 g b Z G M t c C [])(N:g<=128)(R:G[i]?=J x)(a8:M[i]?=J n)(a':n8.length=Z.length)(o2:∀j,(j<b+8+2*i\/b+8+2*(G.length-1)<=j)->n8[j]?=Z[j]?)(b8:∀j q,i<=j->M[j+1]?=J q->bA n8 (b+8+2*j) (bY 2 q))(r:fi n8 (b+3) (bY 2<|G.length-1) o8):c0 g b o8 (G.eraseIdx i) (M.eraseIdx i) t c C [(n,e6 g x)]:=by
 have F:M.length=G.length:=by have:=d.cu.eQ;rw[ax]at this;exact this
 have o:=@cC 2;have A:=(dv.mp R).1;have z:(G.eraseIdx i).length=G.length-1:=AM A;have T:(M.eraseIdx i).length=(G.eraseIdx i).length:=z<|>AM (F▸A)<|>F<|>rfl;have E:=d.hI;have k:=d.ir;have S:ez c g ([(n,e6 g x)]++(e5 g (G.eraseIdx i) (M.eraseIdx i)++t)) C:=d.fD.iS ((IG F R a8).append_right t);have P:=LO S T;have s:∀{q h},bA Z q h->q+h.length<=b+3\/(b+5<=q/\q+h.length<=b+8+2*i)->bA o8 q h:=λ{q h} a f j e=>by exact V (r.fg _ (by rw[o];exact fd λm=>f.elim (λp=>az 0x5cbc34a3d11f24b2fe3a5fb96d99971b284bb2ae44fa1165b e m p) λp=>aj 0xa79798d575d8920 p.1) ..)<|V (o2 _ (by exact fd λm=>f.elim (λp=>py 0x25edb77708ab58db02490128a893bf44b9bb30e3f1dea151d13bc422fd55aeb2c1ba864f4d69b8 N E k e m p<|bL _ _) λp=>py 0x3f83822924546e5b41a25e5ec451ca285b48e055cd0bd052c0dff90d6a2fd55aeb2c1ba864f4d69b8 N E k e m p.2<|bL _ _) ..)<|a j e
 have a9:∀{q h},bA Z q h->c<=q->bA o8 q h:=λ{q h} a f j e=>by exact V (r.fg _ (by rw[o];exact fd λm=>dN 0x15a643df5d6a420f849c76ab89a3 A k f) ..)<|V (o2 _ (by exact fd λm=>dN 0x1562cf75b7c7360bc74939e3a8594 k f<|bL _ _) ..)<|a j e
 have ff:∀{x:UInt8} {n:Nat},Z[n]?=J x->bA Z n [x]:=λ{x n} a j e=>by
  have:j=0:=by rw[nK]at e;exact bo (ai 2362207 e) (ai 134)
  clear e;subst this;exact a
 have cell:∀(j q:Nat) (y:au),M[j]?=J q->G[j]?=J y->bA o8 q (y.bQ g):=λj q y a l=>a9 (d.cu.dA j q _ a (by refine cv<|>l<|>?_;rfl)) (d.fD.de (q,e6 g y)<|cP _<|dJ _<|yD a l);refine⟨⟨r.aH<|>a'<|>d.cu.aH,(s (ff d.cu.ee)<|.inl (by show b+1<=_;exact ai 78942116)).kD,ax<|>z<|>r.dA,ax<|>T,?_,?_,?_,?_,λq f=>(P q f).2⟩,λy f=>d.dg y<|Fv f,s d.jR<|.inr<|by exact o<|>⟨ai 4113291204,ac 953915637596916⟩,(s (ff d.mj)<|.inr (by show _/\b+7+1<=_;exact⟨ai 5700609860,ac 953915628887796⟩)).kD,⟨s d.kU.1<|.inl<|by exact o<|>ai 9552291694,?_⟩,z<|>az 0x167959cbf9016aa5992eda8 k (bL _ _),S,d.cY⟩
 ·refine ax<|>z<|>?_;show b+8+2*(G.length-1)<=g;exact bP 0x1be00cd596bf98b98b5c84b3c2 E k (bL _ _)
 ·intro j q a;show bA o8 (b+8+2*j) (bY 2 q);rw[Fk]at a;split at a
  ·refine s (d.cu.k4 j q a) (.inr ?_);show b+5<=b+8+2*j/\b+8+2*j+_<=_;exact o<|>⟨ac 6624413814852,aj 0x418e0152e51eb0660c923 ‹_›⟩
  ·exact r.ca (b8 j q (~~~ac 354984 (eT ‹_›)) a) (.inr<|by exact o<|>ac 953915637016308)
 ·intro j q h a Q;rw[cv]at Q;refine aU (fw.mp Q) λy l W=>?_;subst W;rw[Fk]at a l;split at a
  ·rename_i e;rw[if_pos e]at l;exact cell j q y a l
  ·rename_i e;rw[if_neg e]at l;exact cell _ q y a l
 ·intro q f;refine ax<|>z<|>?_;have:=(P q f).1;show b+8+2*(G.length-1)<=q;exact bP 0x47b50d421567bc68b7d9d702ec k this (bL _ _)
 ·refine d.kU.2.ca λb9 f j K b'=>?_;have H:=d.fD.de _ (cP _<|cP _ f);exact V (r.fg _ (by rw[o];exact fd λm=>dN 0x1471c171bcfa1f7d3849c76ab89a3 A k @K H) ..)<|V (o2 _ (by exact fd λm=>dN 0xf805520ce51578660469b9e3a8594 k @K H<|bL _ _) ..)<|rfl
theorem acA (f9:jm F)(Q:il F)(f':jn F)(g8:n1 F)(g9:n2 F)(g':ve F)(h8:sF F)(h9:x3 F):sG (bB F N):=λ{m k' a a8 d o c l' i c9 bw cw l8} H b l z f q=>by
 have t:=co l;refine aW (show∃x,bw[i]?=J x from⟨_,du f⟩) λx K=>?_;have S:(bw.map<|au.bQ d)[i]?=J (x.bQ d):=by refine cv<|>K<|>?_;rfl
 refine aW (b.cu.rq S) λj8 R=>?_;have e:cw.length=bw.length:=by have:=b.cu.eQ;rw[ax]at this;exact this
 have i':=b.dg x (dT K);have e8:(if(4:Int)<(x.bQ d).length then((x.bQ d).length:Int)else 4)=(e6 d x:Int):=by unfold e6;split<;>(first|exact dW (ac 16616040<|qd _ _) (ac 16616042<|rQ<|ai 28977051 ‹_›)|exact dW (ai 704816<|lS _ _)<|ai 52976002<|rP<|ai 299456546<|gk.mp ‹_›)
 have r:=b.ir;have p:=b.hI;refine bU Jr [J (bd (.br a) a8 d o),J (.I (i:Int)),D,D,D,D,D,D] rfl rfl (aF<|g9 (v:=.br a) H b.cu t R ?_);refine cl ?_;intro C a9;refine aF (g' (v:=.br a) H b.cu l S i' λW M=>?_);have s:=M.a4 _ _ H;refine iy (bV:=[J (bd (.br a) a8 d o),J (.I (i:Int)),J (.I (j8:Int)),J (.I (e6 d x:Int)),D,D,D,D]) (by refine aY (e8 ..)<|?_;rfl) ?_;refine cI ?_;intro C;refine aF (f' (v:=.br a) s b.hu (~~~az 0x8c5700f922a5e07ba871b8ef4 (co l) r p) ?_);refine cl ?_;intro C a9;refine bx (eh (λn=>?_)<|λn=>?_)
 ·have n:bw.length=1:=iW.mp @n;have h':bw.eraseIdx i=[]:=Pf (by exact AM f<|>n<|>rfl);rw[h']at q;refine b3 ?_;intro n8 C a9;refine cc (aC (ct<|dB _) λk8 i8=>?_);exact h8 (m:=W.a1 k8 []) (bw:=[]) s b.cu.ee cg b.cu.aH (λy k=>nomatch k) z (by show o+8+0+0<=d;exact ac 8888842683372988 z) l λZ P j9 b' E G a'=>bH (q Z P j9 [] b' 0 E (M.mn.ak<|(dS i8).mn.ak G) a')
 ·have n:bw.length≠1:=λd8=>n (congrArg jF d8);refine bc (aF<|g8 (v:=.br a) ag s b.cu.ee<|gV ?_);refine aC ⟨by constructor<;>(first|exact ai 34898773920|exact bP 0xbd1b43cdb02e82ca32a3d00f73539226 (co l) f r p),by constructor<;>(first|exact ac 0x62032b3d041c0ca9 f|exact az 0x1781126bab6aaaf3ad8188fe8b8ef4 (co l) r p)⟩ (.inl ⟨rfl,?_⟩);have g:i+(bw.length-1-i)+1=cw.length:=bo (bP 0x22c2bd16311cd6c9ad9 e (ay<|aj 352454232859 f aw)<|ay<|ac 524329 f) (bP 0x20d767f56b9d10a4aabc e aw aw);have A:i+(bw.length-1-i)=bw.length-1:=bo (bP 0xeffba4822ccdbd9e278 e g aw) (aj 14412402004 aw);refine V (show((bw.length:Int)-1-(i:Int)).toNat=bw.length-1-i by exact bo (bP 0x334e6179df8e7a010136df e g<|ie<|ac 210496898473 f)<|bP 0x41cb168b312da221291d54 e g<|ie<|ac 210496898473 f)<|afm @f9 @Q (h:=o+8) (cw:=cw) (λq k=>b.cu.zH t k) (bw.length-1-i) i W c9 D s g (by exact b.cu.aH<|>fJ 0x98a7c0b7ccb6ba0e170fa704ebd0b92372f4ba31 e r p g) (λj q m' h=>b.cu.k4 j q h) λZ P m9 E G T o2 j'=>?_;rw[A]at o2;refine cI ?_;intro C;refine cc (Q (k:=o+3) (x:=bw.length-1) (~~~dW (ai 50121060258) (ai 49504244898)) (~~~dW (bP 0x1307e9ae705e9d23a7fe47 e g A) (bP 0x2917161e9dd854890807c e g A)) E (by exact T<|>b.cu.aH<|>ac 0x5db41b1ab55bc z) (~~~me 0xd4388142616d77920a93b8f24facf3bee48156a113a294f4 (co l) e r p g A) λm8 l9 k9 d9 e'=>?_);refine cc (h9 d9 (UX b t K R T o2 j' k9) t z λi9 c' b9 c8 e9 d' f8 b8=>?_);exact q i9 c' _ b9 c8 e9 d' (M.mn.ak<|G.ak<|e'.ak f8) b8
end
noncomputable def eG (a b c:Nat):O:=.gd 4 [(15,.I (a:Int)),(16,.ah b),(17,.ah c)]
noncomputable def ae (a:Nat):O:=.I (a:Int)
structure bO (a:w) (b c:Nat) (d:List (List UInt8)) (e:List Nat):Prop where
 U:a.U b=J (d.map .aA)
 eX:a.U c=J (e.map ae)
 eq:b≠c
abbrev ec (b c:Nat):=cW λa=>a=b\/a=c
theorem bO.ar (a:bO W g Q r M)(l:W.ar A):bO A g Q r M:=⟨l.U _ _ a.U,l.U _ _ a.eX,a.eq⟩
theorem te {x:List O}(c:l=g\/l=Q):ec g Q W (W.a1 l x):=⟨λe y d a=>by exact iw (by rintro rfl;exact d c)<|>a,λb b a=>a,λb b a=>a⟩
theorem B0 {l:List Nat}:io (l.map ae)=J (l.map λb:Nat=>(b:Int)):=by
 induction l with
 |nil=>exact rfl|cons x l a=>exact by show(io<|l.map ae).map _=_;refine a<|>?_;rfl
theorem UB {l:List Nat}(b:g∉l):(l.map λg:Nat=>(g:Int)).contains (g:Int)=ap:=by rw[OH,Ne,ud,eS];rintro⟨x,c,a⟩;exact b (iW.mp a▸c)
def uZ (f:aJ):Prop:=∀{a:w} {b:O->w->Prop} {g d e:Nat} {c:List (List UInt8)} {h:List Nat},bO a d e c h->b (.I (c.length:Int)) a->f 100 [eG g d e] a b
def m3 (g:aJ):Prop:=∀{a:w} {b:O->w->Prop} {h e f p:Nat} {d:List (List UInt8)} {i:List Nat} {c:List UInt8},bO a e f d i->d[p]?=J c->b (.aA c) a->g 101 [eG h e f,.I ((p+1:Nat):Int)] a b
def sm (j:aJ):Prop:=∀{c:w} {g:O->w->Prop} {h a b p:Nat} {f:List (List UInt8)} {i:List Nat} {d:List UInt8},bO c a b f i->p<f.length->d.length=h->(∀e,bO e a b (f.set p d) i->ec a b c e->g .bE e)->j 102 [eG h a b,.I ((p+1:Nat):Int),.aA d] c g
def u0 (i:aJ):Prop:=∀{e:w} {g:O->w->Prop} {d b c:Nat} {a:List (List UInt8)} {h:List Nat},bO e b c a h->a.length<100000->d<=128->(∀f,bO f b c (a++[dK d 0]) h->ec b c e f->g (.I ((a.length+1:Nat):Int)) f)->i 103 [eG d b c] e g
def lw (j:aJ):Prop:=∀{e:w} {f:O->w->Prop} {g b c:Nat} {d:List (List UInt8)} {h:List Nat},bO e b c d h->d.length<100000->g<=128->(h=[]->∀a,bO a b c (d++[dK g 0]) []->ec b c e a->f (.I ((d.length+1:Nat):Int)) a)->(∀(i:List Nat) (x:Nat),h=i++[x]->∀a,bO a b c d i->ec b c e a->f (.I (x:Int)) a)->j 104 [eG g b c] e f
def pl (i:aJ):Prop:=∀{e:w} {h:O->w->Prop} {j b c a:Nat} {g:List (List UInt8)} {d:List Nat},bO e b c g d->a∉d->2<=a->a<=g.length->d.length<=100000->(∀f,bO f b c g (d++[a])->ec b c e f->h .bE f)->i 105 [eG j b c,.I (a:Int)] e h
theorem Di (a:g<=100000):g<b5:=eo a (~~~_)
section
variable {F N:aJ}
theorem aaU:uZ (bB F N):=λ{f e b c d g h} a q=>by refine bU Jx [J (eG b c d),D] rfl rfl (bH<|av a.U ?_);exact ax<|>q
theorem aaV:m3 (bB F N):=λ{k i d g h a l m j} b c q=>by refine bU Jy [J (eG d g h),J (.I ((a+1:Nat):Int)),D] rfl rfl (bx ?_);refine av b.U<|ax<|>fN (λf=>eI _<|ef ((dv.mp c).1)<|lT<|cz.mp f) ?_;refine cI ?_;intro n;refine bc (bH<|av b.U ?_);have e:((a+1:Nat):Int)-1=(a:Int):=dW (ai 7720296) (ai 594462032);exact e<|>fY (by refine cv<|>c<|>?_;rfl) q
theorem aaW:sm (bB F N):=λ{l k e i j c m n f} a d h q=>by have g:((c+1:Nat):Int)-1=(c:Int):=dW (ai 7720296) (ai 594462032);refine bU JA [J (eG e i j),J (.I ((c+1:Nat):Int)),J (.aA f),D] rfl rfl (bx ?_);refine rd (λb=>absurd (congrArg jF h) b) (λo=>?_);refine av a.U<|ax<|>fN (λb=>eI _<|ef d<|lT<|cz.mp b) ?_;refine bc (lO<|av a.U ?_);refine g<|>zm (by exact ax<|>d) ?_;exact q _ ⟨cg<|>List.map_set<|>rfl,iw (qf a.eq)<|>a.eX,a.eq⟩ (te<|.inl rfl)
theorem aaX:u0 (bB F N):=λ{h g b e f i j} a d c q=>by
 refine bU Jv [J (eG b e f),D] rfl rfl (cc<|av a.U ?_);refine aC ⟨eH _,eM.mpr<|ct<|ba c<|~~~_⟩ (av a.U ⟨by exact ax<|>Di (gY d),?_⟩);refine bH (av cg ?_);refine a2<|>ax<|>q _ ⟨?_,iw (qf a.eq)<|>a.eX,a.eq⟩ (te<|.inl rfl)
 ·refine cg<|>cD<|>?_;rfl
theorem aaY (m:u0 F):lw (bB F N):=λ{e C g r y G z} c o n s t=>by
 refine bU Jz [J (eG g r y),D] rfl rfl (bx ?_);refine aC (ct<|dB _) λd p=>?_;have l:=dS (x:=[]) p;have a:=c.ar l;have j:(e.a1 d []).U d=J []:=cg;generalize e.a1 d []=E at*;refine av a.eX (av j ?_);rcases AG z with rfl|⟨b,x,rfl⟩
 ·refine b3 ?_;intro H A K;exact bc<|bH (m a o n λq f k=>s rfl q f<|l.ds.ak k)
 ·rw[AE]at*;have h:((b++[x]).map ae).isEmpty=ap:=by cases b<;>rfl
  refine h<|>cI ?_;intro A;refine bH (av a.eX<|av a.eX ?_);have i:((b++[x]).map ae).getLast?=J (ae x):=cD<|>rH<|>AK<|>rfl;exact i<|>t b x rfl _ ⟨iw c.eq<|>a.U,cg<|>cD<|>rH<|>AF<|>rfl,c.eq⟩ (l.ds.ak<|te<|.inr rfl)
theorem aaZ:pl (bB F N):=λ{i n d k l c o m} a h e g f q=>by
 refine bU Jw [J (eG d k l),J (.I (c:Int)),D] rfl rfl (bx<|av a.eX ?_);refine gf B0 ?_;show el _ (.bs<|(m.map λj:Nat=>(j:Int)).contains (c:Int)) i;refine UB h<|>fN (λb=>eI _<|ef (cz.mp b) @e) (av a.U ?_);refine ax<|>fN (λb=>eI _<|ef (cz.mp b) g) ?_;refine bc (cc<|av a.eX<|av a.eX ⟨by exact ax<|>Di f,?_⟩);refine q _ ⟨iw a.eq<|>a.U,?_,a.eq⟩ (te<|.inr rfl)
 ·refine cg<|>cD<|>?_;rfl
end
noncomputable def bS (a b c d:Nat):O:=.gd 3 [(12,eG a b c),(13,eG a b c),(14,.fB d)]
noncomputable def bT (a:Nat):Nat:=if a=1 then 32 else 0
theorem og {a:Nat}:bT a<=32:=by unfold bT;split<;>decide
def uT (h:aJ):Prop:=∀{c:w} {f:O->w->Prop} {b:List UInt8} {e g:Nat},b.length<=1000->(∀a d,c.a4 a=D->d.a4 a=J b->c.ar d->f (bd (.br a) e g<|bT e) d)->h 1 [.aA b,.I (e:Int),.I (g:Int)] c f
def qP (d:aJ):Prop:=∀{c:w} {a:O->w->Prop} {b f g e:Nat},a (.I (b:Int)) c->d 94 [bS b f g e] c a
def md (k:aJ):Prop:=∀{b:w} {f:O->w->Prop} {g i j l c:Nat} {h:List (List UInt8)} {m:List Nat} {d:List UInt8},bO b i j h m->h[c]?=J d->d.length<=1000->(∀a e,b.a4 a=D->e.a4 a=J d->b.ar e->f (bd (.br a) (c+1) g<|bT<|c+1) e)->k 95 [bS g i j l,.I ((c+1:Nat):Int)] b f
def ps (n:aJ):Prop:=∀{d:w} {l:O->w->Prop} {a b f g o c:Nat} {e:List (List UInt8)} {m:List Nat} {h:List UInt8},bO d f g e m->d.a4 a=J h->c<e.length->(∀x∈e,x.length=b)->h.length=b->32<=b->b<=128->(∀k i,i.length=b->(∀j,bT (c+1)<=j->i[j]?=h[j]?)->bO k f g (e.set c i) m->ec f g d k->l .bE k)->n 97 [bS b f g o,bd (.br a) (c+1) b (bT<|c+1)] d l
def qQ (j:aJ):Prop:=∀{b:w} {h:O->w->Prop} {k l n d:Nat} {m:Int} {e:List (Int×O)},b.aQ d=J e->e.length<=1000->(∀f∈e,∃i,f.2=O.I i)->(∀c g,(∀a x,b.U a=J x->c.U a=J x)->(∀a x,b.a4 a=J x->c.a4 a=J x)->(∀a x,a≠d->b.aQ a=J x->c.aQ a=J x)->c.aQ d=J g->g.length<=e.length+1->(∀f∈g,∃i,f.2=O.I i)->h .bE c)->j 98 [bS k l n d,.I m] b h
def sH (e:aJ):Prop:=∀{a:w} {b:O->w->Prop} {f h i g c:Nat} {d:List O},a.U c=J d->d.length<=50->b .bE a->e 99 [bS f h i g,.ah c] a b
theorem Ef {v:O}{e:Nat}{j:Int}(c:v=.aA Z)(b:j=(e:Int))(a:e<=Z.length)(q:S (.aA<|Z.take e) W):kJ v .bE (.I j) W S:=by subst c b;have:=@Ee Z.length e e (λd e=>S (.aA<|dp Z d e) W) rfl a;unfold dp at this;exact this q
theorem Eg {v:O}{p:Nat}{i:Int}(d:v=.aA Z)(b:i=(p:Int))(c:p<=Z.length)(q:S (.aA<|Z.drop p) W):kJ v (.I i) .bE W S:=by subst d b;have:=@zZ Z.length p p (λe a=>S (.aA<|dp Z e a) W) rfl c;unfold dp at this;rw[nL]at this;exact this q
section
variable {F N:aJ}
theorem Zg:uT (rn F N):=λ{i f h j g} e q=>by
 refine aC rfl (aC (ct e) λa c=>?_);have q:=q a _ c mF (Dg c);unfold bT at q;refine eh (λb=>?_) (λb=>?_)
 ·rw[if_pos (iW.mp b)]at q;exact q
 ·rw[if_neg (λd=>b<|congrArg jF d)]at q;exact q
theorem acC:qP (bB F N):=λ{f e a c d b} q=>bU JG [J (bS a c d b),D] rfl rfl (bH q)
theorem acD (h:qP F)(f:uZ F)(g:m3 F)(i:uT N):md (bB F N):=λ{p n c l m d k r s o} a b j q=>by refine bU JD [J (bS c l m d),J (.I ((k+1:Nat):Int)),D] rfl rfl (bx<|f a ?_);exact fN (λe=>eI _<|ef ((dv.mp b).1)<|lT<|cz.mp e)<|bc (bH<|g a b<|h<|i j q)
theorem acF (H:xW F)(G:m3 F)(s:sm F):ps (bB F N):=λ{Z W a i R S E p Q a8 k} g K n P b d M q=>by
 refine bU JE [J (bS i R S E),J (bd (.br a) (p+1) i<|bT<|p+1),D,D] rfl rfl (aF<|H (v:=.br a) K ?_);refine bx (eh (λm=>?_)<|λm=>bc<|cc<|s g n b λr h l=>q r k b (λT T=>rfl) h l)
 ·obtain rfl:p=0:=by have:=iW.mp m;exact bo (ai 40731151026 m) (ai 134)
  refine aW (show∃c,Q[0]?=J c from⟨_,du n⟩) λc t=>?_;have A:=P c (dT t);refine aW (show∃C,C=O.aA k from⟨_,rfl⟩) λC y=>aY (y ..)<|aF (G (p:=0) g t ?_);refine aW (show∃u,u=O.aA c from⟨_,rfl⟩) λu x=>aY (x ..)<|Ef (e:=32) x rfl (~~~ac 772105150379178 d A) (Eg (p:=32) y rfl (~~~ac 56143030958955 b d)<|aC (ct ?_) ?_)
  ·exact e1<|>gB<|>az 0x68c3c107d5b0caf98a6236 b M (fG _ _) (bL _ _)
  have o:(c.take 32).length=32:=e1<|>bo (ai 235628868244<|fG _ _) (ai 21433545367<|gZ<|ac 772105150379178 d A);have z:(c.take 32++k.drop 32).length=i:=a2<|>o<|>gB<|>bo (aj 0x1eb248642689ec7d8 b<|ay<|ac 56143030958955 b d) (aj 0x37019ee8f7c550d0d b aw);refine bc (cc<|s (p:=0) g n z λr h l=>?_);refine q r _ z (λj f=>?_) h l;have f:32<=j:=f;exact hT (~~~ac 750438880999418 o f)<|>o<|>nI<|>mN f<|>rfl
theorem Vi:∀{a:Int} {v:O},(lE n a v).length<=n.length+1:=by
 induction n with
 |nil=>exactλ{c} {c}=>cL _|cons d n b=>
  exactλ{a} {v}=>by
   unfold lE;split
   ·exact kN _
   ·exact jd b
theorem Vg:∀{c j:Int},(∀b∈n,∃i,b.2=O.I i)->∀b∈lE n c (.I j),∃i,b.2=O.I i:=by
 induction n with
 |nil=>exactλ{c} {j} e b a=>⟨j,by cases uj.mp a;rfl⟩|cons x n d=>
  exactλ{c} {j} H b a=>by
   unfold lE at a;split at a
   ·rcases dE.mp a with rfl|a
    ·exact⟨j,rfl⟩
    ·exact H b (.tail _ a)
   ·rcases dE.mp a with rfl|a
    ·exact H _ (.head _)
    ·exact d (λb a=>H b<|.tail _ a) b a
theorem acG:qQ (bB F N):=λ{s r h o p e c f} b m g q=>by
 obtain⟨i,l⟩:∃i,(hv f c).getD (.I 0)=O.I i:=by
  unfold hv;cases a:f.find? (·.1==c)with
  |none=>exact⟨0,rfl⟩|some k=>exact g k (Pz a)
 refine bU JF [J (bS h o p e),J (.I c),D] rfl rfl (lO<|mm b<|mm b ?_);refine l<|>mm b ⟨eo m<|~~~_,?_⟩;exact q _ _ (λd d a=>a) (λd d a=>a) (λj x n a=>by show(if j=e then _ else _)=_;exact if_neg n<|>a) zX Vi (Vg g)
theorem acH:sH (bB F N):=λ{j i a f g b h k} d e q=>by refine bU JB [J (bS a f g b),J (.ah h),D] rfl rfl (bx<|av d ?_);exact fN (λc=>eI _<|ef (cz.mp c) e)<|bc q
end
abbrev aO:=List UInt8
variable{o q8 r8:List aO}{p j9:aO}{i':List aO->Prop}
noncomputable def eg (b:Int)(a c:Nat):O:=.gd 2 [(9,.I b),(10,.ah a),(11,.I (c:Int))]
noncomputable def ab (a:aO):Nat:=2+max 4 a.length
noncomputable def bM (a:List aO):Nat:=(a.map ab).sum
noncomputable def bh (a:List aO):List O:=a.map .aA
theorem fK:(bh o).length=o.length:=ax _
def kt (f:aJ):Prop:=∀{e:w} {b:O->w->Prop} {a d c:O},b (.gd 2 [(9,a),(10,d),(11,c)]) e->f 2 [a,d,c] e b
def u2 (d:aJ):Prop:=∀{b:w} {a:O->w->Prop} {c:aO},a (.I (ab c:Int)) b->d 15 [.aA c] b a
def u3 (f:aJ):Prop:=∀{b:w} {d:O->w->Prop} {a:Nat} {c:List aO},b.U a=J (bh c)->c.length<=1000->(∀e,b.ar e->d (.I (bM c:Int)) e)->f 16 [.ah a] b d
def sn (d:aJ):Prop:=∀{b:w} {a:O->w->Prop} {c:Nat},a (.I (bT c:Int)) b->d 17 [.I (c:Int)] b a
def qI (e:aJ):Prop:=∀{d:w} {c:O->w->Prop} {bf a:Nat} (b:Bool),bT bf+cm b<=a->c (.I ((a-bT bf-cm b:Nat):Int)) d->e 18 [.I (bf:Int),.I (dq b),.I (a:Int)] d c
def pm (d:aJ):Prop:=∀{b:w} {a:O->w->Prop} {c:Nat} {e:Int},c<4294967296->a (.I (c:Int)) b->d 19 [.aA (dO c e)] b a
def m4 (g:aJ):Prop:=∀{e:w} {b:O->w->Prop} {c a:Nat} {d:Int},a<4294967296->(∀f,e.ar f->b (.aA<|dO a d) f)->g 20 [.aA (dO c d),.I (a:Int)] e b
def qK (e:aJ):Prop:=∀{d:w} {b:O->w->Prop} {a:Nat} {c:au},a<=128->c.dg a->b (.I (fF c.bI:Int)) d->e 21 [.aA (c.bQ a)] d b
def l7 (h:aJ):Prop:=∀{d:w} {f:O->w->Prop} {b i k bf a j:Nat} {e:List aO} (c:Bool),d.U a=J (bh e)->e.length<=1000->bT bf+cm c<=b->(∀g,d.ar g->f (.bs<|dk (bM e<=b-bT bf-cm c)) g)->h 23 [eG b i k,.I (bf:Int),eg (dq c) a j] d f
def qL (h:aJ):Prop:=∀{b:w} {c:O->w->Prop} {d i k bf a j:Nat} {g:List aO} (e:Bool),b.U a=J (bh g)->g.length<=1000->bT bf+cm e<=d->(∀l f,b.ar f->c (.bs l) f)->h 25 [eG d i k,.I (bf:Int),eg (dq e) a j] b c
theorem yr {d:aO}:bA d 0 d:=λi a=>by exact jG<|>rfl
theorem y3 {c:Nat}{k:Int}:5<=(dO c k).length/\(dO c k).length<=13:=by unfold dO;refine a2<|>cC<|>?_;have:=@oE (fF k);exact⟨jc this.1 4,jc this.2 4⟩
theorem SL:io (o.map λa=>O.I (ab a:Int))=J (o.map λa=>(ab a:Int)):=by
 induction o with
 |nil=>rfl|cons a o b=>show(io<|o.map _).map _=_;refine b<|>?_;rfl
theorem aex:(o.map λa=>(ab a:Int)).sum=(bM o:Int):=by
 induction o with
 |nil=>exact rfl|cons a o b=>show(ab a:Int)+(o.map λa=>(ab a:Int)).sum=((ab a+bM o:Nat):Int);exact b<|>p1<|>rfl
section
variable {F N:aJ}
theorem Zf:kt (rn F N):=λ{e b a d c} q=>aC rfl q
theorem aa5:u2 (bB F N):=λ{d c a} q=>by
 have b:(2:Int)+(if(4:Int)<a.length then(a.length:Int)else 4)=(ab a:Int):=by unfold ab;split<;>(first|exact dW (ac 5985080615976<|qd _ _) (ac 3783725548010<|rQ<|ai 28977051 ‹_›)|exact dW (ai 3907765663144<|lS _ _)<|ai 0x928e47ee32e<|rP<|ai 299456546<|gk.mp ‹_›)
 rw[<-b]at q;exact bU JM [J (.aA a),D] rfl rfl (bH q)
theorem aa6 (k:u2 F):u3 (bB F N):=λ{m h a f} g n q=>by
 refine bU Kr [J (.ah a),D] rfl rfl (bH<|av g ?_);refine oh (m:=m) (λe l=>l.U _ _ g) (bh f) (f.map λb=>O.I (ab b:Int)) [] m .cf (by exact fK<|>ax<|>rfl) (λi v b d c e s l r=>?_) λe l=>aC (ct<|gW<|>ax<|>n) λt o=>av cg ?_
 ·unfold bh at d;rw[cv]at d c;refine aU (fw.mp d) λx p j=>?_;subst j;rw[p]at c;cases c;exact k (r e .cf)
 ·refine gW<|>SL<|>?_;show h (.I (f.map λb=>(ab b:Int)).sum) _;exact aex<|>q _ (l.ak<|dS o)
theorem aa7:sn (bB F N):=λ{e d c} q=>by
 unfold bT at q;refine bU JH [J (.I (c:Int)),D] rfl rfl (bH<|eh (λa=>?_)<|λa=>?_)
 ·rw[if_pos (iW.mp a)]at q;exact q
 ·rw[if_neg (λb=>a<|congrArg jF b)]at q;exact q
theorem aba (f:qG F)(g:sn F):qI (bB F N):=λ{i h c b} a d q=>by have e:((b-bT c-cm a:Nat):Int)=(b:Int)-(bT c:Int)-(cm a:Int):=dW (bP 0x9bc1b7f145740fb1c6 (ay<|az 0xa07b03b63890 d aw)<|ay<|aj 148809612 d) (bP 0x9a5081b809ba89f72c aw aw);rw[e]at q;exact bU JI [J (.I (c:Int)),J (.I<|dq a),J (.I (b:Int)),D] rfl rfl (bH<|g<|f a q)
theorem abb (a:n0 F):pm (bB F N):=λ{f e c k} b q=>bU JL [J (.aA<|dO c k),D] rfl rfl (bH<|a (k:=0) (d:=dO c k) rfl rfl (yr (d:=dO c k)).i5 b q)
theorem abd (g:m7 F):m4 (bB F N):=λ{l k c f a} h q=>by
 have d:(dO c a).drop 4=er (fF a):=by unfold dO;exact Pe cC<|>rfl
 refine aW (show∃b,b=O.aA (dO c a)from⟨_,rfl⟩) λb e=>aY (e ..)<|bU Kt [J b,J (.I (f:Int)),D] rfl rfl (bH<|g h λj i=>?_);refine Eg (p:=4) e rfl (ba (~~~_) y3.1) (aC (ct ?_)<|d<|>q j i)
 ·refine d<|>cC<|>?_;have:=(@oE<|fF a).2;exact ai 45069239497282 this
theorem abe (b:pk F):qK (bB F N):=λ{l k a c} f j q=>by have i:c.cU.length<18446744073709551616:=eo (ba j.cU f) (~~~_);have e:=yr (d:=c.bQ a);have g:bA (c.bQ a) 0 (er c.cU.length++[]):=dn<|>e.i5;have h:bA (c.bQ a) (0+(er c.cU.length).length) (er (fF c.bI)++[]):=dn<|>e.nA.i5;refine bU J6 [J (.aA<|c.bQ a),D,D,D,D] rfl rfl (ft<|b (p:=0) (d:=c.bQ a) rfl rfl g (p0 i []) ?_);refine ft (b (d:=c.bQ a) rfl rfl h (p0 (rz c.bI) []) ?_);exact bH q
theorem abg (g:u3 F)(h:qI F):l7 (bB F N):=λ{s r c n p d a o e} b i k j q=>by refine bU JS [J (eG c n p),J (.I (d:Int)),J (eg (dq b) a o),D] rfl rfl (bH<|g i k λm l=>h b j ?_);have:=q m l;have f:dk ((bM e:Int)<=((c-bT d-cm b:Nat):Int))=dk (bM e<=c-bT d-cm b):=decide_eq_decide.mpr eM;rw[<-f]at this;exact this
theorem abi (j:u3 F)(k:qI F):qL (bB F N):=λ{f A h t z s a y g} d e m l q=>by
 refine bU JZ [J (eG h t z),J (.I (s:Int)),J (eg (dq d) a y),D,D] rfl rfl (bx ?_);refine aC (ct<|dB _) λc n=>?_;have b:=dS (x:=[]) n;have i:(f.a1 c []).U c=J []:=cg;generalize f.a1 c []=p at*;refine av (b.U _ _ e) (av i ?_);induction g using cj with
 |nil=>exact bH (q ag p b)|cons x g=>refine bc (aF<|k d l ?_);refine cl ?_;intro C E;refine bH (j (b.U _ _ e) m λr o=>?_);exact aC (.inl ⟨by decide,by decide⟩) (aC (.inl ⟨by decide,by decide⟩)<|q _ r<|b.ak o)
end
def zx (b:Nat):Bool->aO->Prop
 |true,a=>∃c:au,a=c.bQ b/\c.dg b|false,a=>∃c d,a=dO c d/\c<4294967296/\iM d
structure GW (c d:Nat) (e:List UInt8) (a:Bool) (f:List aO) (b:Nat):Prop where
 cu:∃g,fA c d e a f g
 dg:∀x∈f,zx c a x
 ci:a=ap->bA e (d+8) (bY 4 b)/\b<4294967296
 cJ:a=ag->b=0
def m5 (n:aJ):Prop:=∀{c:w} {f:O->w->Prop} {b j m e k:Nat} {i:List (List UInt8)} {o:List Nat} {h:List UInt8} {g:Bool} {l:List aO},bO c j m i o->i[e]?=J h->GW b (bT<|e+1) h g l k->b=64\/b=128->(∀a d,c.U a=D->d.U a=J (bh l)->c.ar d->f (eg (dq g) a k) d)->n 22 [eG b j m,.I ((e+1:Nat):Int)] c f
noncomputable def Nr:b2:=Ce.aP.aP.aP.as
section
variable {F N:aJ}
theorem aaA (j:nY F)(m:qH F){v:O}{i:Int}(n:Q=64\/Q=128)(e:i=(g:Int))(f:d6 W Z v)(r:Z.length=Q)(a:zx Q k p)(d:bA Z g p)(q:∀t b,W.ar b->S (.ce [t,.I ((g+p.length:Nat):Int)]) b):F 14 [v,.I i,.I (dq k),.I (Q:Int)] W S:=by
 induction k with
 |true=>obtain⟨c,rfl,a⟩:=a;exact j n e f r a d λb l=>q _ b l
 |false=>refine em a λc x h o s=>?_;clear a;subst h;exact m e f o s d (q _ W .cf)
theorem aaB (a8:jm F)(K:qG F)(Q:nY F)(S:qH F){e f g i p:Nat}{r:aO}{s w8 t:Option O}(c8:C=.aA Z)(a:fA f g Z p9 o M)(j:f=64\/f=128)(l:M[i]?=J p)(m:o[i]?=J r)(d:zx f p9 r)(a9:W.U e=J R)(b8:R.length<=128)(q:∀n s w8 t,cW (·=e) W n->n.U e=J (R++[.aA r])->P .cO [J T9,J U9,J C,J (.I (g:Int)),J (.I<|dq p9),J (.ah e),J (.I (i:Int)),s,w8,t,D] n):a6 (bn F N) Nr [J T9,J U9,J C,J (.I (g:Int)),J (.I<|dq p9),J (.ah e),J (.I (i:Int)),s,w8,t,D] W P:=by
 have h:∀W,d6 W Z C:=λW=>by exact c8<|>rfl
 have b:=a.dA i p r l m;have b':r≠[]:=by
  induction p9 with
  |true=>refine aU d λc G c'=>?_;clear m b d q;subst G;exact AC EQ _|false=>refine ia d λc k H c'=>?_;clear m b d q;subst H;exact AC (ED<|~~~_) _
 have b9:=bA.ar b b';refine b3 ?_;intro d8 A E;refine aF (K p9<|aC (.inl ⟨by decide,by decide⟩)<|a8 (k:=g+cm p9+2*i) rfl (h W) (a.k4 i p l) (a.zH (co j)<|dT l) ?_);refine b3 ?_;intro d8 A E;refine ft (op (h W) ?_);refine a.aH<|>aaA @Q S j rfl (h W) a.aH d b λe8 c9 y=>?_;have x:=y.U _ _ a9;refine cl ?_;intro A E;refine cc (av @x<|Eh (r:=r) (h c9) rfl rfl b rfl b9 (a.aH▸ba (co j) (~~~_)) λd' u z d9 a'=>a' ?_);have T:=z.U _ _ @x;refine av @T ⟨eo b8<|~~~_,?_⟩;exact q _ _ _ _ ((y.ak z).ds.ak gb) cg
theorem aaC (K:jm F)(E:qG F)(G:nY F)(H:qH F)(T:C=.aA Z)(j:fA Q l Z k o M)(n:Q=64\/Q=128)(a9:∀x∈o,zx Q k x):∀(i a:List aO) (f:w) (d b w8 c:Option O),a++i=o->f.U g=J (bh a)->(∀h d b w8 c,cW (·=g) f h->h.U g=J (bh o)->P .cO [J T9,J U9,J C,J (.I (l:Int)),J (.I<|dq k),J (.ah g),d,b,w8,c,D] h)->gK ap [6] (a6 (bn F N) Nr) (λb8=>True) ((gA (a.length:Int) i.length).map .I) [J T9,J U9,J C,J (.I (l:Int)),J (.I<|dq k),J (.ah g),d,b,w8,c,D] f P:=by
 intro i;induction i with
 |nil=>intro a f d b w8 c e m q;rw[dn]at e;subst e;exact aC trivial (q f _ _ _ _ .cf m)|cons r i W=>
  intro a f d b w8 c e m q;have p:o[a.length]?=J r:=by refine aY (e ..)<|hT (cL _)<|>iD<|>?_;rfl
  refine aW (j.rq p) λa' S=>?_;have R:(bh a).length<=128:=by have:=congrArg mL e;have y:=j.iL;have u:=co n;rw[a2]at this;exact fK<|>dN 0x36192c607807f218f1b91bb20 (co n) this y
  refine aC trivial (aaB @K @E @G H T j n S p (a9 r<|dT p) m R λa8 b w8 c z s=>?_);have:=W (a++[r]) a8 (J<|.I (a.length:Int)) b w8 c (by exact bN<|>e) (by refine s<|>?_;unfold bh;refine cD<|>?_;rfl) λh d b w8 c A t=>q h d b w8 c (z.ak A) t;rw[a2]at this;exact this
theorem abf (s:jm F)(W:n0 F)(Z:im F)(P:qG F)(R:nY F)(S:qH F)(T:sn F)(Q:m3 F)(t:kt N):m5 (bB F N):=λ{a E p z A d c8 b9 c9 r f o} G a' b i q=>by
 refine aW b.cu λb' c=>?_;have a8:=co i;refine bU Kk [J (eG p z A),J (.I ((d+1:Nat):Int)),D,D,D,D,D,D,D,D,D] rfl rfl (ft<|Q G a'<|T ?_);refine aW (show∃g,g=O.aA r from⟨_,rfl⟩) λg m=>aY (m ..)<|?_;have l:∀a,d6 a r g:=λa=>by exact m<|>rfl
 refine cl ?_;intro h C;refine ft (ru (l a) rfl c.ee ?_);refine De<|>aC (ct<|dB _) λe j=>?_;have H:(a.a1 e []).U e=J (bh []):=cg;have b8:=dS (x:=[]) j;generalize a.a1 e []=n at*;have a9:=c.iL;have ew:a6 (bn F N) Ce.aP.aP.aP [J (eG p z A),J (.I ((d+1:Nat):Int)),J g,J (.I (bT (d+1):Int)),J (.I<|dq f),J (.ah e),D,D,D,D,D] n (dI E):=by
  refine b3 ?_;intro d' h C;refine gV (s (k:=bT (d+1)+3) rfl (l n) c.hu (c.q1 a8) ?_);refine aC ⟨⟨by decide,by decide⟩,by constructor<;>(first|exact ai 34898773920|exact az 0x5ba688fe09633b55a958f2f4 (co i) a9)⟩ (.inl ⟨rfl,?_⟩);refine V (show((o.length:Int)-0).toNat=o.length by exact bo (ac 27261975558<|ie<|ai 1699736)<|ac 3408405511<|ie<|ai 1699736)<|aaC @s @P @R S m c i b.dg o [] n D D D D rfl H λy c' d8 w8 d9 M K=>cl ?_;intro h C;refine bH (Z f ?_);have q:=q e y j K (M.dP j b8);induction f with
  |true=>rw[b.cJ rfl]at q;exact t q|false=>exact W (k:=bT (d+1)+8) rfl (l y) (b.ci rfl).1 (b.ci rfl).2 (t q)
 cases f
 ·refine cI ?_;intro h;refine bx (bc ?_);exact ew
 ·refine cI ?_;intro h;refine bx (bc ?_);exact ew
end
noncomputable def gH (a:aO):Nat:=max 4 a.length
noncomputable def jA (a:aO):aO:=a++dK (4-a.length) 0
noncomputable def ex (a:List aO):Nat:=(a.map gH).sum
noncomputable def jC:Nat->List aO->List Nat
 |_,[]=>[]|a,b::c=>(a-gH b)::jC (a-gH b) c
noncomputable def lf:List aO->aO
 |[]=>[]|a::b=>lf b++jA a
noncomputable def zV (d:List aO)(b:List Nat):List bF:=PO (λc a=>(a,gH c)) d b
theorem M0:(jA p).length=gH p:=by unfold jA gH;exact a2<|>hh<|>bo (pu (λa=>aj 58417179054278 a<|lS _ _) λa b=>aj 345663483440 a<|qd _ _) (pu (λa=>aj 2789708894563 a<|rP<|ac 445546110 a) λa b=>aj 152455760<|rQ<|ai 203392 b)
theorem tO:ex (p::o)=gH p+ex o:=rfl
theorem EG {a:List aO}:bM a=2*a.length+ex a:=by
 induction a with
 |nil=>exact rfl|cons c a b=>show ab c+bM a=_;refine b<|>tO<|>fQ<|>?_;unfold ab gH;exact bo (aj 0x5064ba6a2bb2fd6778) (aj 0x4fc9e5394aac184dfc)
theorem wD {b:List aO}:∀{a:Nat},(jC a b).length=b.length:=by
 induction b with
 |nil=>exactλ{d}=>rfl|cons _ b c=>exactλ{d}=>congrArg oT c
theorem Ak {a:List aO}:(lf a).length=ex a:=by
 induction a with
 |nil=>exact rfl|cons c a b=>exact by unfold lf;exact a2<|>b<|>M0<|>tO<|>ll<|>rfl
theorem ET:((o.map jA).reverse).flatten=lf o:=by
 induction o with
 |nil=>exact rfl|cons b o a=>refine f1<|>qc<|>List.flatten_append<|>a<|>Pm<|>?_;rfl
theorem sW {a b c:aO}{d:Nat}(e:a.length=d):bA (a++b++c) d b:=λi f=>by subst e;exact bN<|>hT (eN _ _)<|>un<|>oM f<|>rfl
theorem afD {dx:List aO}:∀{a:Nat} {lr xr:aO},lr.length+ex dx=a->∀(i d:Nat) (e:aO),(jC a dx)[i]?=J d->dx[i]?=J e->bA (lr++(lf dx++xr)) d e:=by
 induction dx with
 |nil=>exactλf i f f c f=>nomatch c|cons x dx h=>
  intro a lr xr b i d e c g;induction i using ey with
  |zero=>cases c;cases g;rw[tO]at b;unfold lf jA;have:=@sW (lr++lf dx) x (dK (4-x.length) 0++xr) (a-gH x) (by exact a2<|>Ak<|>bo (bP 0x13274206c3ff684fe b aw) (bP 0x95f8eedd65bdc703 b<|ay<|az 64325951146 b));simp-iota only[bN]at this⊢;exact this
  |succ i=>rw[tO]at b;unfold lf;exact bN<|>h (a:=a-gH x) (~~~bo (bP 0x13274206c3ff684fe b aw) (bP 0x95f8eedd65bdc703 b<|ay<|az 64325951146 b)) i d e c g
theorem Oo {c:List aO}:∀{a:Nat},ex c<=a->ez (a-ex c) a (zV c<|jC a c) 0:=by
 induction c with
 |nil=>exactλ{a} f=>⟨λx b=>(nomatch b),λx b=>(nomatch b),λx b=>(nomatch b),mK,jG _⟩|cons d c e=>exactλ{a} b=>by rw[tO]at b⊢;have:=(@e (a-gH d)<|~~~az 0xa07b03b63890 b aw).Oe (n:=gH d) (lS _ _) (bL _ _);rw[w3 (~~~aj 148809612 b),P5]at this;exact this
noncomputable def Op:b2:=Cf.aP.aP.aP.as
noncomputable def afE:b2:=Cf.aP.aP.aP.aP
section
variable {F N:aJ}
theorem afF {h i j k l:O}{b c a:Nat}{d C:List aO}(s:b≠c)(r:W.U b=J (bh d))(x:W.U c=J (bh C))(Q:d.length<=200)(M:C.length<=200)(K:p.length<=200)(A:gH p<=a)(E:a<=128)(q:∀f,cW (λe=>e=b\/e=c) W f->f.U b=J (bh<|d++[bY 2 (a-gH p)])->f.U c=J (bh<|C++[jA p])->P .cO [J h,J i,J j,J k,J l,J (.ah b),J (.ah c),J (.I ((a-gH p:Nat):Int)),J (.aA p),J (.aA<|jA p),D,D,D] f):a6 (bn F N) Op [J h,J i,J j,J k,J l,J (.ah b),J (.ah c),J (.I (a:Int)),J (.aA p),z,D,D,D] W P:=by
 have m:(if(0:Int)<4-(p.length:Int)then 4-(p.length:Int)else 0)=((4-p.length:Nat):Int):=by split<;>(first|exact dW (ac 45449438286 aw) (ac 3817510012542<|ay<|ai 469499485075 ‹_›)|exact dW (ai 24)<|ai 1844460<|BH<|ai 45437064712<|gk.mp ‹_›)
 have n:(a:Int)-((jA p).length:Int)=((a-gH p:Nat):Int):=M0<|>dW (aj 2321420436608 aw) (aj 2322931884226<|ay<|ac 354984 A);refine cI ?_;intro g;refine aF (aC ?_ ?_)
 ·exact m<|>⟨eH _,eM.mpr<|ct<|~~~ai 11639780152 (bL _ _)⟩
 refine m<|>fV<|>aC (ct ?_) ?_
 ·exact hh<|>ac 0x4402d6e7d4118ef8 K (bL _ _)
 have G:p++dK (4-p.length) 0=jA p:=rfl;refine G<|>cI ?_;intro g;refine aF<|b3 ?_;intro R g S;refine iy (bV:=[J h,J i,J j,J k,J l,J (.ah b),J (.ah c),J (.I ((a-gH p:Nat):Int)),J (.aA p),J (.aA<|jA p),D,D,D]) (by refine aY (n ..)<|?_;rfl) ?_;have H:a-gH p<256^2:=by have:(256:Nat)^2=65536:=rfl;exact az 0xc0c6f6d261a757436f34c E n this
 refine cI ?_;intro g;refine cc (av r<|aC ⟨eH _,by decide,cz.mpr H⟩ ?_);refine fV<|>av r ⟨by exact fK<|>eo Q (~~~_),?_⟩;have y:(W.a1 b<|bh d++[.aA (bY 2<|a-gH p)]).U b=J (bh<|d++[bY 2 (a-gH p)]):=by refine cg<|>?_;unfold bh;refine cD<|>?_;rfl
 have o:(W.a1 b<|bh d++[.aA (bY 2<|a-gH p)]).U c=J (bh C):=(iw<|qf s).trans x;have t:cW (λe=>e=b\/e=c) W (W.a1 b<|bh d++[.aA (bY 2<|a-gH p)]):=te (.inl rfl);generalize W.a1 b (bh d++[.aA (bY 2<|a-gH p)])=T at*;refine b3 ?_;intro R g S;refine cc (av o<|av o ⟨by exact fK<|>eo M (~~~_),?_⟩);refine q _ (t.ak<|te<|.inr rfl) ((iw s).trans y)<|cg<|>?_;unfold bh;refine cD<|>?_;rfl
theorem afG {E G H K M:O}{g f a:Nat}(a':g≠f)(Z:¬a=g)(a8:¬a=f)(b8:∀h∈o,h.length<=200):∀(b:List aO) (c:Nat) (j C:List aO) (d:w) (w8 i:Option O),(∀h∈b,h∈o)->d.U a=J (bh o)->d.U g=J (bh j)->d.U f=J (bh C)->j.length+b.length<=200->C.length+b.length<=200->ex b<=c->c<=128->(∀e w8 i,cW (λA=>A=g\/A=f) d e->e.U g=J (bh<|j++(jC c b).map (bY 2))->e.U f=J (bh<|C++b.map jA)->P .cO [J E,J G,J H,J K,J M,J (.ah g),J (.ah f),J (.I ((c-ex b:Nat):Int)),w8,i,D,D,D] e)->gK ap [8] (a6 (bn F N) Op) (λe=>e.U a=J (bh o)) (bh b) [J E,J G,J H,J K,J M,J (.ah g),J (.ah f),J (.I (c:Int)),w8,i,D,D,D] d P:=by
 intro b;induction b with
 |nil=>intro c j C d w8 i _ k n m _ _ _ _ q;exact aC k (q d _ _ .cf (by exact V (show(jC c []).map (bY 2)=[]from rfl)<|dn<|>n)<|by exact Fu<|>dn<|>m)|cons h b b9=>
  intro c j C d w8 i y k n m s r p z q;rw[tO]at p q;rw[fQ]at s r;refine aC k (afF a' n m (~~~ac 0x7d2b4479577a5c s) (~~~ac 0x7d2b4479577a5c r) (b8 h<|y h<|.head _) (~~~aj 148809612 p) z λb' t S Q=>?_);have a9:¬(a=g\/a=f):=λl=>l.elim @Z @a8;refine b9 (c-gH h) _ _ b' _ _ (λx l=>y x<|.tail _ l) (t.U _ _ a9 k) S Q (by refine a2<|>?_;show j.length+1+_<=_;exact ac 0x279ad876091f577a5c s) (by refine a2<|>?_;show C.length+1+_<=_;exact ac 0x279ad876091f577a5c r) (~~~az 0xa07b03b63890 p aw) (~~~ac 7600188792 z (bL _ _)) λe w8 i W T R=>?_;refine P5<|>q e w8 i (t.ak W) ?_ ?_
  ·refine T<|>bN<|>?_;rfl
  ·refine R<|>bN<|>?_;rfl
end
noncomputable def hb (a:Bool)(b c d:Nat):aO:=[lI a,0,0]++bY 2 b++bY 2 c++[0]++(if a then []else bY 4 d)
theorem yV {a:Bool}{d c b:Nat}:(hb a d c b).length=cm a:=by
 unfold hb;rw[a2,a2,a2,a2,cC,cC];cases a
 ·show 3+2+2+1+(bY 4 b).length=12;exact cC<|>rfl
 ·rfl
theorem KX {a:List Nat}:((a.map<|bY 2).flatten).length=2*a.length:=by
 induction a with
 |nil=>exact rfl|cons c a b=>exact by exact f1<|>wO<|>a2<|>cC<|>b<|>fQ<|>P1<|>ll<|>rfl
theorem WK:∀{i b:Nat},M[i]?=J b->bA ((M.map<|bY 2).flatten) (2*i) (bY 2 b):=by
 induction M with
 |nil=>exactλ{f} {f} a=>by cases a
 |cons q M e=>
  intro i;induction i using ey with
  |zero=>exactλ{b} a=>by cases a;exact f1<|>wO<|>(yr (d:=_++_)).i5
  |succ i=>exactλ{b} a=>λj c=>by have:=e a j c;exact V (f1 ..)<|V (wO ..)<|V (hT (by rw[cC];exact ac 2008186426) ..)<|V (cC ..)<|V (show 2*(i+1)+j-2=2*i+j by exact bo (aj 0x6dcfa53ac900c2420<|ay<|ac 2008186426)<|aj 0x6d87b19925e538034 aw)<|this
structure sl (d a:Nat) (b:List UInt8) (e:Bool) (c:List aO) (f:Nat):Prop where
 cu:fA d a b e c (jC d c)
 fT:a+cm e+2*c.length+ex c<=d
 jR:bA b (a+5) (bY 2<|d-ex c)
 mj:b[a+7]?=J 0
 kU:bA b (a+1) (bY 2 0)
 ci:e=ap->bA b (a+8) (bY 4 f)
theorem HO {a b c d:aO}{p q:Nat}(g:bA b q d)(f:a.length=p)(h:q+d.length<=b.length):bA (a++b++c) (p+q) d:=λi e=>by subst f;exact bN<|>iB<|>hT (eN _ _)<|>un<|>oM (ef (um e q) h)<|>g i e
theorem aah {aa d r:Nat}{b:Bool}{dx:List aO}{s:aO}(o:s.length=d)(f:d+cm b+2*dx.length+ex dx<=aa)(Q:∀x∈dx,x.length<=200):sl aa d (s++hb b dx.length (aa-ex dx) r++((jC aa dx).map<|bY 2).flatten++dK (aa-ex dx-(d+cm b+2*dx.length)) 0++lf dx) b dx r:=by
 have g:=@yV b dx.length (aa-ex dx) r;have m:=@KX (jC aa dx);rw[wD]at m;have G:=@Ak dx;have z:(dK (aa-ex dx-(d+cm b+2*dx.length)) (0:UInt8)).length=aa-ex dx-(d+cm b+2*dx.length):=hh;have e:8<=cm b:=by cases b<;>decide
 generalize N:((jC aa dx).map<|bY 2).flatten=A at*;generalize dK (aa-ex dx-(d+cm b+2*dx.length)) (0:UInt8)=t at*;have l:∀{q x},bA (hb b dx.length (aa-ex dx) r) q x->q+x.length<=cm b->bA (s++hb b dx.length (aa-ex dx) r++A++t++lf dx) (d+q) x:=λ{q x} k h=>by have:=HO (c:=A++(t++lf dx)) k o (by exact g<|>h);simp-iota only[bN]at this⊢;exact this
 have E:=@Oo dx aa (~~~bP 0x29e2832fa7f0f8d8e f @e);have K:bA (hb b dx.length (aa-ex dx) r) 0 [lI b]:=by
  unfold hb;exactλj n=>by
   have:j=0:=by rw[nK]at n;exact bo (ai 2362207 n) (ai 134)
   clear n;subst this;rfl
 have H:(s++hb b dx.length (aa-ex dx) r++A++t++lf dx).length=aa:=by simp-iota only[a2];exact bo (G6 0x89b2d96d2ebe029e1fb40db1f8c2a372aac6b8eed3ab07e6 o g G m z (ay<|dN 0xdbf1adf9731c12757a30e5994 f aw)<|ay<|bP 0x29e2832fa7f0f8d8e f @e) (G6 0x35cf0ae47bcf4dc120efe91d1375cb8c7f2b48a05131989f o g G m z aw aw)
 have M:∀p,p∈jC aa dx->aa-ex dx<=p/\p+4<=aa:=λp h=>by refine aW (p6 h) λi y=>aW (show∃x,dx[i]?=J x from⟨_,du<|by exact aY (@wD dx aa ..)<|(dv.mp y).1⟩) λx C=>?_;have F:(p,gH x)∈zV dx (jC aa dx):=dT (i:=i) (by unfold zV;exact Fl<|>C<|>y<|>rfl);exact⟨E.de _ F,ba (jc (lS _ _) p)<|E.dt _ F⟩
 refine⟨⟨H,(l K (by show 0+1<=_;exact ai 16733430 @e)).kD,?_,wD,by exact bP 0x4d053eb1f5a6bc8a378e f,?_,?_,λp h=>by have:=(M p h).1;exact fJ 0x3346acb00cbedced5030aea4e81ce f this aw,λp h=>(M p h).2⟩,f,?_,?_,?_,λP=>?_⟩
 ·refine l ?_ (by exact cC<|>ai 560138138 @e);unfold hb;exact bN<|>bN<|>sW rfl
 ·intro i p k;have y:=(dv.mp k).1;rw[wD]at y;have:=HO (a:=s++hb b dx.length (aa-ex dx) r) (c:=t++lf dx) (N▸WK k) (p:=d+cm b) (by exact a2<|>o<|>g<|>rfl) (by exact cC<|>m<|>ac 0xc4c5b50ac47a3 y);simp-iota only[bN]at this⊢;exact this
 ·intro i p x k C;have:=afD (dx:=dx) (a:=aa) (lr:=s++hb b dx.length (aa-ex dx) r++A++t) (xr:=[]) (by simp-iota only[a2];exact bo (px 0x1259b10831ce2e218cb313b9babf401f4746e56159a98 o g m z (ay<|dN 0xdbf1adf9731c12757a30e5994 f aw)<|ay<|bP 0x29e2832fa7f0f8d8e f @e)<|px 0x121749119bc93825bcd6a726a02e2c1957c52a3834d3b o g m z aw aw) i p x k C;rw[dn]at this;exact this
 ·refine l ?_ (by exact cC<|>ai 565877410 @e);unfold hb;exact bN<|>sW (by rw[a2,cC];rfl)
 ·refine(l (x:=[0]) (q:=7) ?_ (by show 7+1<=_;exact ai 479788330 @e)).kD;unfold hb;exact sW (by rw[a2,a2,cC,cC];rfl)
 ·refine l ?_ (by exact cC<|>ai 18559562 @e);unfold hb;exactλj n=>by
   rw[cC]at n;match j,n with
   |0,_=>rfl|1,_=>rfl
 ·clear f g e z K H;subst P;refine l ?_ (by refine cC<|>?_;decide);unfold hb;have:=@sW ([lI ap,0,0]++bY 2 dx.length++bY 2 (aa-ex dx)++[0]) (bY 4 r) [] 8 (by simp-iota only[a2,cC];rfl);rw[dn]at this;exact this
theorem SH:pB (bh o)=J o:=by
 induction o with
 |nil=>exact rfl|cons b o a=>exact by show(pB<|bh o).map _=_;refine a<|>?_;rfl
theorem LJ (q:i' o):ei (pB<|bh o) i':=gf SH q
def ku (o:aJ):Prop:=∀{d:w} {l:O->w->Prop} {b f h c a k:Nat} {e:List (List UInt8)} {n:List Nat} {i:Bool} {g:List aO},bO d f h e n->c<e.length->(∀x∈e,x.length=b)->32<=b->b<=128->d.U a=J (bh g)->(∀x∈g,x.length<=200)->k<4294967296->bT (c+1)+cm i+bM g<=b->(∀j m,sl b (bT<|c+1) m i g k->bO j f h (e.set c m) n->ec f h d j->l .bE j)->o 24 [eG b f h,.I ((c+1:Nat):Int),eg (dq i) a k] d l
section
variable {F N:aJ}
theorem abh (m':m7 F)(d8:im F)(m8:sn F)(m9:l7 F)(l9:m3 F)(l':sm F):ku (bB F N):=λ{P i9 aa Q R f a r h' s' b c} E e' p9 u8 h d9 f8 p' d q=>by
 have i:=@EG c;have u9:c.length<=64:=dN 0x1285da8b23a70e77665922520 h d i;refine aW (show∃o,h'[f]?=J o from⟨_,du e'⟩) λo e9=>?_;have g9:=p9 o (dT e9);have n9:=@og (f+1);have A:(o.take<|bT<|f+1).length=bT (f+1):=e1<|>bo (ac 354984<|fG _ _) (ac 44523<|gZ<|bP 426082832328370 d g9);refine bU Kv [J (eG aa Q R),J (.I ((f+1:Nat):Int)),J (eg (dq b) a r),D,D,D,D,D,D,D,D,D,D] rfl rfl (bx<|m9 b d9 (~~~dN 0x20825d68b23a70e77665922520 h d i) (~~~az 0xb5183227bd8 d) λg' m=>?_);refine decide_eq_true (show bM c<=aa-bT (f+1)-cm b by exact dN 0x30670f05386092bce594 d aw aw)<|>cI ?_;intro C;refine bc (ft<|m8 ?_);refine cl ?_;intro C S;refine ft (aC (ct<|dB _) λp K=>?_);have b9:(g'.a1 p []).U p=J (bh []):=cg;have n:=dS (x:=[]) K;generalize g'.a1 p []=h8 at*;refine aC (ct<|dB _) λg l=>?_;have j':(h8.a1 g []).U g=J (bh []):=cg;have z:=dS (x:=[]) l;generalize h8.a1 g []=r9 at*;have W:=m.U _ _ d9;have p8:p≠g:=λe=>by rw[<-e,b9]at l;cases l
 have d':¬a=p:=λe=>by rw[<-e,W]at K;cases K
 have e8:¬a=g:=λe=>by rw[<-e,n.U _ _ W]at l;cases l
 have Z:=z.U _ _ (n.U _ _ W);refine b3 ?_;intro i8 C S;refine gV (av Z ?_);refine afG p8 d' e8 f8 c aa [] [] r9 D D (λv8 j=>j) Z (z.U _ _ b9) j' (by show 0+_<=_;exact dN 0x34601156ba23a70e77665922520 h d i) (by show 0+_<=_;exact dN 0x34601156ba23a70e77665922520 h d i) (~~~dN 0x47cf0beeb34bce594 d i) h λa9 w8 t9 G c' c8=>?_;rw[gW]at c' c8;have o':¬(a=p\/a=g):=λj=>j.elim d' e8;have n8:=G.U _ _ o' Z;have l8:∀x y,P.U x=J y->a9.U x=J y:=λx y j=>G.U _ _ (λe=>e.elim (λe=>by have:=m.U _ _ j;rw[e,K]at this;cases this) (λe=>by have:=n.U _ _<|m.U _ _ j;rw[e,l]at this;cases this)) (z.U _ _<|n.U _ _<|m.U _ _ j);have r8:P.ar a9:=⟨l8,λx y j=>G.a4 _ _<|z.a4 _ _<|n.a4 _ _<|m.a4 _ _ j,λx y j=>G.aQ _ _<|z.aQ _ _<|n.aQ _ _<|m.aQ _ _ j⟩;have H:=@KX (jC aa c);rw[wD]at H;have n':aa-ex c<256^2:=by have:(256:Nat)^2=65536:=rfl;exact aj 0x546c5931d4368a636 h this (bL _ _)
 have o9:c.length<256^2:=by have:(256:Nat)^2=65536:=rfl;exact fJ 0x676ddeb6d97485960a4f428d12d1d8f8d4 h d i this
 have o8:cm b<=12:=tf;refine cl ?_;intro C S;refine aF (aC (ct (show 3<=1000 by decide)) λt8 q8=>av cg ?_);have a8:=dS (x:=[.I (dq b),.I 0,.I 0]) q8;have k9:tx [dq b,0,0]=[lI b,0,0]:=by cases b<;>rfl
 generalize a9.a1 t8 [.I (dq b),.I 0,.I 0]=h9 at*;refine aC (by cases b<;>decide)<|k9<|>?_;refine av (a8.U _ _ n8)<|fK<|>aC ⟨eH _,by decide,cz.mpr o9⟩ (aC (ct ?_)<|aC ⟨eH _,by decide,cz.mpr n'⟩<|aC (ct ?_)<|aC ⟨by decide,by decide⟩<|aC (ct ?_) ?_)
 ·refine fV<|>cC<|>?_;show 3+2<=_;decide
 ·rw[fV,fV,a2,cC,cC];show 3+2+2<=_;decide
 ·rw[fV,fV,a2,a2,cC,cC];show 3+2+2+1<=_;decide
 refine fV<|>fV<|>?_;have tail:∀k,h9.ar k->a6 (bn F N) (match afE with|.Y _ (.Y _ b)=>b|_=>.L) [J (eG aa Q R),J (.I ((f+1:Nat):Int)),J (eg (dq b) a r),J (.I (aa:Int)),J (.I (bT (f+1):Int)),J (.ah p),J (.ah g),J (.I ((aa-ex c:Nat):Int)),w8,t9,J (.aA<|hb b c.length (aa-ex c) r),D,D] k (dI i9):=by
  intro k M;have f':=r8.ak (a8.ak M);have T:=E.ar f';have b':=a8.ak M;refine aW (show∃u,u=O.aA o from⟨_,rfl⟩) λu f9=>b3 ?_;intro i8 C S;refine aF (l9 T e9 ?_);refine aY (f9 ..)<|Ef (e:=bT<|f+1) f9 rfl (~~~bP 426082832328370 d g9) (aC (ct ?_)<|av (b'.U _ _ c')<|LJ ⟨ct ?_,aC (ct ?_) ?_⟩)
  ·exact A<|>yV<|>ac 0x8805adceee87f77f8 n9 o8
  ·exact H<|>dN 0x2527462c978a70e77665922520 h d i
  ·exact a2<|>A<|>yV<|>H<|>dN 0x2527462c0c28674a70e77665922520 h d i
  have c9:=b'.U _ _ c8;have t:P.U g=D:=(m.ak n).hM l;have s8:Q≠g:=λe=>by rw[<-e,E.U]at t;cases t
  have s9:R≠g:=λe=>by rw[<-e,E.eX]at t;cases t
  refine cc (av c9<|av c9 ?_);have i':bO (k.a1 g (bh<|c.map jA).reverse) Q R h' s':=⟨(iw s8).trans T.U,(iw s9).trans T.eX,E.eq⟩;have k8:(k.a1 g (bh<|c.map jA).reverse).U g=J (bh (c.map jA).reverse):=by refine cg<|>?_;unfold bh;exact Py<|>rfl
  have q9:P.ar (k.a1 g (bh<|c.map jA).reverse):=gb.dP t f';generalize k.a1 g (bh<|c.map jA).reverse=u' at*;have b8:=aah (b:=b) (r:=r) (aa:=aa) A (~~~dN 0x8eb4dadf93760beeb34bce594 d i) f8;have q':(o.take (bT<|f+1)++hb b c.length (aa-ex c) r++((jC aa c).map<|bY 2).flatten).length=bT (f+1)+cm b+2*c.length:=a2<|>a2<|>A<|>yV<|>H<|>rfl;generalize o.take (bT<|f+1)++hb b c.length (aa-ex c) r++((jC aa c).map<|bY 2).flatten=j9 at*;have s:((aa-ex c:Nat):Int)-(j9.length:Int)=((aa-ex c-(bT (f+1)+cm b+2*c.length):Nat):Int):=q'<|>dW (bP 0xa9fe922ab26c137807191b0 aw) (bP 0x1f7949d91bb6b6883f253e60<|ay<|fJ 0x3442eb2b144e0cc0edb10a7f92272 d i aw);have g8:(dK (aa-ex c-(bT (f+1)+cm b+2*c.length)) (0:UInt8)).length=aa-ex c-(bT (f+1)+cm b+2*c.length):=hh;refine cc (aC ?_ ?_)
  ·exact s<|>⟨eH _,eM.mpr<|ct<|~~~az 0x1a30f12222d65d56e3c h s (bL _ _)⟩
  refine s<|>fV<|>?_;generalize dK (aa-ex c-(bT (f+1)+cm b+2*c.length)) (0:UInt8)=t' at*;refine aC (ct<|~~~bP 0x20f09b1e7b9136bb247d9c52 h s g8 (bL _ _)) (av k8<|LJ ⟨ct ?_,aC (ct ?_) ?_⟩)
  ·exact ET<|>Ak<|>dN 0x1293a4dd2a70e77665922520 h d i
  ·exact ET<|>Ak<|>a2<|>px 0x586f73c6a96335c96b4623e37031b64c1261dd3add8a9295 h d i A s g8 (bL _ _)
  exact ET<|>l' i' e' b8.cu.aH λr' j8 k'=>q r' _ b8 j8 (q9.ds.ak k')
 induction b with
 |true=>have a':=tail h9 .cf;unfold hb at a';rw[if_pos rfl,dn]at a';refine bx (d8 ag ?_);exact bc a'|false=>
  refine b3 ?_;intro i8 C S;refine bx (d8 ap ?_);refine aF (m' p' λk M=>?_);refine aC (ct ?_) ?_
  ·rw[cC,a2,a2,a2,cC,cC];show 3+2+2+1+4<=_;decide
  exact bc (tail k M)
end
abbrev dU:=Nat×Int
variable{E:List dU}
noncomputable def cH (x:dU):aO:=dO x.1 x.2
def k2 (x:dU):Prop:=x.1<4294967296/\iM x.2
noncomputable def oF (a i:Nat):Nat×Nat:=if a<=3 then(0,a)else(min (i-1)<|a-3,3)
def xH (c:aJ):Prop:=∀{b:w} {a:O->w->Prop} {n i:Nat},a (.ce [ae (oF n i).1,ae (oF n i).2]) b->c 30 [.I (n:Int),.I (i:Int)] b a
def xZ (h:aJ):Prop:=∀{c:w} {f:O->w->Prop} {a g:Nat} {i:Int} {b:List dU},c.U a=J (bh<|b.map cH)->(∀x∈b,k2 x)->b.length<=500->(∀e d,c.U e=D->d.U e=J ((b.map (·.1)++[g]).map ae)->c.ar d->f (.ah e) d)->h 81 [eg i a g] c f
def xY (j:aJ):Prop:=∀{a:w} {i:O->w->Prop} {v:O} {k b c g:Nat} {e:List UInt8} {d:List dU} {l:List Nat},d6 a e v->fA b c e ap (d.map cH) l->(∀x∈d,k2 x)->b<=128->bA e (c+8) (bY 4 g)->g<4294967296->(∀h f,a.U h=D->f.U h=J ((d.map (·.1)++[g]).map ae)->a.ar f->i (.ah h) f)->j 79 [bd v k b c] a i
def vh (k:aJ):Prop:=∀{d:w} {g:O->w->Prop} {b i j l c:Nat} {f:List (List UInt8)} {m:List Nat},bO d i j f m->c<f.length->(∀x∈f,x.length=b)->b=64\/b=128->(∀a e h,d.a4 a=D->e.a4 a=J h->c0 b (bT<|c+1) h [] [] [] b 0 []->d.ar e->g (bd (.br a) (c+1) b<|bT<|c+1) e)->k 96 [bS b i j l,.I ((c+1:Nat):Int),.I 13] d g
section
variable {F N:aJ}
theorem abo:xH (bB F N):=λ{e d a i} q=>by
 unfold oF at q;refine bU Ks [J (.I (a:Int)),J (.I (i:Int)),D,D] rfl rfl (bx<|eh (λb=>?_)<|λb=>?_)
 ·rw[if_pos (eM.mp b)]at q;exact bH q
 ·have b:¬a<=3:=λx=>b (eM.mpr x);rw[if_neg b]at q;have c:(if(a:Int)-3<(if(i:Int)-1<0 then 0 else(i:Int)-1)then(a:Int)-3 else(if(i:Int)-1<0 then 0 else(i:Int)-1))=((min (i-1) (a-3):Nat):Int):=by split<;>split at*<;>(first|exact dW (ac 0xec70227a7ffd65d5664ed3b66fa11693 (iV.mp ‹_›) ‹_›) (az 0x19a4184d5bb1a75aef49e38c4977224e3959386fa11757 (iV.mp ‹_›) ‹_› ‹_› (fG _ _) (bL _ _))|exact dW (ai 24) (aj 0x300add053d3d821f ‹_› (fG _ _) (bL _ _))|exact dW (aj 0xbd50d61fc858682 aw<|rR<|az 0x45ebfbd961352d0e7b87787 ‹_› aw (ay<|ai 120253369<|iV.mp ‹_›)) (aj 0x78e1752a5066c1e (rS _ _)<|ay<|ai 120253369<|iV.mp ‹_›)|exact dW (aj 0x5e3cfdd9bb6b80 aw<|gZ<|az 0x45ed6160e151ff6c5def84e (gk.mp ‹_›) aw<|ay<|ai 29546523346<|gk.mp ‹_›)<|aj 6263816100856678 (fG _ _)<|ay<|ai 29546523346<|gk.mp ‹_›)
  refine bc (aF ?_);refine iy (bV:=[J (.I (a:Int)),J (.I (i:Int)),J (ae<|min (i-1)<|a-3),D]) (by unfold ae;refine aY (c ..)<|?_;rfl) ?_;exact bH q
theorem acp (K:pm F):xZ (bB F N):=λ{m S a c h b} n Q o q=>by
 refine bU I2 [J (eg h a c),D] rfl rfl (bH<|av n ?_);refine oh (m:=m) (λz l=>l.U _ _ n) (bh<|b.map cH) (b.map λx=>ae x.1) [] m .cf (by exact fK<|>ax<|>ax<|>rfl) (λi v C e d z R l h=>?_) λA s=>aC (ct ?_) λk M=>?_
 ·unfold bh at e;rw[cv,cv]at e;rw[cv]at d;refine aU (fw.mp e) λy r g=>?_;subst g;refine aU (fw.mp r) λx p g=>?_;clear r e;subst g;rw[p]at d;cases d;exact K (Q x<|dT p).1 (h z .cf)
 ·exact gW<|>ax<|>ba o (~~~_)
 refine gW<|>?_;have E:(A.a1 k<|b.map λx=>ae x.1).U k=J (b.map λx=>ae x.1):=cg;have t:=dS (x:=b.map λx=>ae x.1) M;generalize A.a1 k (b.map λx=>ae x.1)=f at*;refine aC (ct (show 1<=1000 by decide)) λu P=>?_;have G:(f.a1 u [ae c]).U u=J [ae c]:=cg;have j:=dS (x:=[ae c]) P;have H:f.a1 u [ae c]=f.a1 u [.I (c:Int)]:=rfl;refine aY (H ..)<|?_;generalize f.a1 u [ae c]=T at*;refine av (j.U _ _ E) (av G<|aC (ct ?_) λC d=>?_)
 ·refine a2<|>ax<|>?_;show b.length+1<=_;exact ai 0xa3f65d95a4a1cc o
 refine q C _ ((s.ak<|t.ak j).hM d) ?_ ((s.ak<|t.ak j).ak<|dS d);refine cg<|>cD<|>oO<|>?_;rfl
theorem acm (M:pq F)(P:jn F)(R:sB F)(S:sC F):xY (bB F N):=λ{m Q v bf G H C b8 b b9} f a a8 e W Z q=>by
 have h:=a.q1 e;have p:=a.iL;rw[ax]at h p;have o:=a.hu;rw[ax]at o;refine bU I5 [J (bd v bf G H),D] rfl rfl (bx<|M ap f a.ee ?_);refine b3 ?_;intro c' c9 d8;refine bc (bH<|P f o h ?_);refine aC ⟨⟨by decide,by decide⟩,LR (n:=b.length+1)<|ba h<|~~~_⟩ (.inl ⟨rfl,?_⟩);refine oh (m:=m) (λa' a'=>trivial) _ ((b.map (·.1)++[C]).map ae) [] m .cf ?_ (λi b' c8 t j k E l A=>?_) λk l=>aC (ct ?_) λa9 s=>?_
 ·refine ax<|>Ab<|>ax<|>a2<|>ax<|>?_;show _=b.length+1;exact bo (ac 0x7f4823d619b8c6<|ie<|ai 2745107032) (ac 0xa9cf73f0fb8c7<|ie<|ai 2745107032)
 ·have T:=Ac t;subst T;rw[cv]at j;refine aU (fw.mp j) λx d g=>?_;subst g;have r:=(dv.mp d).1;rw[a2,ax]at r;by_cases c:i<b.length
  ·rw[oM (by exact ax<|>c),cv]at d;refine aU (fw.mp d) λy z g=>?_;clear j;subst g;exact R (f.ar l) a e (by refine cv<|>z<|>?_;rfl) (a8 y<|dT z).1 (A k .cf)
  ·have K:i=b.length:=by have:[C].length=1:=rfl;exact bo (aj 180271841205 r this) (ac 354984<|eT c)
   clear t c;subst K;rw[hT (by exact ax<|>cL _),ax,iD]at d;cases d;have:=S (Q:=E) (bf:=bf) (f.ar l) a e W Z (A k .cf);rw[ax]at this;exact this
 ·refine gW<|>ax<|>a2<|>ax<|>?_;show b.length+1<=_;exact az 0x68c3eccdfef6224d54f2f4 e p
 ·exact gW<|>q a9 _ (l.hM s) cg (l.ak<|dS s)
theorem acE (M:vf F)(k:qP F)(K:m3 F)(P:uT N):vh (bB F N):=λ{W r e m n h p a8 b8} s Q R d q=>by
 have g:=@og (p+1);have j:∀(c:List UInt8),c.length=e->a6 (bn F N) H0.aP.aP [J (bS e m n h),J (.I ((p+1:Nat):Int)),J (.I 13),J (.aA c),D,D] W (dI r):=by intro c f;refine cI ?_;intro o;refine aF (k<|P (~~~ac 33235136462136 (co d) f) λa a9 l E T=>?_);refine cl ?_;intro o b9;refine cc (M E f (~~~ac 0x118a0468c4bd5eaa (ed d) g) (co d) λZ C G H len S z t y A=>?_);refine bH (q a Z C l G ⟨⟨len,S,y,rfl,by show _+8+0<=e;exact ac 0xb747f822c4bd5eaa (ed d) g,λi p b=>(nomatch b),λi p a' b=>(nomatch b),λp b=>(nomatch b),λp b=>(nomatch b)⟩,λx b=>(nomatch b),z,A,⟨t,trivial⟩,by show _+8+0<=e;exact ac 0xb747f822c4bd5eaa (ed d) g,?_,mK⟩<|H.dP l T);exact⟨λx b=>(nomatch b),λx b=>(nomatch b),λx b=>(nomatch b),mK,jG _⟩
 refine bU JC [J (bS e m n h),J (.I ((p+1:Nat):Int)),J (.I 13),D,D,D] rfl rfl (aF<|k<|aC ⟨eH _,eM.mpr<|ct<|~~~ai 11639780460 (co d)⟩ ?_);refine cI ?_;intro o;refine bx (eh (λb=>?_)<|λb=>?_)
 ·obtain rfl:p=0:=by have:=iW.mp b;exact bo (ai 40731151026 b) (ai 134)
  refine aW (show∃c,a8[0]?=J c from⟨_,du Q⟩) λc f=>aF (K (p:=0) s f ?_);exact bc (j c<|R c<|dT f)
 ·exact bc<|j _ (by exact fV<|>hh<|>rfl)
end
def u6 (d:aJ):Prop:=∀{c:w} {a:O->w->Prop} {b:List UInt8},bA b 0 (bY 4 0)->a (.I 0) c->d 40 [.aA b,.I 0] c a
def xK (c:aJ):Prop:=∀{b:w} {a:O->w->Prop} {n:Nat},n<4294967296->a (.aA<|bY 4 n) b->c 41 [.I (n:Int)] b a
def u7 (e:aJ):Prop:=∀{d:w} {c:O->w->Prop} {a b:Nat},5<=a->a<=1000->1<=b->b<=a-4->c (.I 1) d->e 42 [.I (a:Int),.I (b:Int)] d c
def va (g:aJ):Prop:=∀{a:w} {c:O->w->Prop} {h e f b:Nat} {d:List (List UInt8)} {i:List Nat},bO a e f d i->1<=b->b<d.length->c .bE a->g 44 [eG h e f,.I ((b+1:Nat):Int)] a c
noncomputable def ky (b:Nat)(a:aO):aO:=bY 4 0++a++dK (b-4-a.length) 0
theorem Cs {a:Nat}{c:aO}(b:c.length+4<=a):(ky a c).length=a:=by unfold ky;exact a2<|>a2<|>cC<|>hh<|>bo (az 0x5af44d3553d23dd2 (ay<|aj 59601661504700 b aw)<|ay<|ac 87714172 b) (az 0x24496a4b0a8ab6a8 aw aw)
theorem IQ:bA (ky g p) 0 (bY 4 0):=by unfold ky;exact(yr (d:=_++_)).i5.i5
theorem Ug:bA (ky g p) 4 p:=by unfold ky;exact sW cC
section
variable {F N:aJ}
theorem abB:u6 (bB F N):=λ{f k b} g q=>by
 refine aW (show∃c,c=O.aA b from⟨_,rfl⟩) λc h=>aY (h ..)<|?_;have e:=bA.ar g (ED<|~~~_);rw[cC]at e;refine bU Ke [J c,J (.I 0),D] rfl rfl (bH ?_);have key:∀{a:O->w->Prop},a (.aA<|bY 4 0) f->kJ c (.I 0) (.I<|0+4) f a:=λ{a} i=>by subst h;have:=@pV b.length 0 4 0 (0+4) (λj d=>a (.aA<|dp b j d) f) rfl rfl (dB _) e;have d:dp b 0 4=bY 4 0:=yJ g (by exact cC<|>e);rw[d]at this;exact this i
 exact key<|aC (by refine cC<|>?_;decide) q
theorem abC:xK (bB F N):=λ{d c b} a q=>by refine bU JT [J (.I (b:Int)),D] rfl rfl (bH ?_);exact aC ⟨eH _,by decide,cz.mpr<|ef a<|~~~_⟩ q
theorem abD:u7 (bB F N):=λ{i h a b} d g c e q=>by
 have f:((b:Int)+((a:Int)-4)-1)/((a:Int)-4)=1:=by refine V (show(a:Int)-4=((a-4:Nat):Int)by exact dW (ac 3816498013104 aw)<|ac 5839265853822<|ay<|ai 6505758 @d)<|V (show(b:Int)+((a-4:Nat):Int)-1=((b-1+(a-4):Nat):Int)by exact dW (aj 0x117f7209d57d4282 aw)<|aj 0x3f40f76f2b42194<|ay<|ai 132202 @c)<|?_;have:(b-1+(a-4))/(a-4)=1:=Nat.add_div_right _ (~~~ac 1288707924 @c @e)<|>PV (~~~aj 207226100718 @e (ay<|ai 132202 @c))<|>rfl;exact congrArg jF this
 refine bU JJ [J (.I (a:Int)),J (.I (b:Int)),D,D] rfl rfl (aF<|bH ?_);refine aC ⟨by exact ai 2657723322590 @d,by constructor<;>(first|exact ai 0x10eb9b6069a94a5294a5294a520f6ede @d|exact ai 0x389a78bb7bdef7bdef7bd1b8fcdd1d884 g)⟩ ?_;rw[<-f]at q;exact q
theorem abF (e:uZ F):va (bB F N):=λ{k j c h i g l m} b d f q=>by
 refine bU Ka [J (eG c h i),J (.I ((g+1:Nat):Int)),D] rfl rfl (bx ?_);refine fN (λa=>?_) (e b ?_)
 ·have:=cz.mp a;exact ai 0x1a9f1c8274e8e9e9cbfa1164d @d a
 exact fN (λa=>eI _<|ef f<|lT<|cz.mp a)<|bc q
end
def sJ (f:Nat)(a:List (List UInt8))(d:List Nat)(b:Nat)(c:List (List UInt8))(e:List Nat):Prop:=(d=[]/\c=a++[dK f 0]/\e=[]/\b=a.length+1)\/(c=a/\d=e++[b])
theorem EA (i:lw c')(h:bO W Q l r M)(k:r.length<100000)(j:g<=128)(q:∀a b e f,sJ g r M b e f->bO a Q l e f->ec Q l W a->S (.I (b:Int)) a):c' 104 [eG g Q l] W S:=i h k j (λd a c b=>q a _ _ _ (.inl ⟨d,rfl,rfl,rfl⟩) c b) λm x d a c b=>q a x _ m (.inr ⟨rfl,d⟩) c b
theorem vE {C:cG}{d a b:aX}(e:ao C d f W (el λc W=>if c then ao C a f W S else ao C b f W S)):ao C (.iN d a b) f W S:=e
theorem ad3 {v:O}{e:Nat}{i j:Int}(l:v=.aA Z)(g:i=0)(h:j=(e:Int))(f:Z.length<=e)(q:S (.aA Z) W):kJ v (.I i) (.I j) W S:=by
 subst l g h;have d:h2 Z.length (e:Int)=Z.length:=yE.trans (rR f);have c:h2 Z.length 0=0:=q0 (k:=0) (dB _);have key:∀{a:O->w->Prop},a (.aA<|dp Z 0 Z.length) W->k6 Z.length (.I 0) (.I (e:Int)) λm e=>a (.aA<|dp Z m e) W:=λ{a} k=>by show a (.aA<|dp Z (h2 _ _)<|h2 _ _) W;exact c<|>d<|>k
 have b:dp Z 0 Z.length=Z:=by unfold dp;exact nL<|>oL<|>rfl
 have:=@key S;rw[b]at this;exact this q
def xL (m:aJ):Prop:=∀{f:w} {j:O->w->Prop} {a d e n:Nat} {c:List (List UInt8)} {i:List Nat} {b:aO},bO f d e c i->c.length<100000->64<=a->a<=128->1<=b.length->b.length<=a-4->(∀x∈i,1<=x/\x<=c.length)->(∀g h k l,sJ a c i (h+1) k l->bO g d e (k.set h<|ky a b) l->ec d e f g->j (.I ((h+1:Nat):Int)) g)->m 43 [bS a d e n,.aA b] f j
section
variable {F N:aJ}
theorem abE (b':xK F)(c8:u7 F)(b8:sm F)(b9:lw F):xL (bB F N):=λ{g' g9 a m o M f' h8 l} W c' E j R i d' q=>by
 refine aW (show∃t,t=O.aA l from⟨_,rfl⟩) λt G=>aY (G ..)<|bU Ku [J (bS a m o M),J t,D,D,D,D,D,D,D] rfl rfl (aF<|aF ?_);refine b3 ?_;intro g f h;refine iy (bV:=[J (bS a m o M),J t,J (eG a m o),J (.I ((a-4:Nat):Int)),D,D,D,D,D]) (by refine V (show((a-4:Nat):Int)=(a:Int)-4 by exact dW (ac 5839265853822<|ay<|ai 208180924 E)<|ac 3816498013104 aw)<|?_;rfl) ?_;refine b3 ?_;intro g f h;refine aF (op (d:=l) (by exact G<|>rfl)<|c8 (~~~ai 1398154940 E) (~~~ai 11639780460 j) @R @i ?_);refine aC ⟨⟨by decide,by decide⟩,by decide,by decide⟩ (.inl ⟨rfl,?_⟩);refine aC trivial (EA @b9 W c' j λs C T g8 K z a9=>?_);refine aC trivial ?_;obtain⟨b,rfl,d9⟩:∃b,C=b+1/\b<T.length:=by
  rcases K with⟨_,e,_,A⟩|⟨e,A⟩
  ·exact⟨f'.length,A,by refine e<|>a2<|>?_;show _<_+1;exact ai 93333⟩
  ·have:=d' C (by exact A<|>cP _ (.head _));exact⟨C-1,by exact bo (ac 42823471152 aw)<|ac 10545038814<|ay (ai 132202 this.1),by exact e<|>aj 207226100718 this.2 (ay (ai 132202 this.1))⟩
 refine aC (ct (show 1<=1000 by decide)) λc k=>?_;have p:(s.a1 c [ae (b+1)]).U c=J [ae (b+1)]:=cg;have S:=dS (x:=[ae (b+1)]) k;have a8:s.a1 c [ae (b+1)]=s.a1 c ([]++[.I ((b+1:Nat):Int)]):=rfl;refine aY (a8 ..)<|?_;generalize s.a1 c [ae (b+1)]=e' at*;have c9:=z.ar S;refine b3 ?_;intro g f h;refine gV (av p ?_);refine aC ⟨⟨by decide,by decide⟩,show(-1048576:Int)<=1 by decide,show(1:Int)<=1048576 by decide⟩ (.inl ⟨rfl,?_⟩);refine aC trivial<|b3 ?_;intro g f h;refine aF (av p ?_);refine b3 ?_;intro g f h;refine aF (aC (.inl ⟨by decide,by decide⟩)<|aC (.inl ⟨by decide,by decide⟩) ?_);refine ad3 (e:=a-4) G (Int.zero_mul _) (Int.one_mul _) @i<|b3 ?_;intro g f h;refine cc (av p ?_);refine b' (n:=0) (~~~_)<|aC (ct<|by exact cC<|>aj 0x12a1feb322e168ee4 j @i (bL _ _)) ?_;have r:((a-4:Nat):Int)-(l.length:Int)=((a-4-l.length:Nat):Int):=dW (aj 2321420436608 aw) (aj 2322931884226<|ay<|ac 354984 @i);refine aC (by exact r<|>⟨eH _,eM.mpr<|ct<|~~~az 0x118bc98a80e12c9cbc9794 j @R r (bL _ _)⟩)<|r<|>fV<|>aC (ct<|by exact a2<|>cC<|>hh<|>az 0xf5a4fe0cc7f753428bb63c j r (bL _ _)) ?_;refine b8 (d:=ky a l) c9 d9 (Cs<|~~~aj 80628648332778 @i (ay<|ai 208180924 E)) λf8 Z Q=>aC trivial ?_;have d8:∀x y,e'.U x=J y->¬(x=m\/x=o)->f8.U x=J y:=λx y a' e9=>Q.U x y e9 a';have e8:¬(c=m\/c=o):=λe=>e.elim (λe=>by rw[e,z.U]at k;cases k) (λe=>by rw[e,z.eX]at k;cases k);have P:=d8 _ _ p e8;refine b3 ?_;intro g f h;refine bH (vE<|CI (hF:=[]) rfl P λf9 H=>av (H.U _ _ P) ?_);exact q f9 b T g8 K (Z.ar H) (a9.ak<|S.ds.ak<|Q.ak H.ds)
end
def xN (l:aJ):Prop:=∀{b:w} {g:O->w->Prop} {a j k c e:Nat} {i:List (List UInt8)} {m:List Nat} {h:List UInt8},bO b j k i m->1<=c->i[c]?=J h->bA h 0 (bY 4 0)->64<=a->a<=128->1<=e->e<=a-4->(∀f d,b.U f=D->d.U f=J [ae (c+1)]->b.ar d->g (.ah f) d)->l 46 [eG a j k,.I ((c+1:Nat):Int),.I (e:Int)] b g
def xO (l:aJ):Prop:=∀{f:w} {j:O->w->Prop} {b c d m a i:Nat} {h:List (List UInt8)} {e:List Nat} {k:List UInt8},bO f c d h e->1<=a->h[a]?=J k->bA k 0 (bY 4 0)->64<=b->b<=128->1<=i->i<=b-4->a+1∉e->e.length<=100000->(∀g,bO g c d h (e++[a+1])->ec c d f g->j (.I 1) g)->l 47 [bS b c d m,.I ((a+1:Nat):Int),.I (i:Int)] f j
section
variable {F N:aJ}
theorem abH (s:u6 F)(t:u7 F)(y:va F)(r:m3 F):xN (bB F N):=λ{e R n K P b M T W S} i p j C z A E G q=>by refine bU JK [J (eG n K P),J (.I ((b+1:Nat):Int)),J (.I (M:Int)),D,D,D,D] rfl rfl (ft<|aC (ct<|dB _) λa d=>?_);have c:(e.a1 a []).U a=J []:=cg;have k:=dS (x:=[]) d;generalize e.a1 a []=f at*;have m:=i.ar k;refine cl ?_;intro g h;refine gV (t (~~~ai 1398154940 z) (~~~ai 11639780460 A) E G ?_);refine aC ⟨⟨by decide,by decide⟩,by decide,by decide⟩ (.inl ⟨rfl,?_⟩);refine aC trivial (cc<|y m @p (dv.mp j).1 ?_);refine cl ?_;intro g h;refine bx (av c ?_);refine b3 ?_;intro Q g h;refine bc (cc<|av c<|av c ⟨by decide,?_⟩);have o:(f.a1 a<|[]++[.I ((b+1:Nat):Int)]).U a=J [ae (b+1)]:=cg;have l:e.ar (f.a1 a<|[]++[.I ((b+1:Nat):Int)]):=gb.dP d k;generalize f.a1 a ([]++[.I ((b+1:Nat):Int)])=H at*;refine aF (r (i.ar l) j<|s C ?_);refine aC trivial<|b3 ?_;intro Q g h;refine bx<|bc (bH ?_);exact q a H d o l
theorem abI (s:xN F)(r:pl F):xO (bB F N):=λ{S Q o j k p M P W Z R} b g h y t x C E A G q=>by have z:=(dv.mp h).1;refine bU JU [J (bS o j k p),J (.I ((M+1:Nat):Int)),J (.I (P:Int)),D,D,D] rfl rfl (aF<|s b @g h y t x C E λl T c d i=>?_);have m:=b.ar i;have H:¬(l=j\/l=k):=λa=>a.elim (λa=>by rw[a,b.U]at c;cases c) (λa=>by rw[a,b.eX]at c;cases c);refine cI ?_;intro a8;refine gV (av d ?_);refine aC d (cc<|r m A (~~~ai 158246774 @g) z G λK n f=>?_);have e:=f.U _ _ H d;refine aC e<|bH (av e ?_);exact q K n (i.ds.ak f)
end
theorem zO (b:g=64\/g=128)(a:Q<=g):Q-e7 g Q<=g-4:=by
 rcases b with rfl|rfl
 ·exact(by decide+kernel:∀Q,Q<=64->Q-e7 64 Q<=64-4) Q a
 ·exact(by decide+kernel:∀Q,Q<=128->Q-e7 128 Q<=128-4) Q a
noncomputable def au.ew (a:Nat)(c:au):aO:=c.cU.drop (e7 a c.cU.length)
def nW (a:Nat)(b:List (List UInt8))(c:au):Prop:=c.c6≠0->2<=c.c6/\b[c.c6-1]?=J (ky a<|c.ew a)
theorem au.Nu {a:Nat}{c:au}:(c.ew a).length=c.cU.length-e7 a c.cU.length:=gB
def xM (j:aJ):Prop:=∀{c:w} {e:O->w->Prop} {a h i d:Nat} {g:List (List UInt8)} {k:List Nat} {b:aO},bO c h i g k->1<=d->g[d]?=J (ky a b)->64<=a->a<=128->1<=b.length->b.length<=a-4->(∀f,c.ar f->e (.aA b) f)->j 45 [eG a h i,.I ((d+1:Nat):Int),.I (b.length:Int)] c e
def ss (j:aJ):Prop:=∀{b:w} {g:O->w->Prop} {a d e k:Nat} {i:List (List UInt8)} {f:List Nat} {c:au},bO b d e i f->a=64\/a=128->c.dg a->nW a i c->c.c6∉f->f.length<=100000->(c.c6=0->g .bE b)->(c.c6≠0->∀h,bO h d e i (f++[c.c6])->ec d e b h->g .bE h)->j 48 [bS a d e k,c.fu a] b g
def vb (i:aJ):Prop:=∀{b:w} {d:O->w->Prop} {a g h j:Nat} {f:List (List UInt8)} {k:List Nat} {c:au},bO b g h f k->a=64\/a=128->c.dg a->nW a f c->(∀e,b.ar e->d (.aA c.cU) e)->i 49 [bS a g h j,c.fu a] b d
theorem ad2 {v:O}{a r:List UInt8}{p:Nat}{i j:Int}(h:v=.aA a)(f:i=(p:Int))(g:j=((p+r.length:Nat):Int))(d:bA a p r)(c:p+r.length<=a.length)(q:S (.aA r) W):kJ v (.I i) (.I j) W S:=by subst h;have key:∀{b:O->w->Prop},b (.aA<|dp a p<|p+r.length) W->k6 a.length (.I i) (.I j) λl e=>b (.aA<|dp a l e) W:=λ{b} k=>pV (p:=p) (e:=p+r.length) f g (ba (eN _ _) c) c k;have:=@key S;rw[yJ d c]at this;exact this q
section
variable {F N:aJ}
theorem abG (G:u6 F)(H:va F)(E:m3 F):xM (bB F N):=λ{g t c S T p Z a8 a} i C m l K Q d q=>by
 have P:=(dv.mp m).1;have M:=@Cs c a (~~~aj 80628648332778 d (ay<|ai 208180924 l));refine bU Kj [J (eG c S T),J (.I ((p+1:Nat):Int)),J (.I (a.length:Int)),D,D,D,D,D,D] rfl rfl (ft<|aC (ct<|dB _) λb n=>?_);have j:(g.a1 b []).U b=J []:=cg;have f:=dS (x:=[]) n;generalize g.a1 b []=h at*;refine cI ?_;intro W;refine mG ⟨2,?_⟩;refine pI (cz.mpr Q)<|cl ?_;intro W a9;refine cc (H (i.ar f) @C P ?_);refine aW (show∃s,s=O.aA (ky c a)from⟨_,rfl⟩) λs e=>aF (E (i.ar f) m ?_);refine aY (e ..)<|aF (ad2 (p:=4) (r:=a) e rfl rfl Ug (~~~az 0x471521a9aee692c d M (ay<|ai 208180924 l)) ?_);refine cc (av j<|av j ⟨by decide,?_⟩);have y:(h.a1 b<|[]++[.aA a]).U b=J (bh [a]):=cg;have R:g.ar (h.a1 b<|[]++[.aA a]):=gb.dP n f;generalize h.a1 b ([]++[.aA a])=o at*;refine aF<|e<|>aF (G IQ ?_);refine fN (λk=>?_) ?_
 ·have:((a.length:Int)-(a.length:Int))>0:=k;exact ai 0xa2e9e7347a11693 k
 refine bc (bH<|av y ?_);have A:[a].flatten=a:=Pm;have z:[a].flatten.length<=b5/\t (.aA [a].flatten) o:=A<|>⟨ct<|~~~aj 0x1c398d58e4e7a94 K d (bL _ _),q o R⟩;exact z
theorem abJ (s:xO F)(t:vc F):ss (bB F N):=λ{Q P a H M p R S c} n h l k z C m K=>by
 have x:=co h;obtain⟨E,f,e⟩:=c;refine bU JV [J (bS a H M p),J (au.fu a ⟨E,f,e⟩),D] rfl rfl (bx<|rd (λb=>?_)<|λb=>bc<|m<|iW.mp b)
 ·have i:e≠0:=λg=>b (congrArg jF g);refine bW (k i) λd A=>aW (show∃j,e=j+1 from⟨e-1,by exact bo (ac 42823471152 aw)<|ac 10545038814<|ay<|ai 132216 @d⟩) λj q=>?_;clear k m b;subst q;have y:e7 a f.length≠f.length:=λg=>i (l.oG.mpr g);have d:2<=j+1:=d;refine cI ?_;intro T;refine cc (t ?_);exact s n (~~~ai 16081380 @d) A IQ (~~~ai 38530201276 (ed h)) x (Nat.sub_pos_of_lt<|FA (@pM a f.length) y) (zO h l.cU) z C λG o r=>bc (K i G o r)
theorem abK (t:xM F)(x:vc F):vb (bB F N):=λ{C K a G H s M P c} p d g r q=>by
 have y:=co d;refine bU Kg [J (bS a G H s),J (c.fu a),D] rfl rfl (bx<|eh (λh=>?_)<|λh=>?_)
 ·have f:=g.oG.mp (iW.mp h);have b:c.jz a=c.cU:=by unfold au.jz;exact f<|>nL<|>rfl
  rw[<-b]at q;exact bH (q C .cf)
 ·have f:c.c6≠0:=λb=>h (congrArg jF b);refine bW (r f) λi k=>aW (show∃o,c.c6=o+1 from⟨c.c6-1,by exact bo (ac 42823471152 aw)<|ac 10545038814<|ay<|ai 132216 @i⟩) λo m=>?_;have n:=@pM a c.cU.length;have z:e7 a c.cU.length≠c.cU.length:=λb=>f (g.oG.mpr b);have A:=zO d g.cU;have e:=@au.Nu a c;rw[m]at k i;have b:c.jz a++c.ew a=c.cU:=j1 _ _;refine cl ?_;intro Q R;refine bc (bH<|x ?_);refine aY (e ..)<|m<|>t p (~~~ai 16081380 @i) k (~~~ai 38530201276 (ed d)) y (by exact(fo z).elim (λj=>az 486553211806399 e j aw) λj=>aj 0x1e046e195ce6141bfa1164d n j) (~~~aj 1220425570 A e) λE l=>aC (ct ?_) (b<|>q E l)
  ·have:=g.cU;exact dN 0x130e69fc0a989f07366813ba04df995 (co d) n e (@au.tk a c) this (bL _ _)
end
def su (n:aJ):Prop:=∀{d:w} {i:O->w->Prop} {a g h o:Nat} {f:List (List UInt8)} {k:List Nat} {c:Int} {b:aO},bO d g h f k->f.length<100000->a=64\/a=128->b.length<=a->(∀x∈k,1<=x/\x<=f.length)->(e7 a b.length=b.length->i (au.fu a ⟨c,b,0⟩) d)->(e7 a b.length≠b.length->∀j e l m,sJ a f k (e+1) l m->bO j g h (l.set e<|ky a<|au.ew a ⟨c,b,e+1⟩) m->ec g h d j->i (au.fu a ⟨c,b,e+1⟩) j)->n 50 [bS a g h o,.I 13,.I 0,.I c,.aA b] d i
section
variable {F N:aJ}
theorem abM (H:u1 F)(K:xL F)(M:qP F)(P:sk N):su (bB F N):=λ{d n b t y o a9 a' l a} A Q h R S W Z=>by
 refine aW (show∃f,f=O.aA a from⟨_,rfl⟩) λf i=>aY (i ..)<|?_;have j:∀d,d6 d a f:=λd=>by exact i<|>rfl
 have k:=@pM b a.length;refine bU Kb [J (bS b t y o),J (.I 13),J (.I 0),J (.I l),J f,D,D,D] rfl rfl (aF<|M<|op (j d)<|H (~~~ai 38530201276 (ed h)) ?_);have r:∀(c:w) (m:Nat),n (au.fu b ⟨l,a,m⟩) c->a6 (bn F N) Ic.aP.aP.aP [J (bS b t y o),J (.I 13),J (.I 0),J (.I l),J f,J (.I (e7 b a.length:Int)),J (.I (m:Int)),D] c (dI n):=by intro c m q;refine cI ?_;intro z;refine bH (op (j c)<|Ef (e:=e7 b a.length) i rfl k ?_);exact P q
 refine b3 ?_;intro b8 z b9;refine aF (bx<|op (j d)<|eh (λg=>?_)<|λg=>?_)
 ·refine cI ?_;intro z;refine aF (Eg (p:=e7 b a.length) i rfl k ?_);have s:(a.drop<|e7 b a.length).length=a.length-e7 b a.length:=gB;exact K A Q (~~~ai 38530201276 (ed h)) (co h) (~~~az 0x168f39745dd0d71 g s aw) (~~~aj 1220425570 (zO h R) s) S λc p T a8 E C G=>bc<|r c (p+1) (Z (nO<|cz.mp g) c p T a8 E C G)
 ·exact bc<|r d 0 (W<|bo k<|eT λx=>g<|cz.mpr x)
end
noncomputable def d0 (a:List Nat)(c b:Nat):Nat:=((a.take b).drop c).sum
def et (b:List Nat)(room step:Nat):Nat->List Nat->Prop
 |_,[]=>False|c,a::d=>c<=a/\(d0 b c a<=room/\match d with
  |[]=>a=b.length|_=>c<a/\(a<b.length/\et b room step (a+step) d))
def qB (a:List Nat)(room step:Nat):Nat->List Nat->Prop
 |_,[]=>True|d,b::c=>match c with
  |[]=>True|_=>room<d0 a d b+a.getD b 0/\qB a room step (b+step) c
theorem vz:d0 M g g=0:=by unfold d0;refine oK (by rw[e1];exact fG _ _)<|>?_;rfl
theorem Cy {b:List Nat}{d a:Nat}(e:d<=a)(c:a<b.length):d0 b d (a+1)=d0 b d a+b.getD a 0:=by unfold d0;refine PN c<|>Fc (by rw[e1];exact aj 2082943772 e<|gZ<|ac 354985 c)<|>AQ<|>ig<|>du c<|>?_;simp-iota
noncomputable def yS:b2:=H3.aP.as
noncomputable def WB:b2:=match yS with|.Y _ (.Y (.iA _ a) _)=>a|_=>.L
theorem CG {C:cG}{l b:aX}(c:ao C l f W (el λa W=>if a then ao C b f W (el λa W=>S (.bs a) W)else S (.bs ap) W)):ao C (.hG l b) f W S:=c
section
variable {F N:aJ}
theorem WC {l room:Nat}(m:W.U l=J (M.map ae))(o:M.length=Q):∀(d a:Nat),g<=a->a<=Q->Q-a<=d->d0 M g a<=room->(∀b,g<=b->b<=Q->d0 M g b<=room->(b=Q\/room<d0 M g b+M.getD b 0)->P .cO [J (.ah l),J (ae room),J C,J T9,J (ae g),J (ae Q),J (ae<|d0 M g b),J (ae b),D] W)->hR (λp W d=>ao (bn F N) (.hG (.a7 .eY (.X 7)<|.X 5)<|.a7 .ar (.an .bg (.X 6)<|.as (.X 0)<|.X 7)<|.X 1) p W<|el d) (a6 (bn F N) WB) (d+1) [J (.ah l),J (ae room),J C,J T9,J (ae g),J (ae Q),J (ae<|d0 M g a),J (ae a),D] W P:=by
 intro d;induction d with
 |zero=>intro a c f k j q;obtain rfl:a=Q:=bo (ac 354984 @f) (aj 365323935522 @k aw);refine CG (fN (λe=>eI _<|cz.mp e) ?_);exact q a @c @f @j (.inl rfl)
 |succ d r=>
  intro a c f k j q;refine CG (eh (λe=>?_)<|λe=>q a @c @f @j<|.inl<|bo @f<|eT λx=>e<|cz.mpr x)
  ·have i:a<M.length:=o▸cz.mp e;have n:(M.map ae)[a]?=J (ae<|M.getD a 0):=by refine cv<|>du i<|>ig<|>du i<|>?_;rfl
   refine av m (fY n ?_);refine eh (λh=>?_) (λh=>q a @c @f @j<|.inr<|iC λx=>h<|eM.mpr x)
   ·have h:=eM.mp h;rw[<-Cy @c i]at h;refine cl ?_;intro p s;refine aF (av m<|fY n ?_);refine aF ?_;have:=r (a+1) (rM @c) (o▸i) (~~~bP 0x4a69ba5fef70ddbd59a @k aw (ay<|ac 3588238253 e)) h q;rw[Cy @c i]at this;exact this
theorem EU {C:cG}{a:b2}(c:a6 C a f W (λb f W=>match b with|.cO=>hR (λf W g=>ao C (.ab<|.bs ag) f W<|el g) (a6 C a) g f W P|.aI d=>P (.aI d) f W)):hR (λf W g=>ao C (.ab<|.bs ag) f W<|el g) (a6 C a) (g+1) f W P:=by show(if ag=ag then a6 C a f W _ else P .cO f W);exact if_pos rfl<|>c
noncomputable def cK (a:Bool):Nat:=if a then 1 else 0
theorem WD {o f room e:Nat}(f9:¬o=f)(s:M.length=e)(e':∀a,a<e->M.getD a 0<=room):∀(h b:Nat) (g:List Nat) (c:w) (K Q:Option O),b<e->e-b<h->c.U o=J (M.map ae)->c.U f=J (g.map ae)->g.length+(e-b)<=900->(∀t m d,cW (·=f) c t->t.U f=J ((g++m).map ae)->et M room (cK k) b m->qB M room (cK k) b m->P (.aI<|.ah f) d t)->hR (λd c h=>ao (bn F N) (.ab<|.bs ag) d c<|el h) (a6 (bn F N) yS) h [J (.ah o),J (ae room),J (.bs k),J (.ah f),J (ae b),J (ae e),K,Q,D] c P:=by
 intro h;induction h with
 |zero=>intro b g c K Q _ d';exact absurd d' (oS _)|succ h f'=>
  intro b g c K Q H f8 W z C q;refine EU<|cl ?_;intro d p;refine ft ?_;have e8:d0 M b b<=room:=vz<|>dB _;have c8:ae (d0 M b b)=.I 0:=by refine vz<|>?_;rfl
  refine iy (bV:=[J (.ah o),J (ae room),J (.bs k),J (.ah f),J (ae b),J (ae e),J (ae<|d0 M b b),J (ae b),D]) (by refine c8<|>?_;rfl) ?_;refine b3 ?_;intro b8 d p;refine mG ⟨e-b+1,?_⟩;refine WC W s (e-b) b (cL _) (gY H) (cL _) @e8 λa r T y h4=>?_;have n:b<a:=by
   rcases h4 with h4|h4
   ·exact aj 2088541729 H @h4
   ·refine FA @r λx=>?_;clear r T y;subst x;rw[vz,jG]at h4;exact eI _ (ef @h4<|e' b H)
  have E:∀(x:Nat) (l:List Nat),(l.map ae)++[ae x]=(l++[x]).map ae:=λx l=>by refine cD<|>?_;rfl
  refine cl ?_;intro d p;refine bx (CG<|fN (λx=>eI _<|iW.mp x▸n) ?_);refine cl ?_;intro d p;refine bc (bx<|eh (λA=>?_)<|λA=>?_)
  ·have i:a=e:=bo @T (eM.mp A);refine cI ?_;intro d;refine cc (av z<|av z ⟨by exact ax<|>eo (ba (eN _ _) C) (~~~_),?_⟩);refine b3 ?_;intro b8 d p;refine bH (q _ [e] _ gb ?_ ⟨i▸r,i▸y,s.symm⟩ trivial);exact V (cg ..)<|aY (E ..)<|rfl
  ·have i:a<e:=iC λx=>A (eM.mpr x);have Z:room<d0 M b a+M.getD a 0:=h4.resolve_left (nO i);refine bc (cc<|av z<|av z ⟨by exact ax<|>eo (ba (eN _ _) C) (~~~_),?_⟩);have G:(c.a1 f<|g.map ae++[ae a]).U f=J ((g++[a]).map ae):=cg<|>E<|>rfl;have e9:(c.a1 f<|g.map ae++[ae a]).U o=J (M.map ae):=(iw f9).trans W;have S:cW (·=f) c (c.a1 f<|g.map ae++[ae a]):=gb;generalize c.a1 f (g.map ae++[ae a])=a' at*;have go:a6 (bn F N) (match yS with|.Y _ (.Y _<|.Y _<|.Y _<|.Y _<|.Y _ b')=>b'|_=>.L) [J (.ah o),J (ae room),J (.bs k),J (.ah f),J (ae<|a+cK k),J (ae e),J (ae<|d0 M b a),J (ae a),D] a' (λd8 d c=>match d8 with|.cO=>hR (λd c h=>ao (bn F N) (.ab<|.bs ag) d c<|el h) (a6 (bn F N) yS) h d c P|.aI g8=>P (.aI g8) d c):=by
    refine bx (eh (λj=>?_)<|λj=>?_)
    ·have a8:e<=a+cK k:=eM.mp j;have a9:a+cK k=e:=by unfold cK at*;cases k<;>simp at*<;>(first|exact bo (ac 0x829462b23fb5659fa1171f i j) (ac 0x10544432405e379fa1165b i j)|exact bo (ac 73229353 i)<|ac 22848627831628 j)
     refine b3 ?_;intro b8 d p;refine cc (av G<|av G ⟨by exact ax<|>a2<|>eo (show g.length+1<=1000 by exact bP 0x46e6a2bd73c604302ff12b24ffd18 C n (iV.mp A) aw) (~~~_),?_⟩);refine cl ?_;intro d p;refine bH (q _ [a,e] _ (S.ak gb) ?_ ⟨r,y,n,s▸i,⟨fv a9,by exact a9<|>vz<|>dB _,s.symm⟩⟩ ⟨Z,trivial⟩)
     ·refine cg<|>E<|>bN<|>?_;rfl
    ·have a8:a+cK k<e:=iC λx=>j (eM.mpr x);refine bc<|f' (a+cK k) (g++[a]) a' _ _ a8 (~~~fJ 0x1ea9366a765d0f9d1d42005 f8 n aw (ay<|aj 1252612861617<|iV.mp j)) e9 G (by refine a2<|>?_;show g.length+1+_<=_;exact fJ 0xead6ab0c2aabd0f0bb815d2591583f9eb8 C n aw<|ay<|aj 1252612861617<|iV.mp j) λt m d d9 c9 R b9=>?_;induction m using cj with
     |nil=>exact R.elim|cons c' m=>exact q t (a::c'::m) d (S.ak d9) (by refine c9<|>bN<|>?_;rfl) ⟨r,y,n,s▸i,R⟩ ⟨Z,b9⟩
   cases k
   ·exact aF go
   ·exact aF go
end
def xF (j:aJ):Prop:=∀{b:w} {g:O->w->Prop} {i room:Nat} {d:Bool} {a:List Nat},b.U i=J (a.map ae)->0<a.length->a.length<=800->(∀h,h<a.length->a.getD h 0<=room)->(∀f e c,b.U f=D->e.U f=J (c.map ae)->b.ar e->et a room (cK d) 0 c->qB a room (cK d) 0 c->g (.ah f) e)->j 26 [.ah i,ae room,.bs d] b g
noncomputable def pX (b:Bool)(a:List Nat):List Nat:=0::a.dropLast.map (·+cK b)
def nZ (h:aJ):Prop:=∀{a:w} {e:O->w->Prop} {g:Nat} {f:Bool} {b:List Nat},a.U g=J (b.map ae)->b.length<=900->(∀d c,a.U d=D->c.U d=J ((pX f b).map ae)->a.ar c->e (.ah d) c)->h 27 [.ah g,.bs f] a e
section
variable {F N:aJ}
theorem abj:xF (bB F N):=λ{f C g room k e} c p s r q=>by
 refine bU JQ [J (.ah g),J (ae room),J (.bs k),D,D,D,D,D,D] rfl rfl (ft<|aC (ct<|dB _) λb a=>?_);have m:(f.a1 b []).U b=J (([]:List Nat).map ae):=cg;have d:=dS (x:=[]) a;generalize f.a1 b []=z at*;have t:¬g=b:=λl=>by rw[<-l,c]at a;cases a
 refine av (d.U _ _ c)<|ax<|>cl ?_;intro A E;refine mG ⟨e.length+1,?_⟩;exact WD t rfl r (e.length+1) 0 [] z D D @p (~~~ac 297386376 (bL _ _)) (d.U _ _ c) m (by show 0+_<=_;exact ac 0x8173217f05f90b7f8 s<|bL _ _) λy h A o n j i=>q b y h a n (o.dP a d) j i
theorem NO (a:f' 0 (g-1)):k6 g .bE (.I (-1)) f':=by
 show f' 0 (h2 _ _);have:h2 g (-1)=g-1:=by
  unfold h2;refine if_pos (~~~_)<|>?_;induction g using ey with
  |zero=>rfl|succ g=>refine V (show(-1:Int)+((g+1:Nat):Int)=(g:Int)from(At _ _).trans<|Int.add_neg_cancel_right g 1)<|OP (eM.mpr<|kN g)<|>E6 (eH g)<|>?_;rfl
 exact this<|>a
theorem abk:nZ (bB F N):=λ{m z y b a} H K q=>by
 have go:a6 (bn F N) Ii.aP [J (.ah y),J (.bs b),J (ae<|cK b),D] m (dI z):=by
  refine b3 ?_;intro b9 b8 b';refine bH (aC (ct (show 1<=1000 by decide)) λh Q=>?_);have A:(m.a1 h [.I 0]).U h=J [ae 0]:=cg;have o:=dS (x:=[.I 0]) Q;generalize m.a1 h [.I 0]=s at*;refine av (o.U _ _ H) (NO ?_);have G:dp (a.map ae) 0 ((a.map ae).length-1)=a.dropLast.map ae:=by unfold dp;exact V (oL ..)<|V (ax ..)<|aY (j0 ..)<|ue<|>rfl
  refine G<|>?_;have d:a.dropLast.length<=900:=qa<|>ac 0xe621fb15396bf78 K (bL _ _);refine aC (ct<|by exact ax<|>ai 381412282189708 d) λf M=>?_;have j:(s.a1 f<|a.dropLast.map ae).U f=J (a.dropLast.map ae):=cg;have T:=dS (x:=a.dropLast.map ae) M;generalize s.a1 f (a.dropLast.map ae)=t at*;refine av j<|oh (m:=t) (λc l=>l.U _ _ j) (a.dropLast.map ae) ((a.dropLast.map (·+cK b)).map ae) [] t .cf (by exact ax<|>ax<|>ax<|>rfl) (λi v a' n e c a8 l S=>?_) λc l=>aC (ct<|gW<|>ax<|>ax<|>ai 381412282189708 d) λg P=>?_
  ·rw[cv]at n;rw[cv,cv]at e;refine aU (fw.mp n) λx R C=>?_;subst C;rw[R]at e;cases e;exact S c .cf
  ·refine gW<|>?_;have E:(c.a1 g ((a.dropLast.map (·+cK b)).map ae)).U g=J ((a.dropLast.map (·+cK b)).map ae):=cg;have W:=l.ak (dS (x:=(a.dropLast.map (·+cK b)).map ae) P);generalize c.a1 g ((a.dropLast.map (·+cK b)).map ae)=a9 at*;have p:=T.ak W;refine av (p.U _ _ A) (av E<|aC (ct ?_) λZ k=>?_)
   ·refine a2<|>ax<|>ax<|>?_;show 1+_<=_;exact ai 0xa3f5fa11a7c78c d
   ·have r:=o.ak p;exact q Z _ (r.hM k) cg (r.ak<|dS k)
 refine bU Kq [J (.ah y),J (.bs b),D,D] rfl rfl ?_;cases b
 ·exact aF go
 ·exact aF go
end
section
variable {K E A cs:List Nat}{room g5 s jL x y mY:Nat}
noncomputable def nC (g5:Nat):Nat->List Nat->Nat
 |s,[]=>s|_,a::A=>nC g5 (a+g5) A
theorem Nz {A:List Nat}:∀{jL:Nat} {b:List Nat},(jL::(A++b).map (·+g5))[A.length]?=J (nC g5 jL A):=by
 induction A with
 |nil=>exactλ{d} {d}=>rfl|cons a A c=>exactλ{jL} {b}=>c
theorem acI {A:List Nat}:∀{jL x:Nat},nC g5 jL (A++[x])=x+g5:=by
 induction A with
 |nil=>exactλ{a} {a}=>rfl|cons _ A b=>exactλ{a} {a}=>b
theorem KE (a:E≠[]):et K room g5 s (g::E)↔s<=g/\(d0 K s g<=room/\(s<g/\(g<K.length/\et K room g5 (g+g5) E))):=by
 induction E using cj with
 |nil=>exact absurd rfl a|cons b E=>exact Iff.rfl
theorem KH {A:List Nat}:∀{jL:Nat},et K room g5 jL (A++x::y::cs)->nC g5 jL A<x/\x<K.length/\d0 K (nC g5 jL A) x<=room/\et K room g5 (x+g5) (y::cs)/\∀mY,nC g5 jL A<mY->mY<K.length->d0 K (nC g5 jL A) mY<=room->et K room g5 (mY+g5) (y::cs)->et K room g5 jL (A++mY::y::cs):=by
 induction A with
 |nil=>exactλ{jL} b=>⟨b.2.2.1,b.2.2.2.1,b.2.1,b.2.2.2.2,λmY a e c f=>⟨gY a,c,a,e,f⟩⟩|cons a A j=>
  exactλ{jL} b=>by
   have g:∀h,A++h::y::cs≠[]:=λh i=>by cases A<;>cases i
   have b:=(KE<|g x).mp b;have d:=j b.2.2.2.2;exact⟨d.1,d.2.1,d.2.2.1,d.2.2.2.1,λmY a e c f=>(KE<|g mY).mpr ⟨b.1,b.2.1,b.2.2.1,b.2.2.2.1,d.2.2.2.2 mY a e c f⟩⟩
theorem IX (a:s<g)(b:g<=K.length):d0 K s g=K.getD s 0+d0 K (s+1) g:=by unfold d0;refine p4 (by rw[e1];exact aj 2088541729 a<|gZ<|ac 354984 b)<|>PJ<|>List.getElem_take<|>ig<|>du (~~~aj 2088932119 a b)<|>?_;rfl
theorem Vx (a:et K room g5 (s+1) (y::cs))(b:d0 K s y<=room):et K room g5 s (y::cs):=by
 induction cs using cj with
 |nil=>exact⟨rL a.1,b,a.2.2⟩|cons c cs=>exact⟨rL a.1,b,uq a.2.2.1,a.2.2.2⟩
theorem KF (a:et K room g5 s (y::cs)):s<=y/\y<=K.length:=by
 induction cs using cj with
 |nil=>exact⟨a.1,fv a.2.2⟩|cons b cs=>exact⟨a.1,gY a.2.2.2.1⟩
end
noncomputable def CL:b2:=Ca.aP.as
noncomputable def yO:b2:=match CL with|.Y _ (.Y _<|.Y _<|.Y _<|.Y (.iA _ a) _)=>a|_=>.L
abbrev Ru:=Nat×Bool×Nat×Option O×Option O×Option O×Option O
section
variable {F N:aJ}{cx eb room:Nat}{df:Bool}{K A cs:List Nat}{y x nV:Nat}{age:Bool}
noncomputable def tc (cx eb:Nat)(df:Bool)(K A:List Nat)(y:Nat)(a:Ru):bp:=[J (.ah cx),J (.ah eb),J (.bs df),J (ae<|A.length+1),J (.ah a.2.2.1),J (ae<|d0 K (a.1+cK df) y),J (ae<|d0 K (nC (cK df) 0 A) a.1),J (.bs a.2.1),a.2.2.2.1,a.2.2.2.2.1,a.2.2.2.2.2.1,a.2.2.2.2.2.2,D]
structure si (b:w) (cx eb room:Nat) (df:Bool) (K A cs:List Nat) (y x nV:Nat) (a:w):Prop where
 i3:cW (·=eb) b a
 nq:a.U cx=J (K.map ae)
 nh:a.U eb=J ((A++x::y::cs).map ae)
 lP:a.U nV=J ((pX df<|A++x::y::cs).map ae)
 KD:et K room (cK df) 0 (A++x::y::cs)
theorem Dv {K:List Nat}(a:g<K.length):(K.map ae)[g]?=J (ae<|K.getD g 0):=by refine cv<|>du a<|>ig<|>du a<|>?_;rfl
theorem Dn:((A++x::y::cs).map ae)[A.length]?=J (ae x):=by refine cD<|>hT (by rw[ax];exact cL _)<|>ax<|>iD<|>?_;rfl
theorem Mb:((A++x::y::cs).map ae)[A.length+1]?=J (ae y):=by refine cD<|>hT (by rw[ax];exact kN _)<|>ax<|>un<|>?_;rfl
theorem Y2:((A++x::y::cs).map ae).set A.length (ae g)=(A++g::y::cs).map ae:=by refine cD<|>AO _ _ (by rw[ax];exact cL _)<|>ax<|>iD<|>cD<|>?_;rfl
theorem N4:((pX df<|A++x::y::cs).map ae)[A.length]?=J (ae<|nC (cK df) 0 A):=by unfold pX;refine O7 (by simp-iota)<|>cv<|>Nz<|>?_;rfl
theorem N5:((pX df<|A++x::y::cs).map ae)[A.length+1]?=J (ae<|x+cK df):=by
 unfold pX;have a:(A++x::y::cs).dropLast=(A++[x])++(y::cs).dropLast:=by refine O7 (by simp-iota)<|>bN<|>?_;rfl
 have l:A.length+1=(A++[x]).length:=by refine a2<|>?_;rfl
 refine V (a ..)<|V (cv ..)<|V (l ..)<|Nz<|>acI<|>?_;rfl
theorem wj {a:Nat}:((a+1:Nat):Int)-1=(a:Int):=wJ (a:Int) 1
theorem CJ {C:cG}{i a:Nat}(b:f.b7 i=J (ae<|a+1))(c:S (ae a) W):ao C (.an .as (.X i)<|.ab<|.I 1) f W S:=by refine gf b ?_;show S (.I<|((a+1:Nat):Int)-1) W;exact wj<|>c
theorem ni {C:cG}{i j b a:Nat}{v:O}(e:f.b7 i=J (.ah b))(d:f.b7 j=J (ae a))(c:W.U b=J R)(g:R[a]?=J v)(h:S v W):ao C (.as (.X i)<|.X j) f W S:=gf e<|gf d<|av c (fY g h)
theorem s7 {C:cG}{i j b a:Nat}{v:O}(e:f.b7 i=J (.ah b))(d:f.b7 j=J (ae<|a+1))(c:W.U b=J R)(g:R[a]?=J v)(h:S v W):ao C (.as (.X i)<|.an .as (.X j)<|.ab<|.I 1) f W S:=gf e<|CJ d (av c<|fY g h)
theorem kX {C:cG}{l b:aX}(d:ao C l f W λa W=>ao C b f W λc W=>oe r' a c W S):ao C (.an r' l b) f W S:=d
theorem Tb (a:S (ae g) W):oe .as (ae<|g+1) (.I 1) W S:=by show S (.I<|((g+1:Nat):Int)-1) W;exact wj<|>a
theorem Vn {C:cG}{i j c b a:Nat}(g:f.b7 i=J (.ah c))(e:f.b7 j=J (ae<|b+1))(d:W.U c=J R)(h:R[b]?=J (ae<|a+1))(q:S (ae a) W):ao C (.an .as (.as (.X i)<|.an .as (.X j)<|.ab<|.I 1)<|.ab<|.I 1) f W S:=by refine kX (s7 g e d h ?_);exact Tb q
theorem q5 {C:cG}{b:pb}{l d:aX}(g:ao C l f W λa W=>ao C d f W λe W=>Cv b a e W λc=>S (.bs c) W):ao C (.a7 b l d) f W S:=g
theorem Vp {C:cG}{l b:aX}(c:ao C l f W (el λa W=>if a then S (.bs ag) W else ao C b f W (el λa W=>S (.bs a) W))):ao C (.hd l b) f W S:=c
theorem ta {C:cG}{b i:aX}(d:ao C b f W λa W=>ao C i f W λc W=>wy a c W S):ao C (.as b i) f W S:=d
theorem gJ {C:cG}{i:Nat}{v:O}(a:f.b7 i=J v)(b:S v W):ao C (.X i) f W S:=gf a b
theorem Wh (d9:nZ F){d:w}{w8 n i j:Option O}(b:si W cx eb room df K A cs y x nV d)(e8:∀H,H<K.length->K.getD H 0<=room)(S:(A++x::y::cs).length<=900)(e':¬cx=eb)(C:∀w8 n i j,P .cO (tc cx eb df K A y (x,ap,nV,w8,n,i,j)) d)(q:∀a p w8 n i j T,x=a+1->si W cx eb room df K A cs y a p T->P .cO (tc cx eb df K A y (a,ag,p,w8,n,i,j)) T):a6 (bn F N) yO (tc cx eb df K A y (x,ag,nV,w8,n,i,j)) d P:=by
 refine Dw (KH b.KD) λZ a8 a9 a' g8=>aW (show∃a,x=a+1 from⟨x-1,by exact bo (ac 42823471152 aw)<|ac 10545038814<|ay<|ac 524329 Z⟩) λa b'=>?_;subst b';have l:=KF a';have g9:=@N4 df A cs y (a+1);unfold tc at C q⊢;dsimp-iota only at C q⊢;generalize nC (cK df) 0 A=f at*;have i8:cK df<=1:=by cases df<;>decide
 have R:a+cK df<K.length:=az 0x7951f8ed124128 l.1 l.2;have e9:=e8 _ R;have b9:a+cK df<y:=by have:=l.1;exact aj 4320304329110 l.1
 have o:=IX b9 l.2;have G:=@Cy K f a (~~~ac 51241009 Z) (~~~ac 51420125 a8);have M:a+cK df+1=a+1+cK df:=oP _ _ _;rw[M]at o;have s:a<K.length:=ac 51420125 a8;refine aF (Vn rfl rfl b.nh Dn ?_);have Q:a6 (bn F N) (match yO with|.Y _ (.Y _ e)=>e|_=>.L) [J (.ah cx),J (.ah eb),J (.bs df),J (ae<|A.length+1),J (.ah nV),J (ae<|d0 K (a+1+cK df) y),J (ae<|d0 K f<|a+1),J (.bs ag),J (ae a),J (ae<|K.getD (a+cK df) 0),i,j,D] d P:=by
  refine cl ?_;intro m h8;refine aF (ni rfl rfl b.nq (Dv s) ?_);refine b3 ?_;intro i9 m h8;refine aF (q5<|ni rfl rfl b.lP N5<|ni rfl rfl b.nh Mb ?_);refine cI ?_;intro m;refine aF (kB<|q5<|gJ rfl<|s7 rfl rfl b.lP g9 ?_);have c9:((d0 K (a+1+cK df) y:Nat):Int)+(K.getD (a+cK df) 0:Int)=(d0 K (a+cK df) y:Int):=o<|>p1<|>At<|>rfl;have c':((d0 K f (a+1):Nat):Int)-(K.getD a 0:Int)=(d0 K f a:Int):=G<|>p1<|>wJ<|>rfl;have z:∀e c:Bool,(e=ag->f<a/\d0 K (a+cK df) y<=room)->a6 (bn F N) (match yO with|.Y _ (.Y _<|.Y _<|.Y _<|.Y _ e)=>e|_=>.L) [J (.ah cx),J (.ah eb),J (.bs df),J (ae<|A.length+1),J (.ah nV),J (ae<|d0 K (a+1+cK df) y),J (ae<|d0 K f<|a+1),J (.bs e),J (ae a),J (ae<|K.getD (a+cK df) 0),J (ae<|K.getD a 0),J (.bs c),D] d P:=by
   intro e c d';induction e with
   |false=>exact bx (bc<|bc<|C _ _ _ _)|true=>
    refine bW (d' rfl) λg h=>cI ?_;intro m;refine bx (aF<|kX ?_);refine iy (bV:=[J (.ah cx),J (.ah eb),J (.bs df),J (ae<|A.length+1),J (.ah nV),J (ae<|d0 K (a+cK df) y),J (ae<|d0 K f<|a+1),J (.bs ag),J (ae a),J (ae<|K.getD (a+cK df) 0),J (ae<|K.getD a 0),J (.bs c),D]) (by unfold ae;refine aY (c9 ..)<|?_;rfl) ?_;refine aF (kX ?_);refine iy (bV:=[J (.ah cx),J (.ah eb),J (.bs df),J (ae<|A.length+1),J (.ah nV),J (ae<|d0 K (a+cK df) y),J (ae<|d0 K f a),J (.bs ag),J (ae a),J (ae<|K.getD (a+cK df) 0),J (ae<|K.getD a 0),J (.bs c),D]) (by unfold ae;refine aY (c' ..)<|?_;rfl) ?_;refine cI ?_;intro m;refine lO (gJ rfl<|gJ rfl<|CJ rfl<|av b.nh<|zm (k:=A.length) ?_ ?_)
    ·exact ax<|>a2<|>wZ (hU _)
    refine Y2<|>?_;have E:(d.a1 eb<|(A++a::y::cs).map ae).U eb=J ((A++a::y::cs).map ae):=cg;have b8:(d.a1 eb<|(A++a::y::cs).map ae).U cx=J (K.map ae):=(iw e').trans b.nq;have d8:cW (·=eb) d (d.a1 eb<|(A++a::y::cs).map ae):=gb;generalize d.a1 eb ((A++a::y::cs).map ae)=h' at*;have f8:(A++a::y::cs).length<=900:=by rw[a2]at S⊢;exact S
    refine cI ?_;intro m;refine aF (d9 E f8 λp f9 h9 c8 t=>?_);have f':et K room (cK df) (a+cK df) (y::cs):=Vx (M▸a') @h;exact bc (q a p _ _ _ _ f9 rfl ⟨b.i3.ak<|d8.ak t.ds,t.U _ _ b8,t.U _ _ E,c8,g8 a @g s (~~~az 342716520300 a9 G) f'⟩)
  refine eh (λg=>Vp ?_) (λg'=>z ap _ nofun);have g:=cz.mp @g;refine eh (λh=>z ag _ λg'=>⟨g,?_⟩) (λh=>q5 ?_)
  ·have h:=eM.mp @h;have:d0 K (a+1+cK df) y=0:=bo @h l.1<|>vz;exact az 943035428414548 e9 o this
  ·refine z _ _ λr=>⟨g,?_⟩;have r:=of_decide_eq_true @r;exact dN 0x1390f5ace0bf139724e0 a9 o @r
 refine cI ?_;intro m;refine aF (vE ?_);induction df with
 |true=>refine ta (gJ rfl<|s7 rfl rfl b.nh Dn<|av b.nq<|fY (Dv R) ?_);exact Q|false=>refine ta (gJ rfl<|gJ rfl<|av b.nq<|fY (Dv s) ?_);exact Q
end
def xG (l:aJ):Prop:=∀{b:w} {h:O->w->Prop} {k j room:Nat} {e:Bool} {a c:List Nat},b.U k=J (a.map ae)->b.U j=J (c.map ae)->a.length<=800->c.length<=900->(∀i,i<a.length->a.getD i 0<=room)->et a room (cK e) 0 c->(∀g f d,b.U g=D->f.U g=J (d.map ae)->b.ar f->et a room (cK e) 0 d->d.length=c.length->h (.ah g) f)->l 28 [.ah k,.ah j,.bs e] b h
theorem NX:∀{d:List Nat} {f:Nat},f+1<d.length->∀⦃h:Prop⦄,(∀c x y b,d=c++x::y::b->c.length=f->h)->h
 |x::y::b,0,_=>λk g=>g ([]) x y b rfl rfl|[_],0,e=>absurd e (eI 1)|a::d,f+1,e=>by refine NX (w0 e) λc x y b i j=>?_;subst i;subst j;exactλk g=>g (a::c) x y b rfl rfl
theorem aew {l:List Nat}:(l.map λa:Nat=>(a:Int)).sum=(l.sum:Int):=by
 induction l with
 |nil=>exact rfl|cons x l b=>show(x:Int)+(l.map λa:Nat=>(a:Int)).sum=((x+l.sum:Nat):Int);exact b<|>p1<|>rfl
theorem NP (f:W.U g=J (M.map ae))(i:Q<=M.length)(a:l<=M.length)(h:M.length<=1000)(q:∀b,W.ar b->S (ae<|d0 M Q l) b):kJ (.ah g) (ae Q) (ae l) W (λv W=>bt .rv v W S):=by
 refine av f (pV rfl rfl (by exact ax<|>i) (by exact ax<|>a) ?_);have e:dp (M.map ae) Q l=((M.take l).drop Q).map ae:=by unfold dp;exact aY (j0 ..)<|aY (mM ..)<|rfl
 refine e<|>hy ?_ λm c n d j=>av d ?_
 ·exact ax<|>gB<|>e1<|>az 0x111abb69b2b3951f79f534 a h (bL _ _) (fG _ _)
 refine gf B0 ?_;show S (.I (((M.take l).drop Q).map λk:Nat=>(k:Int)).sum) c;exact aew<|>q c j
section
variable {F N:aJ}{cx eb room:Nat}{df:Bool}{K A cs:List Nat}{x y:Nat}
theorem s6 {C:cG}{a:lt}(b:ao C o' f W λv W=>bt a v W S):ao C (.bt a o') f W S:=b
theorem q6 {C:cG}(b:ao C o' f W λa W=>ao C p' f W λl W=>ao C q' f W λb W=>kJ a l b W S):ao C (.eF o' p' q') f W S:=b
theorem Wi (s:nZ F)(t:∀i,i<K.length->K.getD i 0<=room)(m:(A++x::y::cs).length<=900)(z:¬cx=eb){w8 d b c:Option O}(e:si W cx eb room df K A cs y x g t8)(q:∀x g Q R S T w8 d b c a,si W cx eb room df K A cs y x g a->P .cO [J (.ah cx),J (.ah eb),J (.bs df),J (ae<|A.length+1),Q,R,S,T,w8,d,b,c,D] a):∃H,hR (λZ t8 h=>ao (bn F N) (.X 7) Z t8<|el h) (a6 (bn F N) yO) H (tc cx eb df K A y (x,ag,g,w8,d,b,c)) t8 P:=by
 refine⟨x+3,Al (tc cx eb df K A y) (λh f a=>si W cx eb room df K A cs y f.1 f.2.2.1 a/\h=if f.2.1 then f.1+1 else 0) (λh f a r a8 l a9=>?_) _ (x+1) _ _ (~~~ai 78942117) ⟨e,rfl⟩⟩;obtain⟨k,G,n,w8,d,b,c⟩:=f;refine bW r λe j=>?_;have e:si W cx eb room df K A cs y k n a:=e;have C:(A++k::y::cs).length<=900:=by rw[a2]at m⊢;exact m
 induction G with
 |false=>exact q _ _ _ _ _ _ _ _ _ _ a e|true=>have j:h=k+1:=j;refine Wh @s e t C z (λw8 d b c=>l 0 (k,ap,n,w8,d,b,c) a (~~~ac 43402803 j) ⟨e,rfl⟩) λo M w8 d b c E i p=>l (o+1) (o,ag,M,w8,d,b,c) E (~~~aj 0x9a4c179094def j i) ⟨p,rfl⟩
theorem Wa (s:nZ F){g h i j w8 k e f:Option O}(Q:∀a,a<K.length->K.getD a 0<=room)(z:(A++x::y::cs).length<=900)(t:K.length<=800)(R:¬cx=eb)(M:cW (·=eb) W t8)(n:t8.U cx=J (K.map ae))(a:t8.U eb=J ((A++x::y::cs).map ae))(r:et K room (cK df) 0 (A++x::y::cs))(q:∀x g h i j w8 k e f b,cW (·=eb) W b->b.U cx=J (K.map ae)->b.U eb=J ((A++x::y::cs).map ae)->et K room (cK df) 0 (A++x::y::cs)->P .cO [J (.ah cx),J (.ah eb),J (.bs df),J (ae<|A.length+1),g,h,i,j,w8,k,e,f,D] b):a6 (bn F N) CL [J (.ah cx),J (.ah eb),J (.bs df),J (ae<|A.length+1),g,h,i,j,w8,k,e,f,D] t8 P:=by
 refine Dw (KH r) λS E b' T c8=>?_;have p:=KF T;refine b3 ?_;intro a8 G H;refine aF (s a z λZ a' a9 m c=>?_);refine cl ?_;intro G H;refine aF (s6<|q6<|gJ rfl<|ni rfl rfl m N5<|ni rfl rfl (c.U _ _ a) Mb<|NP (c.U _ _ n) ?_ ?_ ?_ λb8 d=>?_)
 ·exact ba p.1 p.2
 ·exact p.2
 ·exact ba t (~~~_)
 refine b3 ?_;intro a8 G H;refine aF (s6<|q6<|gJ rfl<|s7 rfl rfl (d.U _ _ m) N4<|s7 rfl rfl (d.U _ _<|c.U _ _ a) Dn<|NP (d.U _ _<|c.U _ _ n) ?_ ?_ ?_ λb9 C=>?_)
 ·exact gY (rO S E)
 ·exact gY E
 ·exact ba t (~~~_)
 have o:=c.ak (d.ak C);refine aF (mG<|Wi @s Q z R ⟨M.ak o.ds,o.U _ _ n,o.U _ _ a,(d.ak C).U _ _ m,r⟩ λx Z g h i j w8 k e f b l=>?_);exact bc (q x g h i j w8 k e f b l.i3 l.nq l.nh l.KD)
theorem Wb (P:nZ F)(T:∀c,c<K.length->K.getD c 0<=room)(R:K.length<=800)(a8:¬cx=eb)(Z:g<=900)(q:∀s n,s.U eb=J (n.map ae)->cW (·=eb) W s->et K room (cK df) 0 n->n.length=g->S (.ah eb) s):∀(e:Nat) (b:List Nat) (a:w) (t i j k l w8 m f h:Option O),e<g->b.length=g->cW (·=eb) W a->a.U cx=J (K.map ae)->a.U eb=J (b.map ae)->et K room (cK df) 0 b->gK ap [3] (a6 (bn F N) CL) (λb'=>True) ((lD (e:Int) e).map .I) [J (.ah cx),J (.ah eb),J (.bs df),t,i,j,k,l,w8,m,f,h,D] a (h6 (bn F N) Ca.aP.aP<|dI S):=by
 intro e;induction e with
 |zero=>intro b a t i j k l w8 m f h r d p z c o;exact aC trivial (bH<|q a b c p o d)|succ e a9=>
  intro b a t i j k l w8 m f h r d p z c o;refine NX (d▸r) λA x y cs G H=>?_;subst G;subst H;refine aC trivial (Wa @P T (d▸Z) R a8 p z c o λC i j k l w8 m f h b8 M a' E b9=>?_);have Q:(A++C::y::cs).length=g:=by rw[a2]at d⊢;exact d
  have:=a9 (A++C::y::cs) b8 (J<|ae<|A.length+1) i j k l w8 m f h (uq r) Q M a' E b9;rw[<-wj]at this;exact this
theorem aaM {a:Int}(b:a=(g:Int))(c:g<=1000):iT a/\iT 0:=by subst b;exact⟨by constructor<;>(first|exact ai 34898773920|exact ai 0x127b9520d4688d884 c),by decide,by decide⟩
theorem abl (p:nZ F):xG (bB F N):=λ{G E cx eb room df K a} h l r c s f q=>by
 refine bU JO [J (.ah cx),J (.ah eb),J (.bs df),D,D,D,D,D,D,D,D,D,D] rfl rfl (aF<|av l<|hy ?_ λj A b d i=>?_)
 ·exact ax<|>ba c (~~~_)
 have y:¬cx=j:=λo=>by rw[<-o,h]at b;cases b
 have g:0<a.length:=by
  induction a using cj with
  |nil=>exact f.elim|cons x a=>exact hU _
 have e:((a.map ae).length:Int)-1=((a.length-1:Nat):Int):=ax<|>dW (ac 3766312507440 aw) (ac 1623689468382<|ay<|ai 132259 @g);refine b3 ?_;intro M H P;refine gV (av d ?_);refine aC (aaM e<|~~~ac 0xf1d14405396bf78 c (bL _ _)) (.inr ⟨rfl,?_⟩);exact mJ<|>e<|>fV<|>Wb @p s r y c (λz k m n C t=>q j z k b m (n.dP b i) C t) (a.length-1) a A _ _ _ _ _ _ _ _ _ (~~~ac 51420126 (ay<|ai 132259 @g)) rfl .cf (i.U _ _ h) d f
end
def fz {b:Type}(a:O->b->Prop):List O->List b->Prop
 |[],[]=>True|v::e,c::d=>a v c/\fz a e d|_,_=>False
theorem fz.bb {h:Type}{b c:O->h->Prop}(d:∀v e,b v e->c v e):∀{g:List O} {f:List h},fz b g f->fz c g f
 |[],[],_=>trivial|_::_,_::_,a=>⟨d _ _ a.1,fz.bb d a.2⟩|[],_::_,a=>a.elim|_::_,[],a=>a.elim
theorem fz.Mc {h:Type}{e f:O->h->Prop}:∀{a:List h},(∀v c,c∈a->e v c->f v c)->fz e R a->fz f R a:=by
 induction R with
 |nil=>
  intro a;induction a using cj with
  |nil=>exactλd d=>trivial|cons _ _=>exactλd b=>b.elim
 |cons _ _ i=>
  intro a;induction a using cj with
  |nil=>exactλd b=>b.elim|cons _ _=>exactλg b=>⟨g _ _ (.head _) b.1,i (λv c j=>g v c<|.tail _ j) b.2⟩
theorem fz.aH {c:Type}{d:O->c->Prop}:∀{a:List c},fz d R a->R.length=a.length:=by
 induction R with
 |nil=>
  intro a;induction a using cj with
  |nil=>exactλf=>rfl|cons _ _=>exactλb=>b.elim
 |cons _ _ e=>
  intro a;induction a using cj with
  |nil=>exactλb=>b.elim|cons _ _=>exactλb=>congrArg oT (e b.2)
theorem fz.ju {d:Type}{e:O->d->Prop}:∀{a:List d} {i:Nat} {p:d},fz e R a->a[i]?=J p->∃v,R[i]?=J v/\e v p:=by
 induction R with
 |nil=>
  intro a i p c b;induction a using cj with
  |nil=>nomatch b|cons _ _=>exact c.elim
 |cons v R f=>
  intro a i p c b;induction a using cj with
  |nil=>nomatch b|cons q a=>
   induction i using ey with
   |zero=>cases b;exact⟨v,rfl,c.1⟩
   |succ i=>exact f c.2 b
theorem fz.ad6 {e:Type}{c:O->e->Prop}{v:O}{f:e}:∀{b:List e},fz c R b->c v f->fz c (R++[v]) (b++[f]):=by
 induction R with
 |nil=>
  intro b;induction b using cj with
  |nil=>exactλg d=>⟨d,trivial⟩|cons _ _=>exactλa g=>a.elim
 |cons _ _ h=>
  intro b;induction b using cj with
  |nil=>exactλa g=>a.elim|cons _ _=>exactλa d=>⟨a.1,h a.2 d⟩
theorem Uz {n:Type}{R:w->O->n->Prop}(F:∀m a v d,m.ar a->R m v d->R a v d){m:w}(r:∀a,m.ar a->y a):∀(g:List O) (b:List n) (e:List O) (a:w),m.ar a->g.length=b.length->(∀(i:Nat) (v:O) (d:n),g[i]?=J v->b[i]?=J d->∀(a:w) (o:O->w->Prop),m.ar a->(∀f c,a.ar c->R c f d->o f c)->H v a o)->(∀c h,a.ar c->fz (R c) h b->E9 (e++h) c)->pE H y g e a E9:=by
 intro g;induction g with
 |nil=>
  intro b e a l j _ q;induction b using cj with
  |nil=>exact⟨r a l,(dn e).symm▸q a [] .cf trivial⟩|cons f h=>cases j
 |cons v g A=>
  intro b e a l j p q;induction b using cj with
  |nil=>cases j
  |cons d b=>refine⟨r a l,p 0 v d rfl rfl a _ l λf C s k=>?_⟩;exact A b (e++[f]) C (l.ak s) (g0 j) (λi K G z k=>p (i+1) K G z k) λE h t x=>bN<|>q E (f::h) (s.ak t) ⟨F _ _ _ _ t k,x⟩
noncomputable def iu {d:Type}(c:Nat)(b:List d):Nat->List Nat->List (List d)
 |_,[]=>[]|f,a::e=>(b.take a).drop f::iu c b (a+c) e
theorem DU {e:Type}{b:List e}:∀{c:Nat},(iu g b c M).length=M.length:=by
 induction M with
 |nil=>exactλ{d}=>rfl|cons _ M a=>exactλ{d}=>congrArg oT a
theorem aai {n:Type}{room h:Nat}{l:List n}:∀{c i:Nat} {e:List n},et M room h c j->(iu h l c j)[i]?=J e->∀⦃k:Prop⦄,(∀g b,(c::j.dropLast.map (·+h))[i]?=J g->j[i]?=J b->e=(l.take b).drop g->g<=b->b<=M.length->k)->k:=by
 induction j using pF with
 |nil=>exactλa m=>a.elim|ff b=>
  intro c i e a d;induction i using ey with
  |zero=>cases d;exactλm f=>f c b rfl rfl rfl a.1 (fv a.2.2)
  |succ i=>cases d
 |more b p j o=>
  intro c i e a d;induction i using ey with
  |zero=>cases d;exactλm f=>f c b rfl rfl rfl a.1 (gY a.2.2.2.1)
  |succ i=>exact o a.2.2.2.2 d
theorem Vw {room e:Nat}:∀{b:Nat},et M room e b j->∀c∈j.dropLast,c<M.length:=by
 induction j using pF with
 |nil=>exactλ{b} a x h=>nomatch h|ff c=>exactλ{b} a x h=>nomatch h|more c f j d=>
  exactλ{b} a x h=>by
   rcases dE.mp h with rfl|h
   ·exact a.2.2.2.1
   ·exact d a.2.2.2.2 x h
theorem Vy {room e:Nat}:∀{b:Nat},et M room e b j->b+j.length<=M.length+1:=by
 induction j using pF with
 |nil=>exactλ{b} a=>a.elim|ff c=>exactλ{b} a=>jd (ba a.1<|fv a.2.2)|more c f j d=>exactλ{b} a=>by have:=d a.2.2.2.2;exact fQ<|>bP 0x21020c18f0e1150fe5b62 this (a.2.2.1)
def pL (c b:w)(v:O)(d:List aO):Prop:=∃a,v=.ah a/\c.U a=D/\b.U a=J (bh d)
theorem pL.ar {v:O}(l:A.ar t8)(b:pL W A v o):pL W t8 v o:=by obtain⟨a,rfl,c,b⟩:=b;exact⟨a,rfl,c,l.U _ _ b⟩
noncomputable def ms (b:Bool)(d:List aO)(a:List Nat):List aO:=if b then []else a.dropLast.map λc=>d.getD c []
def kn (b:List Nat)(room c:Nat)(d:List Nat):Prop:=et b room c 0 d/\∃a,et b room c 0 a/\qB b room c 0 a/\a.length=d.length
def u4 (k:aJ):Prop:=∀{c:w} {h:O->w->Prop} {a room:Nat} {e:Bool} {b:List aO},c.U a=J (bh b)->b≠[]->b.length<=800->(∀l∈b,ab l<=room)->(∀d i g j f,c.ar d->d.U i=J j->fz (pL c d) j (iu (cK !e) b 0 f)->c.U g=D->d.U g=J (bh<|ms e b f)->kn (b.map ab) room (cK !e) f->h (.ce [.ah i,.ah g]) d)->k 29 [.ah a,ae room,.I (dq e)] c h
section
variable {F N:aJ}
theorem abm (k':u2 F)(l9:xF F)(l':nZ F)(m8:xG F):u4 (bB F N):=λ{m b' a room j e} W o8 e9 n8 q=>by
 refine bU Ko [J (.ah a),J (ae room),J (.I<|dq j),D,D,D,D,D,D,D] rfl rfl (aF ?_);have go:a6 (bn F N) Ih.aP [J (.ah a),J (ae room),J (.I<|dq j),J (.bs !j),D,D,D,D,D,D] m (dI b'):=by
  have E:(e.map ab).length<=800:=ax<|>e9;have d9:∀k,k<(e.map ab).length->(e.map ab).getD k 0<=room:=λk e8=>by exact ig<|>du e8<|>aU (eS.mp<|wQ e8) λa9 d k=>k▸n8 a9 d
  refine b3 ?_;intro s8 a' h9;refine aF (av W ?_);refine oh (m:=m) (λp l=>l.U _ _ W) (bh e) ((e.map ab).map ae) [] m .cf (by exact fK<|>ax<|>ax<|>rfl) (λi v a9 f d p b9 l t=>?_) λt' o'=>?_
  ·unfold bh at f;rw[cv]at f d;refine aU (fw.mp f) λx G P=>?_;subst P;rw[cv,G]at d;cases d;exact k' (t p .cf)
  refine gW<|>hy (by exact ax<|>ba E (~~~_)) λx8 u8 s9 c8 p9=>?_;have m':0<(e.map ab).length:=ax<|>Fq.mpr o8;refine aF (l9 c8 m' E d9 λw' u9 b8 s' i9 g8 M h'=>?_);have s:b8.length<=900:=by have:=Vy M;exact ac 0x48d0c0bf4ce77b0b7f8 E this
  refine m8 (g8.U _ _ c8) i9 E s d9 M λw8 u' b t8 c9 p' K r=>?_;have d8:b.length<=900:=r▸s;refine cI ?_;intro a';refine aF (l' c9 d8 λx9 a8 t9 j8 g9=>?_);have y:m.ar a8:=o'.ak (p9.ak<|g8.ak<|p'.ak g9);have d':=y.U _ _ W;have Q:=g9.U _ _ c9;refine cl ?_;intro a' h9;refine aF (av Q ?_);refine ax<|>aC ⟨⟨by decide,by decide⟩,by constructor<;>(first|exact ai 34898773920|exact ac 0xbcf7301b1ab4776bf78 s r)⟩ (.inl ⟨rfl,?_⟩);refine Uz (R:=pL m) (m:=a8) (λn n n n l T=>T.ar l) (λn n=>trivial) _ (iu (cK !j) e 0 b) [] a8 .cf ?_ (λi v v' f e' p b9 l t=>?_) λv8 r' q8 f9=>?_
  ·exact ax<|>Ab<|>DU<|>bo (ac 27261975558<|ie<|ai 1699736) (ac 3408405511<|ie<|ai 1699736)
  ·have n':=Ac f;clear f;subst n';refine aai K e' λr8 k k9 l8 i' m9 C=>?_;clear e';subst i';rw[ax]at C;have j':((pX (!j) b).map ae)[i]?=J (ae r8):=by unfold pX;refine cv<|>k9<|>?_;rfl
   have k8:(b.map ae)[i]?=J (ae k):=by refine cv<|>l8<|>?_;rfl
   refine q6 (gJ rfl<|ni rfl rfl (l.U _ _ j8) j'<|ni rfl rfl (l.U _ _ Q) k8 ?_);refine av (l.U _ _ d') (pV rfl rfl (by exact fK<|>ba @m9 @C) (by exact fK<|>C)<|hy ?_ λr9 A f8 S H=>?_)
   ·unfold dp;exact gB<|>e1<|>fK<|>az 0x111abb6b8a2200aaa16d54 e9 @C (bL _ _) (fG _ _)
   ·refine t _ A H ⟨r9,rfl,(y.ak l).hM f8,?_⟩;refine S<|>?_;unfold dp bh;exact aY (j0 ..)<|aY (mM ..)<|rfl
  refine gW<|>hy (by exact f9.aH<|>DU<|>ba d8 (~~~_)) λh8 A f8 S H=>?_;have z:=q8.ak H;have c':∀c h,m.U c=D->A.ar h->h.U c=J (bh<|ms j e b)->b' (.ce [.ah h8,.ah c]) h:=λc h q' g o=>q h h8 c r' b (y.ak<|z.ak g) (g.U _ _ S) (f9.bb λn n T=>T.ar<|H.ak g) q' o ⟨K,b8,M,h',r.symm⟩;refine b3 ?_;intro s8 a' h9;refine aF (vE ?_);induction j with
  |true=>refine aC (ct<|dB _) λc Z=>?_;have o:(A.a1 c []).U c=J (bh []):=cg;have g:=dS (x:=[]) Z;generalize A.a1 c []=h at*;refine bH ?_;exact c' c _ ((y.ak z).hM Z) g o|false=>
   refine av (z.U _ _ Q) (NO ?_);have j9:dp (b.map ae) 0 ((b.map ae).length-1)=b.dropLast.map ae:=by unfold dp;exact V (oL ..)<|V (ax ..)<|aY (j0 ..)<|ue<|>rfl
   refine j9<|>?_;have n9:b.dropLast.length<=900:=qa<|>aj 0xd6e368fb396dcf5db0 s r (bL _ _);refine hy (by exact ax<|>ai 381412282189708 n9) λw9 h Z o g=>av o<|oh (m:=h) (λp l=>l.U _ _ o) (b.dropLast.map ae) (bh<|ms ap e b) [] h .cf (by unfold bh ms;simp-iota) (λi v a9 f d p b9 l t=>?_) λv9 g'=>hy ?_ λc q9 o9 i8 p8=>?_
   ·unfold bh ms at d;simp-iota only[wG,if_false]at d;rw[cv]at f;rw[cv,cv]at d;refine aU (fw.mp f) λx G P=>?_;subst P;rw[G]at d;cases d;have f':=Vw K x (dT G);rw[ax]at f';refine ni rfl rfl ((z.ak<|g.ak l).U _ _ d') (v:=.aA<|e.getD x []) ?_ (t p .cf);unfold bh;refine cv<|>ig<|>du f'<|>?_;rfl
   ·unfold bh ms;simp-iota;exact ac 0xf1e08701b76bf78 s r
   ·exact bH<|c' c q9 ((y.ak<|z.ak<|g.ak g').hM o9) (g.ak<|g'.ak p8) i8
 cases j
 ·exact go
 ·exact go
end
inductive bl where
 |cJ (a:List au)
 |dd (a:List dU) (b:Nat)
variable{d:List bl}{h v9:bl}
noncomputable def bl.b0:bl->Bool
 |.cJ _=>ag|.dd _ _=>ap
noncomputable def bl.bR (b:Nat):bl->List aO
 |.cJ a=>a.map (au.bQ b)|.dd a _=>a.map cH
noncomputable def bl.ci:bl->Nat
 |.cJ _=>0|.dd _ a=>a
def lH (c:w)(b:Nat)(v:O)(C:bl):Prop:=∃a,v=eg (dq C.b0) a C.ci/\c.U a=J (bh<|C.bR b)
theorem lH.ar {v:O}{C:bl}(l:W.ar A)(b:lH W g v C):lH A g v C:=by obtain⟨a,rfl,b⟩:=b;exact⟨a,rfl,l.U _ _ b⟩
def X6 (d c:w)(b:Nat)(v:O)(C:bl):Prop:=∃a,v=eg (dq C.b0) a C.ci/\d.U a=D/\c.U a=J (bh<|C.bR b)
noncomputable def hK (a:Nat):List bl->List Int->List aO
 |[],_=>[]|C::_,[]=>C.bR a|C::b,c::ks=>C.bR a++((if C.b0 then []else [dO C.ci c])++hK a b ks)
def u5 (m:aJ):Prop:=∀{a:w} {g:O->w->Prop} {aa i n first k:Nat} {b:Bool} {f:List dU} {l:List O} {da:List bl} {ks:List Int},a.U i=J (bh<|f.map cH)->a.U k=J l->fz (lH a aa) l da->(∀C∈da,C.b0=b/\C.ci<4294967296)->da.length=ks.length+1->da.length<=9->(∀C∈da,(C.bR aa).length<=80)->(∀j h,ks[j]?=J h->∃c,f[first+j]?=J (c,h))->(∀e d,a.U e=D->d.U e=J (bh<|hK aa da ks)->a.ar d->g (.ah e) d)->m 31 [eg 5 i n,ae first,.ah k] a g
noncomputable def Lh:b2:=ys.aP.aP.as
section
variable {F N:aJ}{aa hX fH first uO t:Nat}{b:Bool}{bZ:List dU}{en:List O}
theorem Xd (d':im F)(i8:m4 F){dm:w}(c8:dm.U t=D)(i':dm.U hX=J (bh<|bZ.map cH))(e8:dm.U uO=J en):∀(d:List bl) (n K:List O) (ks:List Int) (f:List aO) (i:Nat) (h:w) (c' d8 s:Option O),K++n=en->K.length=i->fz (lH dm aa) n d->(∀C∈d,C.b0=b/\C.ci<4294967296)->(d=[]\/d.length=ks.length+1)->d.length<=9->(∀C∈d,(C.bR aa).length<=80)->(∀j k,ks[j]?=J k->∃c,bZ[first+(i+j)]?=J (c,k))->h.U t=J (bh f)->cW (·=t) dm h->f.length+d.length*90<=900->(∀H,H.U t=J (bh<|f++hK aa d ks)->cW (·=t) dm H->S (.ah t) H)->gK ap [5] (a6 (bn F N) Lh) (λg9=>True) ((gA (i:Int) d.length).map .I) [J (eg 5 hX fH),J (ae first),J (.ah uO),J (.I<|dq b),J (.ah t),c',d8,s,D] h (h6 (bn F N) ys.aP.aP.aP<|dI S):=by
 intro d;induction d with
 |nil=>intro n K ks f i h c' d8 s z E m W g T R b' p o l q;refine aC trivial (bH<|q h ?_ o);exact V (p ..)<|V (show hK aa [] ks=[]from rfl)<|dn<|>rfl|cons C d a8=>
  intro n K ks f i h c' d8 s z E m W g T R b' p o l q;induction n using cj with
  |nil=>exact m.elim|cons k' n=>
  obtain⟨⟨M,rfl,b9⟩,m⟩:=m;obtain⟨b8,i9⟩:=W C (.head _);have e9:en.length=i+(d.length+1):=aY (z ..)<|a2<|>E<|>fQ<|>m.aH<|>rfl;have f8:en[i]?=J (eg (dq C.b0) M C.ci):=by refine aY (z ..)<|hT (fv E)<|>E<|>iD<|>?_;rfl
  have f':∀a x,dm.U a=J x->h.U a=J x:=λa x e=>o.U a x (by clear a8 p o q;rintro rfl;rw[c8]at e;cases e) e;have e':t≠M:=by clear z f8;rintro rfl;rw[c8]at b9;cases b9
  have A:=R C (.head _);refine aC trivial (aF<|ni rfl rfl (f' _ _ e8) f8 ?_);refine b8<|>cl ?_;intro a9 d9;refine bx (rd (λe=>absurd rfl e)<|λg9=>bc ?_);refine cc (av p<|av p<|av (f' _ _ b9) ⟨⟨e',ct ?_⟩,?_⟩)
  ·refine fK<|>fK<|>?_;rw[fQ]at l;exact aj 0x5b6025ecfec0897a224dae32b3a l A
  have P:(h.a1 t<|bh f++bh (C.bR aa)).U t=J (bh<|f++C.bR aa):=by refine cg<|>?_;unfold bh;exact cD<|>rfl
  have Q:cW (·=t) dm (h.a1 t<|bh f++bh (C.bR aa)):=o.ak gb;generalize h.a1 t (bh f++bh (C.bR aa))=c9 at*;have g8:∀a x,dm.U a=J x->c9.U a=J x:=λa x e=>Q.U a x (by clear a8 p o q e';rintro rfl;rw[c8]at e;cases e) e;refine cl ?_;intro a9 d9;refine bx (av (g8 _ _ e8) ?_);refine e9<|>?_;have next:∀(r:w) (y:List aO) (G:List Int) (s:Option O),r.U t=J (bh y)->cW (·=t) dm r->y.length<=f.length+90->(d=[]\/d.length=G.length+1)->(∀j k,G[j]?=J k->∃c,bZ[first+(i+1+j)]?=J (c,k))->y++hK aa d G=f++hK aa (C::d) ks->gK ap [5] (a6 (bn F N) Lh) (λg9=>True) ((gA ((i+1:Nat):Int) d.length).map .I) [J (eg 5 hX fH),J (ae first),J (.ah uO),J (.I<|dq b),J (.ah t),J (ae i),J (eg (dq b) M C.ci),s,D] r (h6 (bn F N) ys.aP.aP.aP<|dI S):=by intro r y G s a' h' j' j9 Z h8;refine a8 n (K++[eg (dq C.b0) M C.ci]) G y (i+1) r _ _ _ (by exact bN<|>z) (by refine a2<|>E<|>?_;rfl) m (λC e=>W C<|.tail _ e) j9 (by rw[fQ]at T;exact ai 102075662934 @T) (λC e=>R C<|.tail _ e) Z a' h' (by rw[fQ]at l;exact aj 0xba92e7f8999fef545193182902e32b3a l j') λH g' h9=>q H (h8▸g') h9
  induction ks using cj with
  |nil=>have g:d=[]:=AL.mp (by have:=g.resolve_left<|oJ _ _;exact g0 this);clear a8 W T R l m e9;subst g;exact fN (λe=>Aw _ e) (bc<|next c9 _ [] _ P Q (a2<|>ac 0x391b1fc79f6bf8 A) (.inl rfl) (λj k e=>nomatch e) (dn _))|cons k ks=>
   have g:d.length=ks.length+1:=g0 (g.resolve_left<|oJ _ _);refine aW (b' 0 k rfl) λc j8=>?_;have Z:∀j k,ks[j]?=J k->∃c,bZ[first+(i+1+j)]?=J (c,k):=λj k9 e=>by have:=b' (j+1) k9 e;rw[show i+(j+1)=i+1+j by exact bo (ac 108447732324) (ac 440451987060)]at this;exact this
   refine pI (show((i:Int)+1)<((i+(d.length+1):Nat):Int)by exact aj 0xf8e132794de9857 g) ?_;have k8:(bh<|bZ.map cH)[first+i]?=J (.aA<|dO c k):=by unfold bh;refine V (cv ..)<|V (cv ..)<|V (show first+i=first+(i+0)from rfl)<|j8<|>?_;rfl
   refine aF (av (g8 _ _ i')<|fY (k:=first+i) k8 ?_);induction b with
   |true=>
    refine cl ?_;intro a9 d9;refine bx (bx<|d' ag<|bc<|bc<|bc ?_);refine next c9 _ ks _ P Q (by exact a2<|>ac 0x391b1fc79f6bf8 A) (.inr g) Z ?_
    show _=f++(C.bR aa++((if C.b0=ag then []else [dO C.ci k])++hK aa d ks));rw[b8,if_pos rfl,gW,bN]
   |false=>
    refine cI ?_;intro a9;refine bx (bx<|d' ap ?_);refine cc (av P<|i8 i9 λr f9=>?_);have a':=f9.U _ _ P;refine av a' ⟨?_,?_⟩
    ·refine fK<|>a2<|>?_;rw[fQ]at l;exact eo (show _<=1000 by exact az 0x1ade092e13ea0dd921dcb178a6be891fd2e0 l A g) (~~~_)
    refine cl ?_;intro a9 d9;refine bc (bc<|bc ?_);refine next _ (f++C.bR aa++[dO C.ci k]) ks _ ?_ (Q.ak<|f9.ds.ak gb) ?_ (.inr g) Z ?_
    ·refine cg<|>?_;unfold bh;refine cD (l₁:=f++C.bR aa)<|>?_;rfl
    ·refine a2<|>a2<|>?_;show _+1<=_;exact ac 0x201f451883db6bf8 A
    ·show _=f++(C.bR aa++((if C.b0=ag then []else [dO C.ci k])++hK aa d ks));refine b8<|>if_neg (~~~_)<|>?_;simp-iota only[bN]
theorem pG {C:cG}(q:∀t a,W.U t=D->a.U t=J []->W.ar a->S (.ah t) a):ao C (.ah .L) f W S:=hy (dB _) q
theorem abp (s:im F)(r:m4 F):u5 (bB F N):=λ{E P aa hX fH first uO b bZ en a ks} z d e h i c x A q=>by
 induction a using cj with
 |nil=>cases i
 |cons C a=>
 induction en using cj with
 |nil=>exact e.elim|cons v en=>
 have g:=e;refine bW e λK S=>?_;obtain⟨Q,rfl,T⟩:=K;refine bW (h C<|.head _) λy R=>bU JW [J (eg 5 hX fH),J (ae first),J (.ah uO),D,D,D,D,D,D] rfl rfl (aF<|av d<|fY (k:=0) rfl ?_);refine y<|>cI ?_;intro M;refine aF (pG λt H f n l=>?_);refine b3 ?_;intro W M Z;refine gV (av (l.U _ _ d) ?_);refine g.aH<|>aC ⟨⟨by decide,by decide⟩,LR<|ba @c<|~~~_⟩ (.inl ⟨rfl,?_⟩);refine mJ<|>fV<|>Xd @s @r (aa:=aa) (b:=b) (dm:=E) f z d (C::a) _ [] ks [] 0 H D D D rfl rfl g h (.inr i) @c @x (λj k p=>by exact jG<|>A j k p) n l.ds ?_ λG m o=>q t G f m (o.dP f .cf);show 0+_<=_;exact ai 0x1777761ab5cd582fe75 @c
end
section
variable {C:cG}{t x:Nat}{dm:w}{body:b2}{Q:db}
theorem Dl {n:Type}{R:w->O->n->Prop}(K:∀a b v d,cW (·=t) a b->R a v d->R b v d){cw:List n}(f:Option O->bp)(A:∀e v,(f e).set x (J v)=f (J v))(E:∀(i:Nat) (d:n) (a:w) (c:List O) (p:db),cw[i]?=J d->cW (·=t) dm a->a.U t=J c->c.length<=100->(∀b v,cW (·=t) a b->b.U t=J (c++[v])->R b v d->p .cO (f<|J<|ae i) b)->a6 C body (f<|J<|ae i) a p)(q:∀b s e,cW (·=t) dm b->b.U t=J s->fz (R b) s cw->Q .cO (f e) b)(F:cw.length<=100):∀(j g:List n) (c:List O) (i:Nat) (a:w) (e:Option O),g++j=cw->g.length=i->cW (·=t) dm a->a.U t=J c->fz (R a) c g->gK ap [x] (a6 C body) (λN=>True) ((gA (i:Int) j.length).map .I) (f e) a Q:=by
 intro j;induction j with
 |nil=>intro g c i a e h m k o l;rw[dn]at h;subst h;exact aC trivial (q a c e k o l)|cons d j G=>
  intro g c i a e h m k o l;refine aC trivial ?_;show a6 C body ((f e).set x<|J<|ae i) a _;refine A<|>E i d a c _ ?_ k o ?_ λH v r y M=>?_
  ·refine aY (h ..)<|hT (fv m)<|>m<|>iD<|>?_;rfl
  ·have:=congrArg mL h;rw[a2,fQ]at this;exact l.aH<|>aj 0x4755c23756988ba30 F this
  ·refine G (g++[d]) (c++[v]) (i+1) H _ (by exact bN<|>h) (by refine a2<|>m<|>?_;rfl) (k.ak r) y ((l.bb λv d z=>K _ _ _ _ r z).ad6 M)
end
def so (m:aJ):Prop:=∀{dm a:w} {e:O->w->Prop} {aa j h g:Nat} {c:Bool} {k:List O} {f:List aO} {da:List bl},a.U j=J k->fz (pL dm a) k (da.map<|bl.bR aa)->a.U h=J (bh f)->(∀C∈da,C.b0=c/\C.ci<4294967296)->da.length<=9->(c=ap->∀i C,da[i]?=J C->if i+1<da.length then∃n,f[i]?=J (dO C.ci n)else C.ci=g)->(∀d b l,a.U d=D->b.U d=J l->fz (X6 dm b aa) l da->a.ar b->e (.ah d) b)->m 32 [.I (dq c),.ah j,.ah h,ae g] a e
def L6 (b:Nat)(e:List aO)(i:Nat)(a:Int):bl->Prop
 |.cJ d=>∃f c,d=f++[c]/\c.bI=a/\c.dg b|.dd _ _=>∃c,e[i]?=J (dO c a)
def sp (n:aJ):Prop:=∀{a:w} {e:O->w->Prop} {aa l j k:Nat} {f:Bool} {m:List O} {h:List aO} {da:List bl} {b:List Nat} {ks:List Int},a.U l=J (b.map ae)->a.U j=J m->fz (lH a aa) m da->a.U k=J (bh h)->aa<=128->da.length=ks.length+1->b.length=da.length->da.length<=9->(∀o∈b,o<4294967296)->(∀C∈da,C.b0=f)->(∀(i:Nat) (C:bl) (g:Int),da[i]?=J C->ks[i]?=J g->L6 aa h i g C)->(∀d c,a.U d=D->c.U d=J (bh<|(jE b ks).map cH)->a.ar c->e (.ah d) c)->n 33 [.I (dq f),.ah l,.ah j,.ah k] a e
section
variable {F N:aJ}
theorem wq (a:Q=g)(b:g<=1000):iT 0/\iT (Q:Int):=⟨⟨by decide,by decide⟩,by subst a;constructor<;>(first|exact ai 34898773920|exact ai 0x127b9520d4688d884 b)⟩
theorem UD {C:bl}(a:C.b0=ag):C.ci=0:=by induction C with|cJ _=>rfl|dd _ _=>cases a
theorem abq (e':im F)(e9:pm F)(y:kt N):so (bB F N):=λ{dm h i' a8 W T S f j' j9 j} E r b8 f9 a9 g q=>by
 have A:=r.aH;rw[ax]at A;refine bU Kc [J (.I<|dq f),J (.ah W),J (.ah T),J (ae S),D,D,D] rfl rfl (aF<|pG λe M H d9 m=>?_);refine gV (av (m.U _ _ E) ?_);refine A<|>?_;refine aC (wq rfl<|ba @a9<|~~~_) (.inl ⟨rfl,?_⟩);refine mJ<|>fV<|>?_;refine Dl (dm:=M) (R:=λh v C=>∃a,v=eg (dq C.b0) a C.ci/\dm.U a=D/\a≠e/\h.U a=J (bh<|C.bR a8)) (cw:=j) (λh b' v p l ⟨a,t,Z,n,b⟩=>⟨a,t,Z,n,l.U _ _ n b⟩) (λc9=>[J (.I<|dq f),J (.ah W),J (.ah T),J (ae S),J (.ah e),c9,D]) (λh' h'=>rfl) (λi C h d8 c' o l d z q=>?_) (λb' h8 c9 l d r=>?_) (~~~ai 19484755906 @a9) j [] [] 0 M D rfl rfl .cf d9 trivial
 ·refine bW (f9 C<|dT o) λa' f8=>?_;have j8:=(dv.mp o).1;have Q:∀a x,M.U a=J x->a≠e->h.U a=J x:=λa x b n=>l.U a x n b;have P:∀a x,lv.w.U _ a=J x->a≠e:=λa x b=>by rintro rfl;rw[H]at b;cases b
  refine DD (r.ju (i:=i) (p:=C.bR a8) (by refine cv<|>o<|>?_;rfl)) λv K c8 d' g9 b9=>?_;subst d';have G:=P _ _ b9;have s:=Q _ _ (m.U _ _ E) (P _ _ E);have g8:=Q _ _ (m.U _ _ b8) (P _ _ b8);have k:c' .cO [J (.I<|dq f),J (.ah W),J (.ah T),J (ae S),J (.ah e),J (ae i),D] (h.a1 e<|d8++[eg (dq f) c8 C.ci]):=q _ _ gb cg ⟨c8,by exact a'<|>rfl,g9,G,(iw G).trans<|Q _ _ (m.U _ _ b9) G⟩
  refine cl ?_;intro i8 i9;refine bx (e' f ?_);induction f with
  |true=>refine cc (av d<|av s<|fY K<|y<|av d ⟨eo z<|~~~_,?_⟩);rw[UD a']at k;exact bc (k7 k)|false=>
   have g:=g rfl i C o;refine cl ?_;intro i8 i9;refine bx (av s ?_);refine A<|>?_;by_cases c:i+1<j.length
   ·rw[if_pos c]at g;refine aW g λg' f'=>?_;refine pI (show((i:Int)+1)<(j.length:Int)by exact ac 3766308622301 c) ?_;refine cc (av d<|av s<|fY K<|av g8<|fY (v:=.aA<|dO C.ci g') (by unfold bh;refine cv<|>f'<|>?_;rfl)<|e9 f8<|y<|av d ⟨eo z<|~~~_,?_⟩);exact bc (bc<|k7 k)
   ·rw[if_neg c]at g;refine fN (show¬((i:Int)+1)<(j.length:Int)by exactλh9=>ac 0x5deffcd9e00c3f8279dffa1164d (eT c) h9) ?_;refine cc (av d<|av s<|fY K<|y<|av d ⟨eo z<|~~~_,?_⟩);rw[g]at k;exact bc (bc<|k7 k)
 ·exact bH (q e b' h8 H d (r.bb λv C e8=>MG e8 λa t Z n b=>⟨a,t,Z,b⟩)<|l.dP H m)
theorem afS {d e:Type}{b:List d}{c:List e}{i:Nat}{a:d×e}(f:(jE b c)[i]?=J a):b[i]?=J a.1/\c[i]?=J a.2:=List.getElem?_zip_eq_some.mp f
theorem abr (i':pj F)(j':m7 F)(j8:m4 F)(j9:qK F):sp (bB F N):=λ{r o' g9 b8 a9 a' j d p9 g8 P ks} d' G E k' k8 K e8 d9 M T o q=>by
 refine bU Kd [J (.I<|dq j),J (.ah b8),J (.ah a9),J (.ah a'),D,D,D] rfl rfl (aF<|pG λs f8 Z i8 a8=>?_);have e':(jE P ks).length=ks.length:=Fs<|>bo (ac 354984<|rS _ _) (ac 44523<|rR<|aj 365189675399 K e8);have c9:((d.length:Nat):Int)-1=(ks.length:Int):=E.aH<|>K<|>wj;refine b3 ?_;intro b' b9 c8;refine gV (av (a8.U _ _ G) ?_);refine aC (by constructor;exact⟨by decide,by decide⟩;refine c9<|>?_;constructor<;>(first|exact ai 34898773920|exact ac 0x1a92c2c3cfd4fcf1033 K @d9)) (.inl ⟨rfl,?_⟩);refine V (mJ ..)<|V (c9 ..)<|V (fV ..)<|aY (e' ..)<|?_;have n8:∀a x,lv.w.U _ a=J x->a≠s:=λa x b=>by rintro rfl;rw[Z]at b;cases b
 refine Dl (dm:=f8) (R:=λr v f=>v=.aA (cH f)) (cw:=jE P ks) (λr h v f y b=>b) (λf'=>[J (.I<|dq j),J (.ah b8),J (.ah a9),J (.ah a'),J (.ah s),f',D]) (λo9 o9=>rfl) (λi f r p8 g' e9 y m k9 q=>?_) (λh d f' y m E=>?_) (~~~aj 0x1f35be29fa64b6a01 K @d9 e') _ [] [] 0 f8 D rfl rfl .cf i8 trivial
 ·obtain⟨n,k⟩:=f;refine bW (afS e9) λg z=>?_;have g:P[i]?=J n:=g;have z:ks[i]?=J k:=z;refine aW (show∃C,g8[i]?=J C from⟨_,du<|e8▸((dv.mp g).1)⟩) λC A=>?_;have o:=o i C k A z;have e:=T C (dT A);have M:=M n (dT g);refine MH (E.ju A) λv l8 h8 S W=>?_;subst S;have t:∀a x,lv.w.U _ a=J x->r.U a=J x:=λa x b=>y.U a x (n8 a x b) (a8.U _ _ b);have d8:(P.map ae)[i]?=J (ae n):=by refine cv<|>g<|>?_;rfl
  have c':∀h,r.ar h->∀Q,Q=cH (n,k)->Cm .eA (.ah s) [.aA Q] h λv m9=>g' .cO [J (.I<|dq j),J (.ah b8),J (.ah a9),J (.ah a'),J (.ah s),J (ae i),D] m9:=λh l Q h'=>by subst h';exact av (l.U _ _ m) ⟨eo k9<|~~~_,q _ _ (l.ds.ak gb) cg rfl⟩
  have l':=y3 (c:=n) (k:=k);have n':=oE (n:=fF k);induction C with
  |cJ h9=>have e:ag=j:=e;clear T;subst e;refine em o λo8 c i9 S n9=>?_;clear A e;subst i9;clear e9 g z l' q o;subst S;have W:lv.w.U _ h8=J (bh<|(o8++[c]).map<|au.bQ g9):=W;have H:=t _ _ W;rw[cD]at H;unfold bh at H;rw[cD]at H;refine b3 ?_;intro b' b9 c8;refine bx (cc<|av m<|av (t _ _ d')<|fY d8<|j' M λf9 p=>?_);refine av (p.U _ _<|t _ _ G) (fY l8<|av (p.U _ _ H)<|mx ?_);refine j9 k8 n9 (i' (n:=fF c.bI) (Ol<|rz _) λm' m8=>?_);refine aC (ct<|by exact cC<|>ai 45069239497282 n'.2) ?_;exact c' m' (p.ak m8) _ rfl|dd h9 Q=>have e:ap=j:=e;clear T;subst e;refine aW o λc G=>b3 ?_;intro b' b9 c8;refine bx (bx<|cc<|av m<|av (t _ _ k')<|fY (v:=.aA<|dO c k) (by unfold bh;refine cv<|>G<|>?_;rfl)<|av (t _ _ d')<|fY d8<|j8 M λf9 p=>?_);exact c' f9 p _ rfl
 ·refine b3 ?_;intro b' b9 c8;refine bH (q s h Z ?_<|y.dP Z a8);refine m<|>?_;congr 1;have:∀(d:List O) (cw:List dU),fz (λv f=>v=.aA (cH f)) d cw->d=bh (cw.map cH):=by
   intro d cw;induction d generalizing cw with
   |nil=>intro b;induction cw using cj with|nil=>rfl|cons _ _=>exact b.elim
   |cons v d l9=>intro b;induction cw using cj with|nil=>exact b.elim|cons f cw=>obtain⟨rfl,b⟩:=b;refine l9 cw b<|>?_;rfl
  exact this _ _ E
end
def h0 (c:Nat)(b:List aO)(d:List Nat)(f:List aO)(e:List Nat):Prop:=∃a,f=b++dK a (dK c 0)/\e.Perm (d++uk (b.length+1) a)
theorem h0.cf (a:j.Perm M):h0 g o M o j:=⟨0,(dn _).symm,(dn M).symm▸a⟩
theorem h0.ak (b:h0 g o M q8 j)(c:h0 g q8 j r8 a8):h0 g o M r8 a8:=by obtain⟨a,rfl,b⟩:=b;obtain⟨d,rfl,c⟩:=c;refine⟨a+d,by exact bN<|>PF<|>rfl,c.trans ?_⟩;exact V (a2 ..)<|V (hh ..)<|V (oP ..)<|aY (List.range'_append_1 ..)<|aY (bN ..)<|b.append_right _
theorem h0.bg (b:h0 g o M q8 j):h0 g o (a8++M) q8 (a8++j):=aU b λa c b=>⟨a,c,by exact bN<|>b.append_left a8⟩
theorem sJ.mv (a:sJ g o M Q q8 j):h0 g o M q8 (Q::j)/\q8.length<=o.length+1:=by
 rcases a with⟨rfl,rfl,rfl,rfl⟩|⟨rfl,rfl⟩
 ·exact⟨⟨1,rfl,iX _⟩,fv (by refine a2<|>?_;rfl)⟩
 ·exact⟨h0.cf (wV _ _).symm,kN _⟩
theorem C0 {x:List O}(c:bO t8 g Q o M)(b:t8.U l=D)(d:ec g Q W A)(e:W.U l=J x):A.U l=J x:=d.U l x (λa=>a.elim (λa=>by rw[a,c.U]at b;cases b) (λa=>by rw[a,c.eX]at b;cases b)) e
def sq (p:aJ):Prop:=∀{a:w} {l:O->w->Prop} {h e f q n P:Nat} {b:List aO} {g c:List Nat},bO a e f b g->a.U n=J (c.map ae)->(c++g).Nodup->(∀o∈c,2<=o/\o<=b.length)->b.length+20<=100000->g.length<=90000->c.length<=9->P<=9->h<=128->(∀k d i j m,a.U k=D->d.U k=J (i.map ae)->i.length=P->bO d e f j m->h0 h b (c++g) j (i++m)->j.length<=b.length+P->ec e f a d->l (.ah k) d)->p 34 [bS h e f q,.ah n,ae P] a l
section
variable {F N:aJ}{aZ a0:Nat}
theorem ad1 (a:W.U g=J (M.map ae))(q:hc W ((M.take Q).map ae) S):kJ (.ah g) .bE (ae Q) W S:=by
 refine av a ?_;show hc W (dp (M.map ae) 0<|h2 _ (Q:Int)) S;refine yE<|>?_;have:dp (M.map ae) 0 (min Q (M.map ae).length)=(M.take Q).map ae:=by unfold dp;exact V (oL ..)<|aY (j0 ..)<|V (ax ..)<|aY (List.take_eq_take_min ..)<|rfl
 exact this<|>q
theorem ad0 (a:W.U g=J (M.map ae))(q:hc W ((M.drop Q).map ae) S):kJ (.ah g) (ae Q) .bE W S:=by
 refine av a ?_;show hc W (dp (M.map ae) (h2 _ (Q:Int)) (M.map ae).length) S;refine yE<|>?_;have:dp (M.map ae) (min Q (M.map ae).length) (M.map ae).length=(M.drop Q).map ae:=by
  unfold dp;refine V (nL ..)<|aY (mM ..)<|ax<|>?_;by_cases c:Q<=M.length
  ·exact V (gZ c ..)<|rfl
  ·exact rR (~~~ac 354985 (iC c))<|>List.drop_length<|>oK (~~~ac 354985 (iC c))<|>rfl
 exact this<|>q
theorem Xu (C:pl F)(t:bO W aZ a0 o M)(G:W.U l=D):∀(c a:List Nat) (d:w) (b:Option O),bO d aZ a0 o a->d.U l=J R->(a++c).Nodup->(∀h∈c,2<=h/\h<=o.length)->a.length+c.length<=100000->(∀e b,bO e aZ a0 o (a++c)->ec aZ a0 d e->P .cO [J (bS g aZ a0 Q),z,z8,A8,b,D] e)->gK ap [4] (a6 (bn F N) Cc.aP.as) (λe=>e.U l=J R) (c.map ae) [J (bS g aZ a0 Q),z,z8,A8,b,D] d P:=by
 intro c;induction c with
 |nil=>intro a d b i f _ _ _ q;rw[dn]at q;exact aC f (q d b i .cf)|cons y c H=>intro a d b i f p r k q;rw[fQ]at k;have s:=r y (.head _);have E:y∉a:=λj=>(fm.mp p).2.2 y j y (.head _) rfl;refine aC f (cc<|C i E s.1 s.2 (~~~ac 0x458d667da46a806b07a5c k) λK x n=>?_);refine H (a++[y]) K _ x (C0 t G n f) (by exact bN<|>p) (λh j=>r h<|.tail _ j) (by refine a2<|>?_;show a.length+1+_<=_;exact ac 0x1601bd6f080c2d9a806b07a5c k) λe b m A=>?_;rw[bN]at m;exact q e b m (n.ak A)
theorem aeN (e8:lw F){r R h b cs:Nat}(E:bO W aZ a0 o M)(m:W.U b=D)(f8:r<=128)(e9:cs<100000)(e':h<=9):∀(c:Nat) (a:List Nat) (g:List aO) (p:List Nat) (d:w),bO d aZ a0 g p->d.U b=J (a.map ae)->a.length+c=h->g.length+c<=cs->(∀j k n A,bO j aZ a0 n A->j.U b=J (k.map ae)->k.length=h->h0 r g (a++p) n (k++A)->n.length<=g.length+c->cW (λx=>(x=aZ\/x=a0)\/x=b) d j->P .cO [J (bS r aZ a0 R),z,J (ae h),J (.ah b),z8,D] j)->hR (λa9 d c=>ao (bn F N) (.a7 .eY (.bt .aH<|.X 3)<|.X 2) a9 d<|el c) (a6 (bn F N) Cc.aP.aP.as) (c+1) [J (bS r aZ a0 R),z,J (ae h),J (.ah b),z8,D] d P:=by
 intro c;induction c with
 |zero=>intro a g p d C i f H q;refine av i<|ax<|>?_;exact fN (λt=>by have:=cz.mp t;exact ac 0xf715932b03f7fb8ecfa11677 f t) (q d a g p C i f (h0.cf<|iX _) (cL _) .cf)|succ c f9=>
  intro a g p d C i f H q;refine av i<|ax<|>pI (cz.mpr<|~~~aj 25218829680 f) ?_;refine b3 ?_;intro g' a9 h8;refine cc (av i<|EA @e8 C (~~~aj 0x4c38128dc8e9fc135e13f039 e9 H) f8 λK l Z a8 b' G s=>?_);refine av (C0 E m s i) ⟨?_,?_⟩
  ·exact ax<|>eo (show a.length<=9 by exact aj 0x190afa68aadb986 e' f) (~~~_)
  have c':(K.a1 b<|a.map ae++[ae l]).U b=J ((a++[l]).map ae):=by refine cg<|>cD<|>?_;rfl
  have g8:aZ≠b:=λe=>by rw[<-e,E.U]at m;cases m
  have g9:a0≠b:=λe=>by rw[<-e,E.eX]at m;cases m
  have b9:bO (K.a1 b<|a.map ae++[ae l]) aZ a0 Z a8:=⟨(iw g8).trans G.U,(iw g9).trans G.eX,G.eq⟩;have d9:cW (λx=>(x=aZ\/x=a0)\/x=b) d (K.a1 b<|a.map ae++[ae l]):=⟨λc8 y T t=>by exact iw (λe=>T<|.inr e)<|>s.U c8 y (λe=>T<|.inl e) t,s.a4,s.aQ⟩;refine bW b'.mv λa' S=>f9 (a++[l]) Z a8 _ b9 c' (by refine a2<|>?_;show a.length+1+c=h;exact bo (aj 744136800132042 f)<|aj 540924279784843 f) (~~~az 0x3f1f6ae6368aaba8 H S) λj k n A b8 c9 f' Q d' d8=>?_;refine q j k n A b8 c9 f' (h0.ak a'.bg ?_) (~~~az 0xf8e8cc26ab804ec8 S d') (d9.ak d8);rw[bN]at Q;exact Q
theorem aeb {l:List Nat}(o:W.U g=J (l.map ae))(i:l.length<=60)(q:∀b a (k:List Nat),W.U b=D->a.U b=J (k.map ae)->k.Perm l->W.ar a->S (.ah b) a):En (.ah g) W S:=by
 refine av o<|B0<|>⟨by exact ax<|>ai 423695142332 i,λf e m=>?_⟩;have c:(f.map ub).map ae=f.map O.I:=by refine oO<|>Ft λj c=>aU (eS.mp<|e.mem_iff.mp c) λh m n=>?_;clear c;subst n;rfl
 have p:(f.map ub).Perm l:=by
  have:=e.map ub;rw[oO]at this;have d:l.map (ub∘λh:Nat=>(h:Int))=l:=by refine(Ft λh m=>?_).trans (List.map_id l);rfl
  rw[d]at this;exact this
 refine hy (by exact ax<|>e.length_eq<|>ax<|>ai 0xad723bcd5bc i) λb a r d l=>q b a _ r (by exact d<|>c<|>rfl) p l
theorem abt (c9:lw F)(c':pl F):sq (bB F N):=λ{o j' z aZ a0 a9 i' a p f b} k E d' h8 e' f9 G h d9 q=>by
 refine bU Kf [J (bS z aZ a0 a9),J (.ah i'),J (ae a),D,D,D] rfl rfl (aF ?_);refine ad1 E (hy (by exact ax<|>e1<|>ac 0x3c745101510d8 h (fG _ _)) λl9 k9 k8 a' j=>av a'<|hy (by exact ax<|>e1<|>ac 0x3c745101510d8 h (fG _ _)) λl8 k' i b8 n=>?_);have i:=j.hM i;refine gV<|ad0 ((j.ak n).U _ _ E) (hy (by exact ax<|>gB<|>ac 0x3c745101510d8 G (bL _ _)) λl' h9 g9 A y=>av A ?_);have Z:=(k.ar<|j.ak n).ar y;have g':=(j.ak n).hM g9;have t:=j.ak (n.ak y);have H:(b.take a++(f++b.drop a)).Perm (b++f):=by have:=(qb (l₁:=f) (l₂:=b.drop a)).append_left (b.take a);rw[<-bN (b.take a) (b.drop a),j1]at this;exact this
 have e8:(f++b.drop a).Nodup:=(fm.mp<|H.nodup_iff.mpr d').2.1;refine Xu @c' k g' (b.drop a) f h9 D Z A e8 (λj8 d=>h8 j8<|li d) (by exact gB<|>aj 0x8562207acc22d088a0a9828078 f9 G (bL _ _)) λh' m8 a8 m=>?_;refine mG ⟨a-(b.take a).length+1,?_⟩;have e9:(b.take a).length<=a:=e1<|>ac 354984 (fG _ _);refine aeN @c9 k i d9 (cs:=p.length+9) (~~~ai 0x115643e489d6ccb728296a652 e') h (a-(b.take a).length) (b.take a) p _ h' a8 (C0 k i m<|y.U _ _ b8) (~~~bo (aj 24690248718<|ay<|ac 354984 e9) (aj 14412402004 aw)) (~~~aj 0x190dadbd6d3ca86 h (bL _ _)) λP j9 i9 T r b9 K W d8 s=>bH (aeb b9 (~~~ac 32580377708760 h K) λg Q i8 f' b' S M=>?_);have C:ec aZ a0 o P:=⟨λl x R d=>s.U l x (λe=>e.elim R (by rintro rfl;rw[i]at d;cases d))<|m.U l x R<|t.U _ _ d,λl x d=>s.a4 _ _<|m.a4 _ _<|t.a4 _ _ d,λl x d=>s.aQ _ _<|m.aQ _ _<|t.aQ _ _ d⟩;have f8:h0 z p (b++f) p (b.take a++(f++b.drop a)):=h0.cf H;have c8:ec aZ a0 o Q:=C.ak M.ds;have g8:o.U g=D:=by
  cases d:o.U g with
  |none=>rfl|some x=>
   have:P.U g≠D:=λe=>by
    by_cases c:g=aZ\/g=a0
    ·rcases c with rfl|rfl
     ·rw[r.U]at e;cases e
     ·rw[r.eX]at e;cases e
    ·rw[C.U _ _ c d]at e;cases e
   exact absurd f' this
 exact q g Q i8 i9 T g8 b' (S.length_eq.trans K) (r.ar M) (f8.ak<|W.ak<|h0.cf<|S.append_right T) (~~~az 0x9f6f519074e8 @d8 (bL _ _)) c8
end
noncomputable def tj:au:=⟨0,[],0⟩
noncomputable def on (a:List dU)(d:Nat):Nat->List Nat->List bl
 |_,[]=>[]|e,b::c=>.dd ((a.take b).drop e) (if c.isEmpty then d else(a.getD b (0,0)).1)::on a d (b+1) c
noncomputable def hQ:bl->List Nat->List bl
 |.cJ b,a=>(iu 0 b 0 a).map .cJ|.dd b c,a=>on b c 0 a
noncomputable def ix:bl->List Nat->List Int
 |.cJ b,a=>a.dropLast.map λc=>(b.getD (c-1) tj).bI|.dd b _,a=>a.dropLast.map λc=>(b.getD c (0,0)).2
def bl.fM (b:Nat):bl->Prop
 |.cJ a=>∀c∈a,c.dg b|.dd a d=>(∀x∈a,k2 x)/\d<4294967296
section
variable {aa:Nat}
theorem XQ:∀{b:Nat},(on E g b M).length=M.length:=by
 induction M with
 |nil=>exactλ{c}=>rfl|cons _ M a=>exactλ{c}=>congrArg oT a
theorem Ep {b:bl}{a:List Nat}:(hQ b a).length=a.length:=by
 induction b with
 |cJ c=>exact(ax _).trans DU|dd c d=>exact XQ
theorem z3 {G:bl}{E:List Nat}:(ix G E).length=E.length-1:=by
 induction G with
 |cJ a=>exact(ax _).trans qa|dd a b=>exact(ax _).trans qa
theorem M5 {d f:Type}{c:d->f}{b:List d}:∀{a:Nat},iu g (b.map c) a M=(iu g b a M).map (lR c):=by
 induction M with
 |nil=>exactλ{i}=>rfl|cons h M e=>exactλ{a}=>by unfold iu;exact e<|>f1<|>mM<|>j0<|>rfl
theorem XR:∀{a:Nat},(on E g a M).map (bl.bR aa)=(iu 1 E a M).map (lR cH):=by
 induction M with
 |nil=>exactλ{d}=>rfl|cons c M b=>exactλ{a}=>by unfold on iu;refine f1<|>b<|>?_;rfl
theorem NW:(hQ h M).map (bl.bR aa)=iu (cK !h.b0) (h.bR aa) 0 M:=by
 induction h with
 |cJ a=>unfold hQ bl.bR;dsimp only;refine M5<|>oO<|>?_;rfl|dd a b=>unfold hQ;exact XR.trans M5.symm
theorem C5 {d:List dU}{e:Nat}:∀{b:List Nat} {c:Nat},∀C∈on d e c b,C.b0=ap
 |f::b,c,C,a=>by
  rcases dE.mp a with rfl|a
  ·rfl
  ·exact C5 C a
 |[],_,C,a=>nomatch a
theorem NV {C:bl}(a:C∈hQ h M):C.b0=h.b0:=by
 induction h with
 |cJ b=>refine aU (eS.mp a) λx e c=>?_;clear a;subst c;rfl|dd b d=>exact C5 C a
theorem DM (b:∀x∈E,k2 x)(a:Nat):k2 (E.getD a (0,0)):=by
 refine ig<|>?_;cases c:E[a]? with
 |none=>exact⟨by decide,by decide,by decide⟩|some x=>exact b x (dT c)
theorem Lw {d:List dU}{f:Nat}(b:∀x∈d,k2 x)(e:f<4294967296):∀{c:List Nat} {g:Nat},∀C∈on d f g c,C.fM aa
 |h::c,g,C,a=>by
  rcases dE.mp a with rfl|a
  ·refine⟨λx i=>b x<|lj<|li i,?_⟩;split
   ·exact e
   ·exact(DM b h).1
  ·exact Lw b e C a
 |[],_,C,a=>nomatch a
theorem Eo (a:h.fM aa){C:bl}(f:C∈hQ h M):C.fM aa:=by
 induction h with
 |cJ b=>
  refine aU (eS.mp f) λx i g=>?_;subst g;have:∀{M e},x∈iu 0 b e M->∀c∈x,c∈b:=by
   intro M;induction M with
   |nil=>intro e a;nomatch a|cons k M j=>
    intro e a;rcases dE.mp a with rfl|a
    ·exactλc d=>lj (li d)
    ·exact j a
  exactλc d=>a c (this i c d)
 |dd b l=>exact Lw a.1 a.2 C f
theorem bl.fM.ci {C:bl}(b:C.fM aa):C.ci<4294967296:=by
 induction C with
 |cJ a=>show 0<_;decide|dd a c=>exact b.2
theorem Lx {g room:Nat}(h:M.length=E.length):∀{e i:Nat} {C:bl},et M room 1 e j->(on E g e j)[i]?=J C->if i+1<j.length then(j.dropLast.map λa=>(E.map cH).getD a [])[i]?=J (dO C.ci<|(j.dropLast.map λa=>(E.getD a (0,0)).2).getD i 0)else C.ci=g:=by
 induction j using pF with
 |nil=>exactλb m=>b.elim|ff a=>
  intro e i C b d;induction i using ey with
  |zero=>cases d;exact rfl
  |succ i=>cases d
 |more a f j l=>
  intro e i C b d;induction i using ey with
  |zero=>cases d;have k:a<E.length:=h▸b.2.2.2.1;refine if_pos (by rw[fQ,fQ];exact ai 1488344727)<|>?_;show J ((E.map cH).getD a [])=J (dO (E.getD a (0,0)).1 (E.getD a (0,0)).2);refine ig<|>ig<|>cv<|>du k<|>?_;rfl
  |succ i=>
   have:=l (i:=i) b.2.2.2.2 d;by_cases c:i+1<(f::j).length
   ·rw[if_pos c]at this;exact if_pos (show i+1+1<(a::f::j).length from Nat.succ_lt_succ c)<|>this
   ·rw[if_neg c]at this;exact if_neg (show¬i+1+1<(a::f::j).length fromλx=>c<|w0 x)<|>this
theorem M4 {room:Nat}(n:M.length=G.length):∀{s i:Nat} {h:List au} {g:Int},et M room 0 s j->(iu 0 G s j)[i]?=J h->(j.dropLast.map λa=>(G.getD (a-1) tj).bI)[i]?=J g->∀⦃k:Prop⦄,(∀q c,h=q++[c]->c.bI=g->c∈G->k)->k:=by
 induction j using pF with
 |nil=>exactλb f f=>b.elim|ff a=>exactλf f e=>nomatch e|more a r j o=>
  intro s i h g b l e;induction i using ey with
  |zero=>
   cases l;cases e;have m:=b.2.2.1;have d:a-1<G.length:=by have:=b.2.2.2.1;exact az 5106546454046 n this (bL _ _)
   refineλf p=>p ((G.take<|a-1).drop s) (G[a-1]) (?_) (by show G[a-1].bI=(G.getD (a-1) tj).bI;refine ig<|>du d<|>?_;rfl) (wQ d);have:G.take a=G.take (a-1)++[G[a-1]]:=by have:=PN d;rw[show a-1+1=a by exact bo (ac 10545038814<|ay<|ac 524329 m) (ac 42823471152 aw)]at this;exact this
   exact this<|>Fc (by rw[e1];exact az 0x893b09ffee3d5 m aw<|gZ<|ac 354985 d)<|>rfl
  |succ i=>exact o b.2.2.2.2 l e
theorem aei {room i:Nat}{C:bl}(k:h.fM aa)(g:et ((h.bR aa).map ab) room (cK !h.b0) 0 M)(a:(hQ h M)[i]?=J C)(d:(ix h M)[i]?=J m):L6 aa (ms h.b0 (h.bR aa) M) i m C:=by
 induction h with
 |cJ f=>have a:((iu 0 f 0 M).map bl.cJ)[i]?=J C:=a;rw[cv]at a;refine aU (fw.mp a) λt o j=>?_;clear a;subst j;refine M4 (by exact ax<|>ax _) g o d λr c b l p=>?_;exact⟨r,c,b,l,k c p⟩|dd f x=>
  have:=Lx (by exact ax<|>ax _) g a;have e:=(dv.mp d).1;have e:i<(M.dropLast.map λb=>(f.getD b (0,0)).2).length:=e;rw[ax,qa]at e;rw[if_pos (~~~aj 73914482298203 e (ay<|aj 2631933851 e<|bL _ _))]at this;have d:(M.dropLast.map λb=>(f.getD b (0,0)).2)[i]?=J m:=d;rw[ig,d]at this;have n:C.b0=ap:=C5 C (dT a);induction C with
  |cJ _=>cases n
  |dd s q=>exact⟨_,this⟩
theorem aej {room i:Nat}{C:bl}(a:et ((h.bR aa).map ab) room (cK !h.b0) 0 M)(e:h.b0=ap)(d:(hQ h M)[i]?=J C):if i+1<(hQ h M).length then∃f,(ms h.b0 (h.bR aa) M)[i]?=J (dO C.ci f)else C.ci=h.ci:=by
 induction h with
 |cJ b=>cases e
 |dd b g=>
  have:=Lx (by exact ax<|>ax _) a d;refine Ep<|>?_;split
  ·rename_i c;rw[if_pos c]at this;exact⟨_,this⟩
  ·rename_i c;rw[if_neg c]at this;exact this
theorem aaj {room d:Nat}:∀{c:Nat} {b:List aO},et (o.map ab) room d c M->b∈iu d o c M->bM b<=room:=by
 induction M using pF with
 |nil=>exactλ{c} {b} a h=>a.elim|ff e=>exactλ{c} {b} a h=>by cases uj.mp h;have:=a.2.1;unfold d0 at this;rw[<-j0,<-mM]at this;exact this
 |more e g M f=>
  exactλ{c} {b} a h=>by
   rcases dE.mp h with rfl|h
   ·have:=a.2.1;unfold d0 at this;rw[<-j0,<-mM]at this;exact this
   ·exact f a.2.2.2.2 h
theorem aek {room:Nat}{C:bl}(a:et ((h.bR aa).map ab) room (cK !h.b0) 0 M)(b:C∈hQ h M):bM (C.bR aa)<=room:=aaj a<|aY (NW ..)<|eS.mpr ⟨C,b,rfl⟩
end
noncomputable def rt (b:Nat):b2:=b.repeat (λ|.Y _ a=>a|.L=>.L) Ig
noncomputable def iO (a:List Nat):Nat:=a.getLast?.getD 0
noncomputable def IN {a:Type}(b:a):List (a×Int)->a
 |[]=>b|x::_=>x.1
noncomputable def tT {a:Type}(c:a):List (a×Int)->List (a×Int)
 |[]=>[]|x::b=>(c,x.2)::b
noncomputable def D1 {a:Type}(b c:a):List (a×Int)->a
 |[]=>b|_::_=>c
noncomputable def iz (a:List dU)(first j:Nat)(b:List Nat)(ks:List Int):List dU:=a.take first++(jE b ks++tT (iO b) (a.drop j))
noncomputable def lb (a:List dU)(c j:Nat)(b:List Nat):Nat:=if j<a.length then c else iO b
section
variable {F N:aJ}
theorem yx {a d:Nat}{x y:List O}(e:W.U a=J x)(f:W.U d=J y)(g:x.length+y.length<=1000)(q:∀c b,W.U c=D->b.U c=J (x++y)->W.ar b->S (.ah c) b):oe .bg (.ah a) (.ah d) W S:=av e (av f<|hy (by exact a2<|>g) q)
theorem NM {j:Int}(c:W.U g=J (bh o))(d:j=(Q:Int))(b:Q<=o.length)(e:o.length<=1000)(q:∀u a,W.U u=D->a.U u=J (bh<|o.take Q)->W.ar a->S (.ah u) a):kJ (.ah g) .bE (.I j) W S:=by
 refine av c (Ee d (by exact fK<|>b)<|hy ?_ λu a f Q l=>q u a f ?_ l)
 ·unfold dp;exact gB<|>e1<|>fK<|>az 0x111abb69b2b3951f79f534 b e (bL _ _) (fG _ _)
 ·refine Q<|>?_;unfold dp bh;exact V (oL ..)<|aY (j0 ..)<|rfl
theorem NN {j:Int}(c:W.U g=J (bh o))(d:j=(Q:Int))(f:Q<=o.length)(e:o.length<=1000)(q:∀u a,W.U u=D->a.U u=J (bh<|o.drop Q)->W.ar a->S (.ah u) a):kJ (.ah g) (.I j) .bE W S:=by
 refine av c (zZ d (by exact fK<|>f)<|hy ?_ λu a h b l=>q u a h ?_ l)
 ·unfold dp;exact gB<|>e1<|>fK<|>aj 0xe1cc6ac72739987128 e (bL _ _) (fG _ _)
 ·refine b<|>?_;unfold dp bh;exact V (nL ..)<|aY (mM ..)<|rfl
theorem zd (b:M≠[]):∃a,M=a++[iO M]:=by
 rcases AG M with rfl|⟨a,x,rfl⟩
 ·exact absurd rfl b
 ·exact AE<|>⟨a,by unfold iO;refine AK<|>?_;rfl⟩
theorem My (c:M≠[])(q:a (ae<|iO M)):nx (M.map ae) (-1) a:=by
 refine aW (zd c) λd b=>?_;have:M.map ae=d.map ae++[ae (iO M)]:=by refine V (b ..)<|V (cD ..)<|aY (b ..)<|?_;rfl
 exact this<|>mx q
theorem adN (l8:m4 F)(f':kt N){m:w}{K i first p Q R j:Nat}{ks:List Int}{a' d8 d9 d' e8 w8 e9 b8 b9 b' c8 c9 c':Option O}(g9:first+p=j+1)(T:m.U K=J (bh<|E.map cH))(g':m.U Q=J (M.map ae))(h9:m.U R=J (bh<|(jE M ks).map cH))(h8:M≠[])(W:M.length=ks.length+1)(f9:M.length<=9)(C:E.length<=60)(A:first<=E.length)(l':j<=E.length)(l9:iO M<4294967296)(q:∀a a9,m.U a=D->a9.U a=J (bh<|(iz E first j M ks).map cH)->m.ar a9->S (eg 5 a<|lb E i j M) a9):a6 (bn F N) (rt 13) [a',J (eg 5 K i),d8,d9,d',J (ae first),J (ae p),e8,w8,e9,b8,b9,b',c8,c9,c',J (.ah Q),J (.ah R),D,D,D,D] m (dI S):=by
 have G:(jE M ks).length=ks.length:=Fs<|>bo (ac 354984<|rS _ _) (ac 44523<|rR<|ac 6534195 W);have e':((first:Nat):Int)+((p:Nat):Int)-1=(j:Int):=dW (aj 0x10bfeff358f17e56 g9) (aj 0x3ea68a7380d4c3f g9);refine b3 ?_;intro n8 i8 i9;refine aF (kX ?_);refine kX (q6<|NM T rfl (by exact ax<|>A) (by exact ax<|>ai 0xad723bcd5bc C) λp9 o9 n9 i' H=>?_);refine gJ rfl (yx i' (H.U _ _ h9) (by exact fK<|>fK<|>e1<|>ax<|>ax<|>dN 0x31c79fd5ff34735112bebcc539c8d343 W @f9 C A G (fG _ _)) λp' o' n' j8 Z=>?_);refine q6 (NN ((H.ak Z).U _ _ T) e' (by exact ax<|>l') (by exact ax<|>ai 0xad723bcd5bc C) λq8 p8 o8 j9 a8=>?_);refine yx (a8.U _ _ j8) j9 ?_ λe m' n d m8=>?_
 ·exact a2<|>fK<|>fK<|>fK<|>e1<|>gB<|>ax<|>ax<|>fJ 0x1214b53a9f5d89896766cd1a7fa38724d7987cd1 W @f9 C A G (fG _ _) (bL _ _)
 have h:=H.ak (Z.ak<|a8.ak m8);have d:m'.U e=J (bh<|(E.take first++(jE M ks++E.drop j)).map cH):=by refine d<|>?_;unfold bh;simp only[cD,j0,mM,bN]
 have n:m.U e=D:=(H.ak<|Z.ak a8).hM n;have f8:∀b P,b.U e=J (bh<|(iz E first j M ks).map cH)->m.ar b->P=lb E i j M->a6 (bn F N) (rt 16) [a',J (eg 5 K i),d8,d9,d',J (ae first),J (ae p),e8,w8,e9,b8,b9,b',c8,c9,c',J (.ah Q),J (.ah R),J (.ah e),J (ae P),D,D] b (dI S)/\∀h',a6 (bn F N) (rt 16) [a',J (eg 5 K i),d8,d9,d',J (ae first),J (ae p),e8,w8,e9,b8,b9,b',c8,c9,c',J (.ah Q),J (.ah R),J (.ah e),J (ae P),J h',D] b (dI S):=by rintro b P y o rfl;exact⟨bH<|f'<|q e b n y o,λh'=>bH<|f'<|q e b n y o⟩
 refine aF (bx<|av (h.U _ _ T) ?_);refine fK<|>ax<|>e'<|>eh (λc=>?_) (λc=>?_)
 ·have c:=cz.mp c;refine fZ (show∃x f,E.drop j=x::f from⟨_,_,p4 c⟩) λx f z=>?_;obtain⟨r,g⟩:=x;rw[z]at d;have m9:(E.take first++jE M ks).length=first+ks.length:=a2<|>G<|>e1<|>bo (aj 25773107906<|fG _ _) (aj 24827483957<|gZ<|ac 354984 A)
  rw[<-bN,cD,show bh ((E.take first++jE M ks).map cH++lR cH ((r,g)::f))=bh ((E.take first++jE M ks).map cH)++bh (lR cH<|(r,g)::f)from cD]at d;generalize g8:bh ((E.take first++jE M ks).map cH)=s at d;have l:s.length=first+ks.length:=aY (g8 ..)<|fK<|>ax<|>m9<|>rfl
  have k8:bh ((iz E first j M ks).map cH)=s++bh (lR cH<|(iO M,g)::f):=by refine aY (g8 ..)<|?_;unfold iz tT;refine z<|>?_;unfold bh;simp only[cD,bN]
  refine aF (av (h.U _ _ h9) ?_);refine fK<|>ax<|>G<|>?_;have k9:(s++bh (lR cH<|(r,g)::f))[first+ks.length]?=J (.aA<|dO r g):=by refine hT (fv l)<|>l<|>iD<|>?_;rfl
  refine cl ?_;intro i8 i9;refine lO (av d<|fY (k:=first+ks.length) k9<|av (h.U _ _ g')<|My h8 ?_);refine l8 l9 λb o=>?_;have y:=o.U _ _ d;refine av y (zm (k:=first+ks.length) ?_ ?_)
  ·exact a2<|>l<|>wZ (hU _)
  have j':(s++bh (lR cH<|(r,g)::f)).set (first+ks.length) (.aA<|dO (iO M) g)=bh ((iz E first j M ks).map cH):=by refine k8<|>AO _ _ (fv l)<|>l<|>iD<|>?_;rfl
  refine j'<|>?_;refine b3 ?_;intro n8 i8 i9;refine bc ((f8 _ i cg (gb (m:=b) (t:=e) (x:=bh<|(iz E first j M ks).map cH)|>.dP n (h.ak o)) ?_).2 _);unfold lb;exact V (if_pos c ..)<|rfl
 ·have c:¬j<E.length:=λk'=>c (cz.mpr k');have z:E.drop j=[]:=oK (eT c);refine aF (av (h.U _ _ g')<|My h8 ?_);refine bc (f8 _ (iO M) ?_ h ?_).1
  ·refine d<|>?_;unfold iz tT;exact z<|>rfl
  ·unfold lb;exact V (if_neg c ..)<|rfl
end
theorem au.aaz {c:au}(h:c.cU.length<=g)(i:g<=128):(c.bQ g).length<=200:=by
 have a:=@oE c.cU.length;have b:=@oE (fF c.bI);have d:=@au.tk g c;have e:=@pM g c.cU.length;have f:(if c.c6=0 then []else bY 4 c.c6).length<=4:=by
  split
  ·exact dB _
  ·exact cC<|>cL _
 unfold au.bQ;simp-iota only[a2];exact fJ 0x852cf90608a9aac968416fc568c1dbca71a h i a.2 b.2 d e f
theorem bl.fM.aH {C:bl}(e:C.fM g)(f:g<=128):∀x∈C.bR g,x.length<=200:=λx a=>by
 induction C with
 |cJ d=>refine aU (eS.mp a) λc h b=>?_;clear a;subst b;exact au.aaz (e c h).cU f|dd d i=>refine aU (eS.mp a) λc j b=>?_;clear a;subst b;exact ba y3.2 (~~~_)
structure sK (c:Nat) (j:Bool) (g:List aO) (f:List Nat) (h:List bl) (i:Nat) (b:List aO):Prop where
 aH:b.length=g.length
 eQ:∀x∈b,x.length=c
 fg:∀q,(∀a,a<i->f[a]?≠J (q+1))->b[q]?=g[q]?
 rB:∀a e C,a<i->f[a]?=J e->h[a]?=J C->∃d,b[e-1]?=J d/\sl c 0 d j (C.bR c) C.ci
theorem yz (a:2<=g):bT g=0:=by unfold bT;exact if_neg (by exactλb=>ai 0x686ac8c0e803877a1164d a b)<|>rfl
theorem Ms {l:List Nat}{i a x:Nat}(d:l.Nodup)(e:l[i]?=J x)(f:l[a]?=J x):i=a:=aW (dv.mp e) λg b=>aW (dv.mp f) λh c=>(List.getElem_inj d).mp (b.trans c.symm)
theorem sK.dV {g i l:Nat}{C:bl}(a:sK g k o M d i q8)(H:M.Nodup)(n:M[i]?=J (l+1))(G:d[i]?=J C)(K:l<q8.length)(s:sl g 0 p k (C.bR g) C.ci)(N:∀f∈M,2<=f):sK g k o M d (i+1) (q8.set l p):=by
 refine⟨by exact nJ<|>a.aH,λx P=>?_,λq z=>?_,λj f A h e m=>?_⟩
 ·rcases Fw P with b|rfl
  ·exact a.eQ x b
  ·exact s.cu.aH
 ·exact p7 (by rintro rfl;exact z i (nN i) n)<|>a.fg q λj h=>z j (w1 h)
 ·by_cases c:j=i
  ·clear a h;subst c;rw[n]at e;rw[G]at m;cases e;cases m;exact⟨p,rF K,s⟩
  ·refine aU (a.rB j f A (by exact(fo c).elim (λr=>ac 357001 r) λr=>ac 0x49de4c6843dd05ddffa1171f h r) e m) λF y E=>⟨F,?_,E⟩;rw[p7 ?_]
   ·exact y
   ·intro b;have t:=N f (dT e);have:f=l+1:=bo (aj 0xb9c1e05dfe6d b aw) (aj 73913536243640 b<|ay<|ai 132216 @t);clear y b t;subst this;exact c (Ms H e n)
noncomputable def aeB:b2:=match rt 11 with|.Y (.bD _ _ _ a) _=>a|_=>.L
section
variable {F N:aJ}{aa aZ a0 cE:Nat}{b:Bool}
theorem aeC (h9:ku F){Z c' d' e8 e9 e' f8 w8 a8 a9 a' b8 b9 b' c8 c9 d8 d9:Option O}(G:aa=64\/aa=128)(i9:j.Nodup)(S:∀c∈j,2<=c/\c<=o.length)(j8:j.length=d.length)(l':¬(g=aZ\/g=a0))(l9:¬(Q=aZ\/Q=a0))(j9:W.U g=J (j.map ae))(j':W.U Q=J R)(h':fz (λv C=>∃a,v=eg (dq b) a C.ci/\¬(a=aZ\/a=a0)/\W.U a=J (bh<|C.bR aa)) R d)(i':∀C∈d,C.fM aa/\cm b+bM (C.bR aa)<=aa):∀(n i:Nat) (h:w) (k:List aO) (l:Option O),i+n=d.length->bO h aZ a0 k M->sK aa b o j d i k->ec aZ a0 W h->(∀y T l,bO y aZ a0 T M->sK aa b o j d d.length T->ec aZ a0 W y->P .cO [J (bS aa aZ a0 cE),Z,c',d',e8,e9,e',f8,w8,l,a8,a9,a',b8,b9,J (.ah Q),J (.ah g),b',c8,c9,d8,d9] y)->gK ap [9] (a6 (bn F N) aeB) (λm9=>True) ((gA (i:Int) n).map .I) [J (bS aa aZ a0 cE),Z,c',d',e8,e9,e',f8,w8,l,a8,a9,a',b8,b9,J (.ah Q),J (.ah g),b',c8,c9,d8,d9] h P:=by
 intro n;induction n with
 |zero=>intro i h k l e r m f q;have:i=d.length:=e;clear e;subst this;exact aC trivial (q h k l r m f)|succ n k9=>intro i h k l e r m f q;refine aW (show∃C,d[i]?=J C from⟨_,du<|~~~aj 25218829680 e⟩) λC t=>aW (show∃c,j[i]?=J c from⟨_,du<|~~~az 0x9c37dffc5b7 j8 e⟩) λc x=>?_;have s:=S c (dT x);refine aW (show∃p,c=p+1 from⟨c-1,by exact bo (ac 42823471152 aw)<|ac 10545038814<|ay<|ai 132216 s.1⟩) λp f'=>?_;subst f';refine DD (h'.ju t) λv k8 a g8 l8 i8=>?_;subst g8;refine bW (i' C<|dT t) λE g'=>?_;have H:=co G;have K:p<k.length:=m.aH<|>s.2;have A:=yz s.1;refine aC trivial (cc ?_);refine av (f.U _ _ l' j9) (fY (v:=ae<|p+1) (by refine cv<|>x<|>?_;rfl)<|av (f.U _ _ l9 j')<|fY k8 ?_);refine h9 r K m.eQ (~~~ai 21433431740 (ed G)) H (f.U _ _ l8 i8) (E.aH H) E.ci (by exact A<|>aj 4327491952644 g') λk' m8 z f9 g9=>?_;rw[A]at z;exact k9 (i+1) k' _ _ (~~~bo (aj 744136800132042 e) (aj 540924279784843 e)) f9 (m.dV i9 x t K z λc h8=>(S c h8).1) (f.ak g9) q
end
def BD (b:Nat)(d:List aO)(a:Nat)(C:bl):Prop:=1<=a/\∃c,d[a-1]?=J c/\GW b (bT a) c C.b0 (C.bR b) C.ci
structure pt (a:Nat) (b:List aO) (c e:List Nat):Prop where
 eO:a=64\/a=128
 eQ:∀x∈b,x.length=a
 bd:(e++c).Nodup
 gz:∀d∈e++c,2<=d/\d<=b.length
 mr:b.length+20<=90000
structure x4 (a:Nat) (o:List aO) (h:Bool) (e:List dU) (p i first k:Nat) (n:List Nat) (g:List bl) (ks:List Int) (d:bl):Prop where
 aag:∀x∈e,k2 x
 M2:e.length<=60
 lF:i<=e.length
 c2:oF (e.length+1) i=(first,k)
 rC:n=((e.map (·.1)++[p]).take<|first+k).drop first
 bn:g.length=k
 nq:k=ks.length+1
 Yt:∀j f,ks[j]?=J f->∃c,e[first+j]?=J (c,f)
 tF:∀(f m:Nat) (b:bl),first+f≠i->n[f]?=J m->g[f]?=J b->BD a o m b
 vy:∀b∈g,b.b0=h/\b.fM a/\(b.bR a).length<=80
 i3:hK a g ks=d.bR a
 CW:d.b0=h
 CY:d.fM a
 Xw:∀b,g.getLast?=J b->b.ci=d.ci
 hu:∀l,kn ((d.bR a).map ab) (a-cm h) (cK !h) l->l.length<=9
 i6:∀q∈d.bR a,ab q<=a-cm h
structure x5 (b:Nat) (d:Bool) (f:List aO) (i k:List Nat) (c:bl) (a:List Nat) (g:List aO) (j e:List Nat):Prop where
 yN:kn ((c.bR b).map ab) (b-cm d) (cK !d) a
 mv:∃h,h0 b f (k++i) h (e++j)/\sK b d h e (hQ c a) (hQ c a).length g
 aH:g.length<=f.length+9
 Mp:e.length=a.length
theorem rA {d i a c:Nat}(b:oF d i=(a,c))(g:0<d)(f:i<d):a<=i/\i<a+c/\a+c<=d/\0<c/\c<=3:=by
 unfold oF at b;split at b
 ·cases b;exact⟨ai 134,⟨ac 90109321 f,⟨ai 1408,⟨ai 228817 g,ai 292620174 ‹_›⟩⟩⟩⟩
 ·cases b;exact⟨aj 2083334162 (fG _ _)<|bL _ _,⟨RE (λe h=>az 0xcba57d1147e61112d f e aw) λe h=>aj 0x47280f86e4871 e aw,⟨aj 0xdeab4132b82e1e (rS _ _)<|ay<|ai 26996075<|iC ‹_›,⟨g7 4461,g7 139322⟩⟩⟩⟩
theorem pt.ZA (c:pt g o M j)(e:h0 g o (j++M) q8 a8)(i:1<=o.length):a8.Nodup/\(∀d∈a8,2<=d/\d<=q8.length)/\∀x∈q8,x.length=g:=by
 refine aU e λr h f=>?_;clear e;subst h;refine⟨f.nodup_iff.mpr<|fm.mpr ⟨c.bd,PB,λa k q l=>?_⟩,λd m=>?_,λx n=>?_⟩
 ·have:=(c.gz a k).2;have:=(wS.mp l).1;exactλp=>aj 0x84a2e32b402aed37c460e531acfa1164d ‹_› this p
 ·refine a2<|>hh<|>?_;rcases hi.mp (f.mem_iff.mp m)with b|b
  ·have:=c.gz d b;exact⟨ai 155932 this.1,aj 152455758 this.2⟩
  ·have:=wS.mp b;exact⟨ac 160432497876 @i this.1,aj 4354296939721 this.2⟩
 ·rcases hi.mp n with b|b
  ·exact c.eQ x b
  ·exact(PA.mp b).2<|>hh<|>rfl
theorem pt.aH (a:pt g o M j):(j++M).length<=o.length+1:=by have:=O2 (l₂:=ih<|o.length+1) a.bd λx b=>ui.mpr (oQ (a.gz x b).2);rw[wR]at this;exact this
def pn (y:aJ):Prop:=∀{b:w} {q:O->w->Prop} {c d e z hX l i first j:Nat} {r:Bool} {g:List aO} {m n:List Nat} {bZ:List dU} {o:List bl} {ks:List Int} {C h:bl} {s:O},bO b d e g m->pt c g m n->x4 c g r bZ l i first j n o ks h->¬(hX=d\/hX=e)->b.U hX=J (bh<|bZ.map cH)->lH b c s C->o[i-first]?=J C->(∀a f p t x k,x5 c r g m n h p t x k->bO f d e t x->ec d e b f->b.U a=D->f.U a=J (bh<|(iz bZ first (first+j-1) k (ix h p)).map cH)->q (eg 5 a<|lb bZ l (first+j-1) k) f)->y 35 [bS c d e z,eg 5 hX l,ae i,s] b q
section
variable {F N:aJ}{aa aZ a0 cE:Nat}{b:Bool}
theorem XA {aZ a0 b:Nat}(d:bO A aZ a0 o M)(f:ec aZ a0 W A)(a:A.U b=D):W.U b=D:=by
 cases e:W.U b with
 |none=>rfl|some x=>
  by_cases c:b=aZ\/b=a0
  ·rcases c with rfl|rfl
   ·rw[d.U]at a;cases a
   ·rw[d.eX]at a;cases a
  ·rw[f.U _ _ c e]at a;cases a
theorem adK (G9:m7 F)(F9:pj F)(G':im F)(F':pm F)(u':m4 F)(G8:qK F)(v8:ku F)(v9:so F)(v':sp F)(w8:sq F)(x':kt N){dm y:w}{c8 j' i first m r' s8 l8 e9:Nat}{H e:List Nat}{da:List bl}{ks:List Int}{E' k8 E8 E9:Option O}(d':bO dm aZ a0 o M)(k:pt aa o M H)(g:x4 aa o b E j' i first m H da ks h)(j9:dm.ar y)(D9:¬(c8=aZ\/c8=a0))(y8:dm.U c8=J (bh<|E.map cH))(w9:y.U r'=J (H.map ae))(w':y.U s8=J R)(h9:fz (lH y aa) R da)(y':y.U l8=J F8)(p9:fz (pL dm y) F8 (iu (cK !b) (h.bR aa) 0 e))(n8:dm.U e9=D)(h':y.U e9=J (bh<|ms b (h.bR aa) e))(K:kn ((h.bR aa).map ab) (aa-cm b) (cK !b) e)(q:∀a b9 c9 c' G,x5 aa b o M H h e c9 c' G->bO b9 aZ a0 c9 c'->ec aZ a0 dm b9->dm.U a=D->b9.U a=J (bh<|(iz E first (first+m-1) G (ix h e)).map cH)->S (eg 5 a<|lb E j' (first+m-1) G) b9):a6 (bn F N) (rt 9) [J (bS aa aZ a0 cE),J (eg 5 c8 j'),J (ae i),z,E',J (ae first),J (ae m),J (.ah r'),J (.ah s8),k8,J (.I<|dq b),E8,E9,J (.ah l8),J (.ah e9),D,D,D,D,D,D,D] y (dI S):=by
 have m8:=co k.eO;have f:=rA g.c2 (hU _) (oQ g.lF);have s:=g.hu e K;have r:=g.CW;have t:=@Ep h e;have x9:e≠[]:=by clear p9 h' q s t;rintro rfl;exact K.1.elim
 have h8:=Fq.mpr x9;obtain⟨p,g'⟩:∃p,da.getLast?=J p:=by
  cases c:da.getLast? with
  |none=>have:=Pq.mp c;have d:=g.bn;rw[this]at d;have d:0=m:=d;exact wI (aj 0x8558afae4e9edd17c564e6141bfa1164d f.1 f.2.1 d)|some p=>exact⟨p,rfl⟩
 have x8:=g.Xw p g';have z':∀{P:O->Prop},(∀a,P (eg (dq p.b0) a p.ci))->nx R (-1) P:=by
  intro P x;rcases AG R with rfl|⟨D',v,rfl⟩
  ·induction da using cj with
   |nil=>cases g'
   |cons _ _=>exact h9.elim
  ·rw[AE]at*;refine mx ?_;have z8:da[D'.length]?=J p:=by refine aY (g' ..)<|V (Fm ..)<|aY (h9.aH ..)<|a2<|>?_;rfl
   refine MH (h9.ju z8) λJ8 p8 a l a8=>?_;rw[hT (cL _),iD]at p8;cases p8;exact l▸x a
 have a':∀C∈hQ h e,C.b0=b/\C.ci<4294967296:=λC d=>⟨(NV d).trans r,(Eo g.CY d).ci⟩;have y9:∀{C x},(hQ h e)[x]?=J C->b=ap->if x+1<(hQ h e).length then∃key,(ms b (h.bR aa) e)[x]?=J (dO C.ci key)else C.ci=h.ci:=λ{C x} d i8=>by have:=aej (aa:=aa) (room:=aa-cm b) (by exact r<|>K.1) (r.trans i8) d;rw[r]at this;exact this
 refine cl ?_;intro s' t8;refine aF (av w'<|z' λa=>?_);refine x8<|>v9 (aa:=aa) (dm:=dm) (da:=hQ h e) y' (by exact NW<|>r<|>p9) h' a' (~~~ac 2428150155480 s t) (λi8 x C d=>y9 d i8) λI8 H9 s9 B9 l9 m9 b8=>?_;have n9:s9.length=e.length:=m9.aH.trans t;refine cl ?_;intro s' t8;refine aF (av l9 ?_);refine n9<|>?_;have C9:H.length<=9:=g.rC<|>gB<|>e1<|>pu (λk9=>az 0x23620a19da097915fc f.2.2.2.2 k9<|fG _ _) λk9 J'=>ai 26363416 k9;have A':M.length<=90000:=by have:=k.aH;have:=k.mr;rw[a2]at*;exact aj 0xbf9d3271d75b62c848dd5511fd84 ‹_› this
 refine w8 (P:=e.length) (d'.ar<|j9.ak b8) (b8.U _ _ w9) k.bd (λZ d=>k.gz Z<|dJ _ d) (by have:=k.mr;exact ai 0x22ac87c25c51f3db1f401fa652 this) A' C9 s m8 λI9 q' G r9 c' B' f8 A t9 d9 o9 a9=>?_;have C':H.length=m:=by refine g.rC<|>gB<|>e1<|>a2<|>ax<|>?_;show min (first+m) (E.length+1)-first=m;exact bo (az 0x7447f3bdd028 (fG _ _)<|ay<|az 0x69108597eff090c f.1 f.2.1<|gZ<|aj 0x8f3465c3b1da0 f.2.2.1) (az 71222003190408 aw<|gZ<|aj 0x8f3465c3b1da0 f.2.2.1)
 have A8:1<=o.length:=by refine aW (show∃Z,Z∈H from List.exists_mem_of_length_pos<|~~~az 0xb02204c63b90c f.1 f.2.1 C') λZ C8=>?_;have:=k.gz Z (dJ _ C8);exact ac 1057045346 this.1 this.2
 refine gR (k.ZA d9 A8) λn' i' A9=>?_;have q8:=j9.ak b8;have j8:=j9.hM B9;have o':=q8.hM B';have n:∀{d8},dm.U d8=D->¬(d8=aZ\/d8=a0):=λ{d8} d l=>l.elim (λl=>by rw[l,d'.U]at d;cases d) (λl=>by rw[l,d'.eX]at d;cases d);have e':=a9.U _ _ (n j8) l9;have m':fz (λv C=>∃a,v=eg (dq b) a C.ci/\¬(a=aZ\/a=a0)/\q'.U a=J (bh<|C.bR aa)) s9 (hQ h e):=m9.Mc λv C g9 f'=>eP f' λa l b' d=>⟨a,(a' C g9).1▸l,n b',a9.U _ _ (n b') d⟩;refine gV (av e' ?_);refine n9<|>aC (wq rfl<|ba s<|~~~_) (.inl ⟨rfl,?_⟩);refine mJ<|>fV<|>aeC @v8 k.eO (fm.mp n').1 (λW d=>i' W<|dJ _ d) (A.trans t.symm) (n o') (n j8) f8 e' m' (λC d=>⟨Eo g.CY d,?_⟩) e.length 0 q' r9 k8 (by exact jG<|>t<|>rfl) t9 ⟨rfl,A9,λa8 a8=>rfl,λa8 a8 a8 d=>absurd d<|oS _⟩ .cf λD8 c9 k8 k' e8 T=>?_
 ·have u9:=@tf b;have:=aek (room:=aa-cm b) (by exact r<|>K.1) d;have:=k.eO;exact az 0x9b4d00d7d654 ‹_› (ay<|ac 23451908683896 @u9 (ed this))
 have g8:ec aZ a0 dm D8:=q8.ds.ak (a9.ak T);have f9:=T.U _ _ (n o') f8;have i9:∀W∈G,W<4294967296:=λW d=>by have:=(i' W<|dJ _ d).2;have:=k.mr;exact az 0x1eb308668f69cf6e8748da0f5ed220dc57c664c s o9 ‹_› this
 refine cl ?_;intro s' t8;refine aF (v' (aa:=aa) (da:=hQ h e) (ks:=ix h e) f9 (T.U _ _ (n j8) e') ?_ (T.U _ _ (n n8)<|a9.U _ _ (n n8)<|b8.U _ _ h') m8 (by exact z3<|>t<|>bo (ac 42823471152 aw) (ac 10545038814<|ay<|ai 132259 h8)) (A.trans t.symm) (~~~ac 2428150155480 s t) i9 (λC d=>(a' C d).1) (λx C key d z9=>?_) λI' H' H8 l' Q=>?_)
 ·exact m'.Mc λv C g9 f'=>eP f' λa l b' d=>⟨a,(a' C g9).1.symm▸l,T.U _ _ b' d⟩
 ·have:=aei (aa:=aa) (room:=aa-cm b) g.CY (by exact r<|>K.1) d z9;rw[r]at this;exact this
 have o8:G≠[]:=by clear f8 d9 n' i' e8 f9 i9 l';rintro rfl;have:0=e.length:=A;exact ai 0x653b1cc8e8a5effa1165b h8 this
 refine aW (zd o8) λJ9 p'=>adN @u' x' (j:=first+m-1) (~~~bo (aj 0x8f3465c3b1da0 aw) (aj 736905156716682<|ay<|aj 25804242465 f.2.1)) (Q.U _ _<|g8.U _ _ D9 y8) (Q.U _ _ f9) l' o8 (by exact z3<|>bo (aj 0xbdce07b68d8c A aw) (aj 0xe9b56932319 A<|ay<|ai 132259 h8)) (~~~ac 2428150155480 s A) g.M2 (by have:=g.lF;exact az 0x507ffb397787cf40c f.1 f.2.1 f.2.2.1) (~~~az 0x442c10634695f3f0 f.2.2.1 (ay<|aj 25804242465 f.2.1)) (i9 _<|by exact p'<|>cP _ (by exact aY (p' ..)<|.head _)) λa r8 B8 t' q9=>?_;have u8:ec aZ a0 dm r8:=g8.ak (Q.ak q9).ds;refine q a r8 c9 c' G ⟨K,⟨r9,d9,e8⟩,?_,A⟩ (k'.ar<|Q.ak q9) u8 (XA (k'.ar Q) (g8.ak Q.ds) B8) t';exact e8.aH<|>aj 0x190db030de8e806 s o9
end
section
variable {F N:aJ}{aa aZ a0 cE:Nat}{b:Bool}
theorem Vm {C:cG}{i b:Nat}(e:f.b7 i=J (.ah b))(d:W.U b=J R)(h:∀a,W.ar a->S (.bs R.isEmpty) a):ao C (.a7 .cX (.X i)<|.ah .L) f W S:=by refine q5 (gJ e ?_);refine aC (ct<|dB _) λu g=>?_;have l:=dS (x:=[]) g;have c:(W.a1 u []).U u=J []:=cg;generalize W.a1 u []=j at*;exact av (l.U _ _ d) (av c<|h j l)
theorem Xz:∀{ks:List Int},(∀C∈d,(C.bR aa).length<=80)->(hK aa d ks).length<=d.length*81:=by
 induction d with
 |nil=>exactλ{h} h=>cL _|cons C d e=>
  intro ks;induction ks using cj with
  |nil=>exactλa=>by have:=a C (.head _);show(C.bR aa).length<=_;exact fQ<|>ac 0xd4bc76b6d6bf8 this
  |cons b ks=>
   exactλa=>by
    have:=a C (.head _);have g:=@e ks λc f=>a c (.tail _ f);show(C.bR aa++((if C.b0 then []else [dO C.ci b])++hK aa d ks)).length<=_;have:(if C.b0 then []else [dO C.ci b]).length<=1:=by
     split
     ·exact dB _
     ·exact cL _
    exact a2<|>a2<|>fQ<|>az 0x2953f505baec766e4425f692254 ‹_› g this
theorem adL (k9:pj F)(o9:m7 F)(o':im F)(l8:qI F)(l9:pm F)(l':m4 F)(m8:qK F)(m9:ku F)(m':u4 F)(n8:u5 F)(n9:so F)(n':sp F)(o8:sq F)(p8:kt N){Q:O->w->Prop}{H Z i first r e8 e9:Nat}{da:List bl}{ks:List Int}{ki Bx dy:Option O}(i8:bO W aZ a0 o M)(a':pt aa o M j)(c:x4 aa o b E Z i first r j da ks h)(r':¬(H=aZ\/H=a0))(f9:W.U H=J (bh<|E.map cH))(h8:W.ar A)(i':A.U e8=J (j.map ae))(f8:A.U e9=J R)(f':fz (lH A aa) R da)(q:∀a p f T a8 G,x5 aa b o M j h f T a8 G->bO p aZ a0 T a8->ec aZ a0 W p->W.U a=D->p.U a=J (bh<|(iz E first (first+r-1) G (ix h f)).map cH)->Q (eg 5 a<|lb E Z (first+r-1) G) p):a6 (bn F N) (rt 6) [J (bS aa aZ a0 cE),J (eg 5 H Z),J (ae i),ki,Bx,J (ae first),J (ae r),J (.ah e8),J (.ah e9),dy,J (.I<|dq b),D,D,D,D,D,D,D,D,D,D,D] A (dI Q):=by
 have s9:=co a'.eO;have g':=rA c.c2 (hU _) (oQ c.lF);have c':da.length=r:=c.bn;refine cl ?_;intro s t;refine aF (n8 (aa:=aa) (b:=b) (da:=da) (ks:=ks) (h8.U _ _ f9) f8 f' (λy k=>⟨(c.vy y k).1,(c.vy y k).2.1.ci⟩) (by exact c'<|>c.nq) (~~~ac 2428150143384 g'.2.2.2.2 c') (λy k=>(c.vy y k).2.2) c.Yt λs8 q' s' b8 P=>?_);rw[c.i3]at b8;have k':=@tf b;refine b3 ?_;intro a9 s t;refine aF (l8 (bf:=0) b (by show 0+_<=aa;exact ac 0xc42195aafb878 @k'<|ed a'.eO) ?_);have z:=h8.ak P;have go:∀(l:w) (g e:Nat) (K:List O) (f:List Nat),q'.ar l->l.U g=J K->fz (pL W l) K (iu (cK !b) (h.bR aa) 0 f)->W.U e=D->l.U e=J (bh<|ms b (h.bR aa) f)->kn ((h.bR aa).map ab) (aa-cm b) (cK !b) f->a6 (bn F N) (rt 9) [J (bS aa aZ a0 cE),J (eg 5 H Z),J (ae i),ki,Bx,J (ae first),J (ae r),J (.ah e8),J (.ah e9),dy,J (.I<|dq b),J (.ah s8),J (ae<|aa-cm b),J (.ah g),J (.ah e),D,D,D,D,D,D,D] l (dI Q):=λl g e K f d c9 d8 c8 b' b9=>adK @o9 @k9 @o' @l9 @l' @m8 @m9 @n9 @n' @o8 p8 i8 a' c (z.ak d) r' f9 ((P.ak d).U _ _ i') ((P.ak d).U _ _ f8) (f'.bb λv y k=>k.ar<|P.ak d) c9 d8 c8 b' b9 λa p T a8 G=>q a p f T a8 G;refine b3 ?_;intro a9 s t;refine bx (Vm rfl b8 λl d=>?_);by_cases n:h.bR aa=[]
 ·refine n<|>b3 ?_;intro a9 s t;refine ft<|aC (ct<|dB _) λm g9=>?_;have j8:(l.a1 m []).U m=J (bh []):=cg;have h9:=dS (x:=[]) g9;generalize l.a1 m []=S at*;refine aC (ct (show 1<=1000 by decide)) λg q8=>?_;have j':(S.a1 g [.ah m]).U g=J [.ah m]:=cg;have d':=dS (x:=[.ah m]) q8;generalize S.a1 g [.ah m]=h' at*;refine aC (ct<|dB _) λe g8=>?_;have j9:(h'.a1 e []).U e=J (bh []):=cg;have d9:=dS (x:=[]) g8;generalize h'.a1 e []=r8 at*;refine cl ?_;intro s t;refine bc<|go r8 g e [.ah m] [0] (d.ak<|h9.ak<|d'.ak d9) (d9.U _ _ j') (n<|>⟨⟨m,rfl,(z.ak d).hM g9,(d'.ak d9).U _ _ j8⟩,trivial⟩) ((z.ak<|d.ak<|h9.ak d').hM g8) ?_ ?_
  ·refine n<|>j9<|>?_;cases b<;>rfl
  ·refine n<|>?_;have e':et (([]:List aO).map ab) (aa-cm b) (cK !b) 0 [0]:=⟨cL _,dB _,rfl⟩;exact⟨e',[0],e',trivial,rfl⟩
 ·have p':(bh<|h.bR aa).isEmpty=ap:=by cases p9:h.bR aa with|nil=>exact absurd p9 n|cons _ _=>rfl
  refine p'<|>b3 ?_;intro a9 s t;refine ft (m' (d.U _ _ b8) n ?_ c.i6 λS g e K f q9 c9 d8 c8 b' b9=>?_)
  ·refine aY (c.i3 ..)<|?_;have:=Xz (ks:=ks) λC k=>(c.vy C k).2.2;exact aj 0x7ee3773003aae488367cfa7791 g'.2.2.2.2 c' this
  ·refine b3 ?_;intro a9 s t;exact bc<|(go S g e K f (d.ak q9) c9 (d8.bb λv t8 k8=>eP k8 λa i9 r9 k=>⟨a,i9,(z.ak d).hM r9,k⟩) ((z.ak d).hM c8) b' b9)
theorem abu (l9:pj F)(p':m7 F)(q8:im F)(l':qI F)(m8:pm F)(m9:m4 F)(m':qK F)(n8:m5 F)(n9:ku F)(n':u4 F)(o8:xH F)(o9:u5 F)(o':so F)(p8:sp F)(p9:sq F)(q9:xZ F)(r9:kt N):pn (bB F N):=λ{o Q aa aZ a0 cE j8 T i first j b u8 u9 A G E ks C v8 w9} s W d t' e' q' a9 q=>by
 have x8:=co W.eO;have f:=rA d.c2 (hU _) (oQ d.lF);have s':=d.M2;have r8:=(d.vy C<|dT a9).1;refine aU q' λP Z b8=>?_;subst Z;refine bU Kn [J (bS aa aZ a0 cE),J (eg 5 j8 T),J (ae i),J (eg (dq C.b0) P C.ci),D,D,D,D,D,D,D,D,D,D,D,D,D,D,D,D,D,D] rfl rfl (aF<|q9 e' d.aag (~~~ai 5983349151164 s') λj9 y9 x9 e9 h9=>?_);refine cl ?_;intro d9 d';refine ft (av e9 ?_);refine ax<|>a2<|>ax<|>o8 (n:=G.length+1) (i:=i) ?_;refine d.c2<|>b3 ?_;intro z' d9 d';refine aF ?_;have k':dp ((G.map (·.1)++[T]).map ae) first (first+j)=A.map ae:=by unfold dp;exact V (d.rC ..)<|aY (j0 ..)<|aY (mM ..)<|rfl
 have g9:((G.map (·.1)++[T]).map ae).length=G.length+1:=by refine ax<|>a2<|>ax<|>?_;rfl
 refine av e9 (pV (p:=first) (e:=first+j) rfl rfl (~~~bP 0xb1205b81a358cecf9f6020 f.1 f.2.1 f.2.2.1 g9) (~~~az 0x5ce2a1836081a470 f.2.2.1 g9) ?_);refine k'<|>?_;have t8:A.length<=9:=d.rC<|>gB<|>e1<|>pu (λd8=>az 0x23620a19da097915fc f.2.2.2.2 d8<|fG _ _) λd8 z9=>ai 26363416 d8;refine hy (by exact ax<|>ai 372472940994 t8) λc9 y' x' S h'=>aF (pG λz i' m l c8=>?_);have b':=h9.ak (h'.ak c8);have v9:=s.ar b';have b9:E.length=j:=d.bn;refine gV<|aC (wq rfl<|~~~ai 372472930830 f.2.2.2.2) (.inl ⟨rfl,?_⟩);refine V (mJ ..)<|V (fV ..)<|V (show gA 0 j=gA 0 E.length by rw[b9])<|?_;have K:o.U z=D:=(h9.ak h').hM m;have y:∀{a x},o.U a=J x->a≠z:=λ{a x} h=>by clear m l;rintro rfl;rw[K]at h;cases h
 have t9:A.length=j:=by refine d.rC<|>gB<|>e1<|>a2<|>ax<|>?_;show min (first+j) (G.length+1)-first=j;exact bo (az 0x7447f3bdd028 (fG _ _)<|ay<|az 0x69108597eff090c f.1 f.2.1<|gZ<|aj 0x8f3465c3b1da0 f.2.2.1) (az 71222003190408 aw<|gZ<|aj 0x8f3465c3b1da0 f.2.2.1)
 refine Dl (dm:=i') (t:=z) (x:=9) (R:=λo v k=>∃a,v=eg (dq k.b0) a k.ci/\a≠z/\o.U a=J (bh<|k.bR aa)) (cw:=E) (λo y8 v p g ⟨a,e,n,h⟩=>⟨a,e,n,g.U _ _ n h⟩) (λdy=>[J (bS aa aZ a0 cE),J (eg 5 j8 T),J (ae i),J (eg (dq C.b0) P C.ci),J (.ah j9),J (ae first),J (ae j),J (.ah c9),J (.ah z),dy,D,D,D,D,D,D,D,D,D,D,D,D]) (λj' j'=>rfl) (λM k r w8 v' a' g H g8 q=>?_) (λr u' dy g l f8=>?_) (~~~ac 55653386607000 f.2.2.2.2 b9) E [] [] 0 i' D rfl rfl .cf l trivial
 ·have c':∀{a x},o.U a=J x->r.U a=J x:=λ{a x} h=>g.U a x (y h) (b'.U _ _ h);have s9:=(dv.mp a').1;refine cl ?_;intro d9 d';refine cc (av H<|vE ?_);refine eh (λc=>?_) (λc=>?_)
  ·have c:first+M=i:=iW.mp c
   obtain rfl:k=C:=by
    have:i-first=M:=bo (az 0x2b61652140fc8f ‹_› (ay<|ac 354984 f.1)) (az 0x6b8268fc8c976e ‹_› aw)
    rw[this,a']at a9;exact dr a9
   refine av H ⟨eo g8<|~~~_,?_⟩;exact(q _ _ gb cg ⟨P,rfl,y b8,(iw<|y b8).trans<|c' b8⟩)
  ·have c:first+M≠i:=λe=>c (congrArg jF e)
   refine aW (show∃dy,A[M]?=J dy from⟨_,du<|~~~az 9153168118446 b9 t9 s9⟩) λdy g'=>v1 (d.tF M dy k c g' a') λh8 w' s8 k8=>aW (show∃p,dy=p+1 from⟨dy-1,by exact bo (ac 42823471152 aw)<|ac 10545038814<|ay<|ai 132202 h8⟩) λp Z=>?_;clear h8;subst Z;have a8:r.U c9=J (A.map ae):=g.U _ _ (by clear l K y g H q;rintro rfl;rw[S]at m;cases m) (c8.U _ _ S);have e8:bO r aZ a0 u8 u9:=⟨c' s.U,c' s.eX,s.eq⟩;refine av a8 (fY (v:=ae<|p+1) (by refine cv<|>g'<|>?_;rfl)<|n8 e8 s8 k8 W.eO λa z8 f9 k9 i9=>?_);have f':a≠z:=by clear m l K y g q;rintro rfl;rw[H]at f9;cases f9
   refine av (i9.U _ _ H) ⟨eo g8<|~~~_,?_⟩;exact(q _ _ (i9.ds.ak gb) cg ⟨a,rfl,f',(iw f').trans k9⟩)
 ·have i8:o.ar r:=g.dP K b';have e8:=s.ar i8;have r':fz (lH r aa) u' E:=f8.bb λv k l8=>eP l8 λa e j' h=>⟨a,e,h⟩;have a8:r.U c9=J (A.map ae):=g.U _ _ (by clear l K y g f8;rintro rfl;rw[S]at m;cases m) (c8.U _ _ S);have:=adL @l9 @p' @q8 @l' @m8 @m9 @m' @n9 @n' @o9 @o' @p8 @p9 r9 (cE:=cE) (Q:=Q) (ki:=J<|eg (dq C.b0) P C.ci) (Bx:=J<|.ah j9) (dy:=dy) s W d t' e' i8 a8 l r' q;rw[<-r8]at this;refine cl ?_;intro d9 d';exact aF<|this
end
inductive aV where
 |cb (c:au)
 |fq (a:Int)
variable{s L8:List aV}{N:bl->List aV->List Nat->Prop}
def aV.bK:aV->aV->Prop
 |.cb a,.cb c=>a.bI<c.bI|.cb a,.fq b=>a.bI<=b|.fq b,.cb c=>b<c.bI|.fq b,.fq l=>b<=l
noncomputable def fl:List aV->List au
 |[]=>[]|.cb c::a=>c::fl a|.fq _::a=>fl a
noncomputable def ea:List au->List Nat
 |[]=>[]|c::a=>if c.c6=0 then ea a else c.c6::ea a
theorem iv:∀{a b:List aV},fl (a++b)=fl a++fl b
 |[],_=>rfl|.cb c::a,b=>congrArg (c::·) (iv (a:=a))|.fq _::a,b=>iv (a:=a)
theorem ws:fl (G.map .cb)=G:=by
 induction G with
 |nil=>exact rfl|cons c G a=>exact congrArg (c::·) a
theorem tB {a:List au}:∀{b:List au},ea (a++b)=ea a++ea b:=by
 induction a with
 |nil=>exactλ{e}=>rfl|cons c a d=>exactλ{b}=>by show(if c.c6=0 then ea (a++b)else c.c6::ea (a++b))=(if c.c6=0 then ea a else c.c6::ea a)++ea b;refine d<|>?_;split<;>rfl
section
variable {α:Type}(T:α->List aV->List Nat->Prop)
def dR:List (α×Int)->α->List aV->List Nat->Prop
 |[],c,a,b=>T c a b|x::g,c,a,b=>∃d f e o2,T x.1 d f/\dR g c e o2/\a=d++.fq x.2::e/\b=f++o2
def i2:List (α×Int)->List aV->List Nat->Prop
 |[],a,b=>a=[]/\b=[]|x::f,a,b=>∃c e d o2,T x.1 c e/\i2 f d o2/\a=c++.fq x.2::d/\b=e++o2
def ko (e:α):List (α×Int)->List aV->List Nat->Prop
 |[],a,b=>a=[]/\b=[]|x::d,a,b=>∃c,dR T d e c b/\a=.fq x.2::c
end
section
variable {α:Type}{T sb:α->List aV->List Nat->Prop}{r n fH:α}
theorem dR.np {b:List (α×Int)}:∀{d:List (α×Int)} {f e:List aV} {g o2:List Nat},i2 T b f g->dR T d r e o2->dR T (b++d) r (f++e) (g++o2):=by
 induction b with
 |nil=>exactλ{a} {a} {a} {a} {a} k c=>by obtain⟨rfl,rfl⟩:=k;exact c
 |cons x b n=>exactλ{a} {a} {a} {a} {a} j c=>kG j λo p q s l m h i=>⟨o,p,_,_,l,n @m c,by refine h<|>bN<|>?_;rfl,by exact i<|>bN<|>rfl⟩
theorem dR.dp {b:List (α×Int)}:∀{f:List (α×Int)} {i:List aV} {j:List Nat},dR T (b++f) r i j->∀⦃k:Prop⦄,(∀c d h o2,i2 T b c d->dR T f r h o2->i=c++h->j=d++o2->k)->k:=by
 induction b with
 |nil=>exactλ{e} {e} {e} q=>λe g=>g ([]) ([]) _ _ ⟨rfl,rfl⟩ q rfl rfl|cons x b t=>exactλ{f} {i} {j} p=>kG p λy A h o2 s l n o=>by refine t @l λc d z C a m E F=>?_;subst E;clear l;subst F;exactλe g=>g _ _ z C ⟨y,A,c,d,s,a,rfl,rfl⟩ m (by refine n<|>bN<|>?_;rfl) (by exact o<|>bN<|>rfl)
theorem dR.Nf {e:List (α×Int)}:∀{f:Int} {d:List (α×Int)} {a b:List aV} {c o2:List Nat},dR T e n a c->dR T d fH b o2->dR T (e++(n,f)::d) fH (a++.fq f::b) (c++o2):=by
 induction e with
 |nil=>exactλ{f} {d} {a} {b} {c} {o2} k g=>⟨a,c,b,o2,k,g,rfl,rfl⟩|cons x e o=>exactλ{f} {d} {a} {b} {c} {o2} j g=>kG j λp q r s l m h i=>⟨p,q,_,_,l,o @m g,by refine h<|>bN<|>?_;rfl,by exact i<|>bN<|>rfl⟩
theorem dR.Ok {d:List (α×Int)}:∀{k:Int} {c:List (α×Int)} {g:List aV} {i:List Nat},dR T (d++(n,k)::c) fH g i->∀⦃s:Prop⦄,(∀f h b o2,dR T d n f h->dR T c fH b o2->g=f++.fq k::b->i=h++o2->s)->s:=by
 induction d with
 |nil=>exactλ{k} {c} {g} {i} m=>kG m λq r b o2 o e j l=>λF p=>p q r b o2 @o @e j l|cons x d y=>exactλ{k} {c} {g} {i} m=>kG m λq r b o2 o e j l=>by refine y @e λf h z A a t C E=>?_;subst C;clear e;subst E;exactλF p=>p _ _ z A ⟨q,r,f,h,o,a,rfl,rfl⟩ t (by refine j<|>bN<|>?_;rfl) (by exact l<|>bN<|>rfl)
theorem dR.CQ {b uL a:List (α×Int)}{e m f:List aV}{g o or:List Nat}(i:i2 T b e g)(c:dR T uL n m o)(d:ko T fH a f or):dR T (b++(uL++tT n a)) (D1 n fH a) (e++(m++f)) (g++(o++or)):=by
 refine dR.np i ?_;induction a using cj with
 |nil=>obtain⟨rfl,rfl⟩:=d;show dR T (uL++[]) n _ _;exact dn<|>dn<|>dn<|>c
 |cons x j=>obtain⟨k,h,rfl⟩:=d;exact dR.Nf c h
theorem dR.MV {b:List (α×Int)}{d j:Nat}(E:d<=j)(N:j<=b.length)(l:dR T b fH s M):∀⦃q:Prop⦄,(∀f g h i A or,i2 T (b.take d) f g->dR T ((b.take j).drop d) (IN fH<|b.drop j) h i->ko T fH (b.drop j) A or->s=f++(h++A)->M=g++(i++or)->q)->q:=by
 have r:b=b.take d++((b.take j).drop d++b.drop j):=by have t:=j1 d (b.take j);rw[List.take_take,gZ E]at t;exact aY (bN ..)<|t<|>j1<|>rfl
 rw[r]at l;refine dR.dp l λf g F o2 a e o p=>?_;subst o;subst p;clear r l;cases y:b.drop j with
 |nil=>rw[y,dn]at e;exactλH m=>m f g F o2 ([]) ([]) a e ⟨rfl,rfl⟩ (by exact dn<|>rfl) (by exact dn<|>rfl)|cons x K=>rw[y]at e;refine dR.Ok (n:=x.1) (k:=x.2) e λh i z G c C o p=>?_;subst o;clear e;subst p;exactλH m=>m f g h i (.fq x.2::z) G a c ⟨z,C,rfl⟩ rfl rfl
theorem i2.bb {b:List (α×Int)}:∀{h:List aV} {d:List Nat},(∀x c a,(∀e∈a,e∈d)->T x c a->sb x c a)->i2 T b h d->i2 sb b h d:=by
 induction b with
 |nil=>exactλ{i} {i} i l=>l|cons x b o=>exactλ{h} {d} H k=>kG k λp s r o2 m n j f=>⟨p,s,r,o2,H _ _ _ (λe g=>f▸dJ _ g) @m,o (λx c a g=>H x c a λe q=>f▸cP _ (g e q)) @n,j,f⟩
theorem dR.bb {c:List (α×Int)}:∀{h:List aV} {e:List Nat},(∀x d b,(∀f∈b,f∈e)->T x d b->sb x d b)->dR T c r h e->dR sb c r h e:=by
 induction c with
 |nil=>exactλ{i} {i} H l=>H _ _ _ (λi a=>a) l|cons x c o=>exactλ{h} {e} H k=>kG k λp t s o2 m n j g=>⟨p,t,s,o2,H _ _ _ (λf a=>g▸dJ _ a) @m,o (λx d b a=>H x d b λf q=>g▸cP _ (a f q)) @n,j,g⟩
theorem ko.bb {c:List (α×Int)}(H:∀x b d,(∀f∈d,f∈M)->T x b d->sb x b d)(a:ko T fH c s M):ko sb fH c s M:=by
 induction c using cj with
 |nil=>exact a|cons x g=>obtain⟨b,a,e⟩:=a;exact⟨b,a.bb H,e⟩
end
section
variable (aa:Nat)
def f6 (e:List aO)(b:Nat):bl->Prop
 |.cJ a=>1<=b/\∃d h f c g,e[b-1]?=J d/\c0 aa (bT b) d a h f c g []|.dd a i=>BD aa e b (.dd a i)/\(∀x∈a,k2 x)/\bT b+12+bM (a.map cH)<=aa
def fI (e:List aO):Nat->bl->List aV->List Nat->Prop
 |0,.cJ a,b,d=>(∀c∈a,c.dg aa/\nW aa e c)/\b=a.map .cb/\d=ea a|i+1,.dd a h,b,d=>(bl.dd a h).fM aa/\dR (λg b d=>∃C f,f6 aa e g C/\fI e i C b f/\d=g::f) a h b d|_,_,_,_=>False
def fS (b:List aO)(d c:Nat)(e:List aV)(f:List Nat):Prop:=∃C a,f6 aa b c C/\fI aa b d C e a/\f=c::a
end
section
variable {aa:Nat}{bv dY:List aO}
theorem f6.h3 {C:bl}(f:f6 aa bv g C)(e:dY[g-1]?=bv[g-1]?):f6 aa dY g C:=by
 induction C with
 |cJ k=>obtain⟨b,a,n,j,c,l,d,h⟩:=f;exact⟨b,a,n,j,c,l,e.trans d,h⟩
 |dd k o=>obtain⟨⟨b,a,d,i⟩,m⟩:=f;exact⟨⟨b,a,e.trans d,i⟩,m⟩
theorem DP {c:au}(d:c.c6≠0):∀{a:List au},c∈a->c.c6∈ea a
 |x::a,b=>by
  show _∈(if x.c6=0 then ea a else x.c6::ea a);rcases dE.mp b with rfl|b
  ·exact if_neg d<|>.head _
  ·have:=DP d b;split
   ·exact this
   ·exact .tail _ this
 |[],b=>nomatch b
theorem fI.h3:∀{C:bl} {h:List aV} {b:List Nat},(∀d∈b,dY[d-1]?=bv[d-1]?)->fI aa bv g C h b->fI aa dY g C h b:=by
 induction g with
 |zero=>
  intro C h b e a;induction C with
  |cJ l=>exact⟨λc f=>⟨(a.1 c f).1,λj=>⟨((a.1 c f).2 j).1,(e c.c6<|a.2.2▸DP j f).trans ((a.1 c f).2 j).2⟩⟩,a.2⟩|dd _ _=>exact a.elim
 |succ g o=>
  intro C h b e a;induction C with
  |cJ _=>exact a.elim|dd l y=>refine⟨a.1,dR.bb ?_ a.2⟩;intro k t x q m;exact em m λC p r s i=>⟨C,p,r.h3<|e k<|q k<|i▸.head _,o (λd n=>e d<|q d<|i▸.tail _ n) s,i⟩
theorem fS.h3 (b:∀a∈M,dY[a-1]?=bv[a-1]?)(d:fS aa bv g Q s M):fS aa dY g Q s M:=by obtain⟨C,e,f,h,rfl⟩:=d;exact⟨C,e,f.h3<|b Q<|.head _,h.h3 λa c=>b a<|.tail _ c,rfl⟩
theorem ae4:ex (G.map<|au.bQ aa)=kK aa G:=by unfold ex kK;refine oO<|>?_;rfl
theorem c0.iL {d c e:Nat}(b:c0 aa d p G M t c e []):d+8+bM (G.map<|au.bQ aa)<=aa:=by have a:=b.kK;exact EG<|>ae4<|>ax<|>fJ 0x2b7326c0b2f21a9c9e537694ddf380 a b.ir
theorem f6.iL {C:bl}(a:f6 aa bv g C):bT g+cm C.b0+bM (C.bR aa)<=aa:=by
 induction C with
 |cJ d=>obtain⟨_,f,j,e,c,h,i,b⟩:=a;exact b.iL
 |dd d k=>exact a.2.2
theorem f6.fM {C:bl}(a:f6 aa bv g C):C.fM aa:=by
 induction C with
 |cJ e=>obtain⟨_,f,l,i,c,j,k,b⟩:=a;exact b.dg
 |dd e m=>obtain⟨⟨_,f,_,d⟩,h,_⟩:=a;exact⟨h,(d.ci rfl).2⟩
theorem f6.tF {C:bl}(b:f6 aa bv g C):BD aa bv g C:=by
 induction C with
 |cJ d=>obtain⟨f,e,k,l,c,m,h,a⟩:=b;refine⟨f,e,h,⟨k,a.cu⟩,λx i=>?_,nofun,λo=>rfl⟩;obtain⟨y,j,rfl⟩:=eS.mp i;exact⟨y,rfl,a.dg y j⟩
 |dd d n=>exact b.1
theorem fI.fM {C:bl}(a:fI aa bv g C s M):C.fM aa:=by
 induction g using ey with
 |zero=>
  induction C with
  |cJ b=>exactλc d=>(a.1 c d).1|dd _ _=>exact a.elim
 |succ g=>
  induction C with
  |cJ _=>exact a.elim|dd b e=>exact a.1
theorem fI.ee {C:bl}(a:fI aa bv g C s M):C.b0=dk (g=0):=by
 induction g using ey with
 |zero=>
  induction C with
  |cJ b=>rfl|dd _ _=>exact a.elim
 |succ g=>
  induction C with
  |cJ _=>exact a.elim|dd b c=>rfl
end
theorem sl.mE {C:bl}(h:1<=Q)(j:o[Q-1]?=J p)(b:sl g (bT Q) p C.b0 (C.bR g) C.ci)(e:C.fM g):f6 g o Q C:=by
 induction C with
 |cJ a=>
  have f:bT Q+cm ag+2*(a.map<|au.bQ g).length+ex (a.map<|au.bQ g)<=g:=b.fT;rw[ax]at f;have i:cm ag=8:=rfl;have n:=@Oo (a.map<|au.bQ g) g (~~~bP 0x29ea04f2fe509764e f @i);have l:∀{a:List au} {d:List Nat},zV (a.map<|au.bQ g) d=e5 g a d:=by
   intro a;induction a with
   |nil=>intro d;rfl|cons c a r=>
    intro d;induction d using cj with
    |nil=>rfl|cons s d=>exact congrArg ((s,e6 g c)::·) r
  refine⟨h,p,jC g<|a.map<|au.bQ g,[],g-ex (a.map<|au.bQ g),0,j,b.cu,e,b.jR,b.mj,⟨b.kU,trivial⟩,by exact dN 0xc074469044b890e7e357a30e5994 f @i aw,?_,mK⟩;refine V (gW ..)<|V (dn ..)<|aY (l ..)<|?_;exact n
 |dd a t=>have f:bT Q+cm ap+2*(a.map cH).length+ex (a.map cH)<=g:=b.fT;have m:cm ap=12:=rfl;refine⟨⟨h,p,j,⟨_,b.cu⟩,λx q=>?_,λz=>⟨b.ci rfl,e.2⟩,nofun⟩,e.1,by exact EG<|>bP 0xd3cc3f50efe3b4b0676532582ce f @m⟩;obtain⟨y,k,rfl⟩:=eS.mp q;exact⟨y.1,y.2,rfl,(e.1 y k).1,(e.1 y k).2⟩
def e4 (c d:List aV):Prop:=fl d=fl c/\∀a b,(a++(c++b)).Pairwise aV.bK->(a++(d++b)).Pairwise aV.bK
theorem e4.cf:e4 s s:=⟨rfl,λb b a=>a⟩
theorem e4.ak {a e c:List aV}(f:e4 a e)(g:e4 e c):e4 a c:=⟨g.1.trans f.1,λb d h=>g.2 b d<|f.2 b d h⟩
theorem e4.sO {a b A cs:List aV}(c:e4 a b):e4 (A++(a++cs)) (A++(b++cs)):=⟨by exact iv<|>iv<|>iv<|>iv<|>c.1<|>rfl,λe f d=>by have:=c.2 (e++A) (cs++f);simp-iota only[bN]at this d⊢;exact this d⟩
theorem e4.UW:e4 (s++.fq m::L8) (s++L8):=⟨by refine iv<|>iv<|>?_;rfl,λa c b=>by refine b.sublist ?_;simp-iota only[bN];exact((List.Sublist.refl s).append<|List.sublist_cons_self _ _).append_left a⟩
theorem aaF {c:au}{x:aV}(b:x.bK (.cb c)):x.bK (.fq c.bI):=by
 induction x with
 |cb a=>exact kM b|fq d=>exact kM b
theorem aaG {c:au}{x:aV}(b:aV.bK (.cb c) x):aV.bK (.fq c.bI) x:=by
 induction x with
 |cb a=>exact b|fq d=>exact b
theorem e4.fe {d g:List aV}{c:au}:e4 (d++.cb c::g) (d++.cb c::.fq c.bI::g):=⟨by refine iv<|>iv<|>?_;rfl,λh i j=>by
 have l:∀e,h++((d++.cb c::e)++i)=(h++d)++(.cb c::(e++i)):=λe=>by simp-iota only[bN];rfl
 rw[l]at j⊢;obtain⟨m,n,f⟩:=gX.mp j;obtain⟨k,o⟩:=es.mp n;refine gX.mpr ⟨m,es.mpr ⟨λx a=>?_,es.mpr ⟨λx a=>aaG<|k x a,o⟩⟩,λx a y b=>?_⟩
 ·rcases dE.mp a with rfl|a
  ·exact t6 _
  ·exact k x a
 ·rcases dE.mp b with rfl|b
  ·exact f x a _ (.head _)
  ·rcases dE.mp b with rfl|b
   ·exact aaF (f x a _<|.head _)
   ·exact f x a y<|.tail _ b⟩
def gn (b:bl->List aV->List Nat->Prop):List bl->List Int->List aV->List Nat->Prop
 |[],_,_,_=>False|C::a,[],c,d=>a=[]/\b C c d|C::a,h::ks,c,d=>∃e g f o2,b C e g/\gn b a ks f o2/\c=e++.fq h::f/\d=g++o2
section
variable {T:bl->List aV->List Nat->Prop}{GQ:Nat->bl->Prop}{aa:Nat}{bv dY:List aO}{h:Nat}
theorem dR.Wz {q:Nat}:∀{j:List aV} {d:List Nat},dR (λk M d=>∃C b,GQ k C/\T C M b/\d=k::b) E q j d->∀⦃s:Prop⦄,(∀e c,e.length=E.length+1->(∀(a h:Nat) (f:bl),(E.map (·.1)++[q])[a]?=J h->e[a]?=J f->GQ h f)->gn T e (E.map (·.2)) j c->d.Perm ((E.map (·.1)++[q])++c)->s)->s:=by
 induction E with
 |nil=>
  exactλ{j} {d} n=>em n λC b p r m=>λP o=>o ([C]) b rfl (λa h f i g=>by
   induction a using ey with
   |zero=>cases i;cases g;exact p
   |succ a=>cases g) ⟨rfl,r⟩ (m▸iX _)
 |cons x E G=>
  exactλ{j} {d} n=>kG n λH Q K o2 A F t y=>em A λC b p r m=>by
   refine G @F λe c l N z k=>λP o=>o (C::e) (b++c) (congrArg oT l) (λa h f i g=>?_) ⟨H,b,K,c,r,z,t,rfl⟩ (?_)
   ·induction a using ey with
    |zero=>cases i;cases g;exact p
    |succ a=>exact N a h f i g
   ·refine y<|>m<|>?_;have:=(k.append_left b).trans (rI b (E.map (·.1)++[q]) c);exact this.cons x.1
theorem gn.vQ {P:List bl->List Int->List aV->List Nat->Prop}(ff:∀{C:bl} {a:List aV} {b:List Nat},T C a b->P [C] [] a b)(more:∀{C:bl} {d:List bl} {f:Int} {ks:List Int} {g c:List aV} {i o2:List Nat},T C g i->gn T d ks c o2->P d ks c o2->P (C::d) (f::ks) (g++.fq f::c) (i++o2)):∀{ks:List Int} {a:List aV} {b:List Nat},gn T d ks a b->P d ks a b:=by
 induction d with
 |nil=>exactλh=>h.elim|cons C d m=>
  intro ks a b e;induction ks using cj with
  |nil=>exact e.1▸ff e.2|cons f ks=>exact kG e λg i c o2 n j k l=>k▸l▸more n j (m j)
theorem gn.aH {ks:List Int}(h:gn T d ks s M):d.length=ks.length+1:=gn.vQ (P:=λd ks a a=>d.length=ks.length+1) (λa=>rfl) (λa a b=>congrArg oT b) h
theorem gn.RK {ks:List Int}(h:gn T d ks s M):∀C∈d,∃b c,T C b c:=gn.vQ (P:=λd f f f=>∀C∈d,∃b c,T C b c) (λe g a=>⟨_,_,uj.mp a▸e⟩) (λe f j g a=>(dE.mp a).elim (λi=>⟨_,_,i▸e⟩)<|j g) h
theorem gn.Xe {ks:List Int}(o:∀a∈ks,iM a)(K:gn (fI aa bv h) d ks s M):∀⦃m:Prop⦄,(∀e i,fI aa bv h e i M->hK aa d ks=e.bR aa->(∀b,d.getLast?=J b->b.ci=e.ci)->e4 s i->m)->m:=by
 refine gn.vQ (P:=λd ks s M=>(∀a∈ks,iM a)->∀⦃m:Prop⦄,(∀e i,fI aa bv h e i M->hK aa d ks=e.bR aa->(∀b,d.getLast?=J b->b.ci=e.ci)->e4 s i->m)->m) (λ{C s M} j r=>λr n=>n C s j rfl (λb p=>by cases p;rfl) e4.cf) (λ{C d a ks z A T o2} j f H o=>?_) K o;refine H (λa s=>o a<|.tail _ s) λe i l t Q E=>?_;have y:∀b,(C::d).getLast?=J b->b.ci=e.ci:=λb p=>by
  induction d using cj with
  |nil=>exact f.elim|cons S d=>exact Q b p
 induction h using ey with
 |zero=>
  induction C with
  |dd _ _=>exact j.elim|cJ g=>
  induction e with
  |dd _ _=>exact l.elim|cJ k=>
   obtain⟨R,rfl,rfl⟩:=j;obtain⟨F,rfl,rfl⟩:=l;refineλr n=>n (.cJ<|g++k) ((g++k).map .cb) ⟨λc G=>(hi.mp G).elim (R c)<|F c,rfl,tB.symm⟩ (?_) y (?_)
   ·show g.map (au.bQ aa)++([]++hK aa d ks)=_;exact t<|>gW<|>cD.symm
   ·refine cD<|>?_;have:=@e4.sO A (k.map .cb) (g.map .cb) [] E;rw[dn,dn]at this;exact e4.UW.ak this
 |succ h=>
  induction C with
  |cJ _=>exact j.elim|dd g q=>
  induction e with
  |cJ _=>exact l.elim|dd k N=>
   refineλr n=>n (.dd (g++(q,a)::k) N) (z++.fq a::i) ⟨⟨λx hx=>?_,l.1.2⟩,j.2.Nf l.2⟩ (?_) y (?_)
   ·rcases hi.mp hx with hx|hx
    ·exact j.1.1 x hx
    ·rcases dE.mp hx with rfl|hx
     ·exact⟨j.1.2,o a<|.head _⟩
     ·exact l.1.1 x hx
   ·show g.map cH++([dO q a]++hK aa d ks)=_;exact t<|>(cD (f:=cH) (l₁:=g) (l₂:=(q,a)::k)).symm
   ·have:=@e4.sO A i (z++[.fq a]) [] E;simp-iota only[dn,bN]at this;exact this
end
section
variable {T:bl->List aV->List Nat->Prop}{aa:Nat}{bv dY:List aO}{h:Nat}
theorem CF {b:Type}{l:List b}(h:g<=Q)(a:Q<=l.length):l.drop g=(l.take Q).drop g++l.drop Q:=by
 conv=>lhs;rw[<-j1 Q l]
 exact Fc (by rw[e1];exact aj 2082943772 h<|gZ<|ac 354984 a)<|>rfl
theorem XP {m room:Nat}(n:M.length=E.length)(k:(bl.dd E m).fM aa):∀{c:Nat} {f:List aV} {g:List Nat},et M room 1 c j->dR (fS aa bv h) (E.drop c) m f g->gn (fI aa bv<|h+1) (on E m c j) (j.dropLast.map λb=>(E.getD b (0,0)).2) f g:=by
 induction j using pF with
 |nil=>exactλ{c} {f} {g} d i=>d.elim|ff b=>exactλ{c} {f} {g} d i=>by have e:b=E.length:=d.2.2.trans n;have r:(E.take b).drop c=E.drop c:=e<|>nL<|>rfl;refine⟨rfl,⟨⟨λx l=>k.1 x<|lj<|li l,k.2⟩,?_⟩⟩;exact r<|>i
 |more b C j t=>
  exactλ{c} {f} {g} d i=>by
   have e:b<E.length:=n▸d.2.2.2.1;have s:E.drop c=(E.take b).drop c++((E.getD b (0,0)).1,(E.getD b (0,0)).2)::E.drop (b+1):=by refine CF d.1 (gY e)<|>p4 e<|>ig<|>du e<|>?_;rfl
   rw[s]at i;exact dR.Ok i λy A z o2 a o p q=>⟨y,A,z,o2,⟨⟨λx l=>k.1 x<|lj<|li l,(DM k.1 b).1⟩,a⟩,t d.2.2.2.2 o,p,q⟩
theorem LQ {b:List au}{room:Nat}{p:List Nat}(m:p.length=b.length)(n:∀c∈b,c.dg aa/\nW aa bv c):∀{j:List Nat} {s:Nat},et p room 0 s j->∃g,gn (fI aa bv 0) ((iu 0 b s j).map .cJ) (j.dropLast.map λd=>(b.getD (d-1) tj).bI) g (ea<|b.drop s)/\e4 ((b.drop s).map .cb) g
 |[d],s,e=>by have o:d=b.length:=e.2.2.trans m;have k:(b.take d).drop s=b.drop s:=o<|>nL<|>rfl;exact⟨(b.drop s).map .cb,⟨rfl,λc f=>n c<|lj<|li f,k<|>rfl,k<|>rfl⟩,e4.cf⟩
 |d::z::j,s,e=>by
  have A:=e.2.2.1;have o:d<b.length:=m▸e.2.2.2.1;obtain⟨g,x,y⟩:=LQ m n e.2.2.2.2;have r:=CF (l:=b) e.1 (gY o);refine M4 m (i:=0) (s:=s) e rfl rfl λh c k f C=>?_;have f:c.bI=(b.getD (d-1) tj).bI:=f;refine⟨((b.take d).drop s).map .cb++.fq (b.getD (d-1) tj).bI::g,⟨_,_,g,_,⟨λc f=>n c<|lj<|li f,rfl,rfl⟩,x,rfl,?_⟩,?_⟩
  ·refine r<|>tB<|>?_;rfl
  ·refine V (r ..)<|V (cD ..)<|V (k ..)<|V (cD ..)<|aY (f ..)<|?_;have a:=@e4.fe (h.map .cb) ((b.drop d).map .cb) c;have q:=@e4.sO ((b.drop d).map .cb) g (h.map .cb++[.cb c,.fq c.bI]) [] y;simp-iota only[dn,bN]at q;have t:e4 ((h.map .cb++[c].map .cb)++(b.drop d).map .cb) (h.map .cb++.cb c::.fq c.bI::(b.drop d).map .cb):=bN<|>a;have:=t.ak q;rw[bN (h.map .cb) _ (.fq c.bI::g)];exact this
 |[],s,e=>e.elim
theorem fI.aeg {a:bl}{E:List Nat}{room:Nat}(b:fI aa bv h a s M)(e:et ((a.bR aa).map ab) room (cK !a.b0) 0 E):∀⦃d:Prop⦄,(∀f,gn (fI aa bv h) (hQ a E) (ix a E) f M->e4 s f->d)->d:=by
 induction h using ey with
 |zero=>
  induction a with
  |dd _ _=>exact b.elim|cJ g=>obtain⟨i,rfl,rfl⟩:=b;exactλj c=>aU (LQ (by exact ax<|>ax _) i e) c
 |succ h=>
  induction a with
  |cJ _=>exact b.elim|dd g k=>exactλj c=>c s (XP (by exact ax<|>ax _) b.1 e b.2) e4.cf
theorem YA {n m:Nat}{cR:List Nat}:iO (n::m::cR)=iO (m::cR):=by unfold iO;exact List.getLast?_cons_cons<|>rfl
theorem gn.W7 {ks:List Int}{cR:List Nat}{m:List aV}(b:gn (fI aa bv h) d ks m M)(c:cR.length=d.length)(g:∀(b n:Nat) (f:bl),cR[b]?=J n->d[b]?=J f->f6 aa bv n f):∀⦃i:Prop⦄,(∀e,dR (fS aa bv h) (jE cR ks) (iO cR) m e->e.Perm (cR++M)->i)->i:=by
 refine gn.vQ (P:=λd ks m M=>∀cR:List Nat,cR.length=d.length->(∀(b n:Nat) (f:bl),cR[b]?=J n->d[b]?=J f->f6 aa bv n f)->∀⦃i:Prop⦄,(∀e,dR (fS aa bv h) (jE cR ks) (iO cR) m e->e.Perm (cR++M)->i)->i) (λ{C m M} o cR c g=>?_) (λ{C d b ks t x j o2} o q s cR c g=>?_) b cR c g
 ·induction cR using cj with
  |nil=>nomatch c|cons n cR=>
   induction cR using cj with
   |nil=>exactλz k=>k (n::M) ⟨C,M,g 0 n C rfl rfl,o,rfl⟩ (iX _)|cons _ _=>nomatch c
 ·induction cR using cj with
  |nil=>nomatch c|cons n cR=>
   induction cR using cj with
   |nil=>exact absurd ((g0 c).trans q.aH) (oU _).symm|cons l cR=>exact s (l::cR) (g0 c) (λb n f a p=>g (b+1) n f a p) λe r y=>λz k=>k ((n::j)++e) ⟨t,n::j,x,e,⟨C,j,g 0 n C rfl rfl,o,rfl⟩,(YA (n:=n) (m:=l) (cR:=cR)).symm▸r,rfl,rfl⟩ (((y.append_left j).trans<|rI j (l::cR) o2).cons n)
theorem gn.bb {ks:List Int}(H:∀C b a,(∀c∈a,c∈M)->T C b a->N C b a)(i:gn T d ks s M):gn N d ks s M:=gn.vQ (P:=λd ks s M=>(∀C b a,(∀c∈a,c∈M)->T C b a->N C b a)->gn N d ks s M) (λf H=>⟨rfl,H _ _ _ (λe h=>h) f⟩) (λ{e e e e j k l o2} f m g H=>⟨j,l,k,o2,H _ _ _ (λc h=>dJ _ h) f,g λC b a q=>H C b a λc h=>cP _<|q c h,rfl,rfl⟩) i H
end
section
variable {K:List Nat}{room:Nat}
theorem tP (a:g<=Q)(b:Q<=K.length):(K.drop g).sum=d0 K g Q+(K.drop Q).sum:=by refine CF a b<|>AQ<|>?_;rfl
theorem Ew (a:g<K.length):(K.drop g).sum=K.getD g 0+(K.drop<|g+1).sum:=by refine p4 a<|>PJ<|>ig<|>du a<|>?_;rfl
theorem Xx:∀{b:Nat},et K room 1 b M->qB K room 1 b M->(M.length-1)*(room+1)<=(K.drop b).sum:=by
 induction M using pF with
 |nil=>exactλ{b} a c=>a.elim|ff e=>exactλ{b} a c=>by exact nK<|>iD<|>ur<|>dB _
 |more e f M d=>
  exactλ{b} a c=>by
   have d:=d a.2.2.2.2 c.2;have g:=c.1;refine tP a.1 (gY a.2.2.2.1)<|>Ew a.2.2.2.1<|>?_;have:(e::f::M).length-1=(f::M).length-1+1:=by simp-iota
   exact this<|>w4<|>bP 0x54054230fd38d799c8 d @g
theorem KG {e a b s:Nat}(c:et K room e a (b::M))(d:a<K.length):a<b:=by
 induction M using cj with
 |nil=>have:b=K.length:=c.2.2;exact aj 2088541729 d this|cons f M=>exact c.2.2.1
theorem Lm:∀{c:List Nat} {s:Nat},et K room 0 s c->qB K room 0 s c->(c.length/2)*(room+1)<=(K.drop s).sum
 |[a],s,b,d=>by exact V (show [a].length/2=0 by rw[nK])<|ur<|>dB _
 |[a,e],s,b,d=>by have h:room<d0 K s a+K.getD a 0:=d.1;refine V (tP b.1 (gY b.2.2.2.1) ..)<|V (Ew b.2.2.2.1 ..)<|V (show [a,e].length/2=1 by rw[fQ,nK])<|?_;exact az 0xf9cba901e5975e9 @h
 |a::e::g::c,s,b,d=>by have i:a<K.length:=b.2.2.2.1;have f:et K room 0 a (e::g::c):=b.2.2.2.2;have l:(g::c).length/2*(room+1)<=(K.drop e).sum:=Lm f.2.2.2.2 d.2.2;have h:room<d0 K s a+K.getD a 0:=d.1;have j:=KG (s:=s) f i;have k:(a::e::g::c).length/2=(g::c).length/2+1:=fQ<|>fQ<|>bo (aj 0x17e3c42c93cecfae72d58b2 (lU _ _)<|sL<|~~~_) (aj 0x52b3e9f887849aa47989fd (sL<|~~~_)<|lU _ _);refine tP b.1 (gY i)<|>tP (gY j) (gY f.2.2.2.1)<|>k<|>w4<|>?_;exact fJ 0x2724c11eed3c5b2641776b38 l @h (IX j<|gY f.2.2.2.1)
 |[],s,b,d=>b.elim
theorem Xy (a:et K room 0 0 (Q::l::f8::M))(c:qB K room 0 0 (Q::l::f8::M))(j:K.getD Q 0<=g):2*(room+1)<=K.sum+g:=by have d:Q<K.length:=a.2.2.2.1;have b:et K room 0 Q (l::f8::M):=a.2.2.2.2;have f:room<d0 K 0 Q+K.getD Q 0:=c.1;have h:room<d0 K Q l+K.getD l 0:=c.2.1;have i:=KG (s:=0) b d;have e:=tP a.1 (gY d);rw[oL,tP (gY i) (gY b.2.2.2.1),Ew b.2.2.2.1]at e;exact me 0x179123d7cc41cf69c4a64a7c16d6b594 j @f @h e
theorem kn.dd (d:kn K room 1 M):(M.length-1)*(room+1)<=K.sum:=by refine MA d λf e b a c=>?_;have:=Xx b a;rw[c,oL]at this;exact this
theorem kn.cJ (j:kn K room 0 M)(k:∀l∈K,l<=g):(M.length/2)*(room+1)<=K.sum/\(3<=M.length->2*(room+1)<=K.sum+g):=by
 refine MA j λp h b d c=>?_;have a:=Lm b d;rw[c,oL]at a;refine⟨a,λe=>?_⟩;match h,b,d,c with
 |i::n::o::m,b,d,c=>have f:i<K.length:=b.2.2.2.1;refine Xy b d<|ig<|>du f<|>?_;exact k _ (wQ f)|[_,_],b,d,c=>rw[<-c]at e;exact absurd @e (by decide:¬3<=2)|[_],b,d,c=>rw[<-c]at e;exact absurd @e (by decide:¬3<=1)|[],b,d,c=>exact b.elim
end
theorem la {a b:List aO}:bM (a++b)=bM a+bM b:=by unfold bM;exact cD<|>AQ<|>rfl
theorem Cw {c:Nat}{k:Int}:7<=ab (dO c k)/\ab (dO c k)<=15:=by have:=y3 (c:=c) (k:=k);unfold ab;exact⟨ac 0x92670f8a6372 this.1<|qd _ _,ac 576196272072792 this.2<|rQ (ai 6505758 this.1)⟩
theorem Cx {c:au}(d:g=64\/g=128)(j:c.dg g):ab (c.bQ g)<=g-23:=by
 have p:=@oE (fF c.bI);have o:=@au.tk g c;have f:=j.oG;have i:(c.bQ g).length=(er c.cU.length).length+((er<|fF c.bI).length+(e7 g c.cU.length+(if c.c6=0 then []else bY 4 c.c6).length)):=by unfold au.bQ;exact a2<|>a2<|>a2<|>o<|>rfl
 have n:(if c.c6=0 then []else bY 4 c.c6).length=if c.c6=0 then 0 else 4:=by
  split
  ·rfl
  ·exact cC
 rw[n]at i;have e:=j.cU;generalize c.cU.length=a at*;have k:a<128->(er a).length=1:=afu;have m:(er a).length<=2:=afv (~~~ac 0x44ec6a4a2b178 (co d) e);unfold ab;refine i<|>?_;have key:(if c.c6=0 then 0 else 4)+e7 g a+(er a).length<=g-34:=by
  rcases d with rfl|rfl
  ·have:=k (~~~ai 2687226388 e);by_cases b:c.c6=0
   ·refine if_pos b<|>?_;have:=@LX 64 a;exact az 0x28d326a986ff59efdcc29b156c0fff72 ‹_› this aw (ay<|g7 206593402)
   ·refine if_neg b<|>?_;have:e7 64 a<=8:=(by decide+kernel:∀a,a<=64->e7 64 a≠a->e7 64 a<=8) a e λx=>b (f.mpr x);exact aj 0x144a6e942b6c8b3965eb74 ‹_› this aw
  ·by_cases b:c.c6=0
   ·refine if_pos b<|>?_;have l:=f.mp b;have:=@LX 128 a;have:=k (~~~aj 0x463b71b15231a669 l this (ay<|g7 1301882));exact az 0x2ab185b7796e07757ea9765a0d4 ‹_› this aw (ay<|g7 1301882)
   ·refine if_neg b<|>?_;have:e7 128 a<=8:=(by decide+kernel:∀a,a<=128->e7 128 a≠a->e7 128 a<=8) a e λx=>b (f.mpr x);exact aj 0x5129ba50adb52895830 @m this aw
 exact RF (λh q=>aj 0x207fbc55be7d62b88698 (ed d) h aw) λh q=>me 0x9e013dfdb5362f51b5023e86a694e6afa07f0e054 p.2 key h aw (ay<|ai 21967705788<|ed d)
noncomputable abbrev iI (a:List dU)(b i:Nat):Nat:=IN b (a.drop i)
theorem IP:∀{j a:Nat},j<=E.length->(E.map (·.1)++[a])[j]?=J (iI E a j):=by
 induction E with
 |nil=>
  intro j;induction j using ey with
  |zero=>exactλ{a} d=>rfl|succ j=>exactλ{a} b=>absurd b (rU j)
 |cons x E c=>
  intro j;induction j using ey with
  |zero=>exactλ{a} d=>rfl|succ j=>exactλ{a} b=>c (qe b)
theorem Cr:∀{bZ:List dU} {b f j:Nat},f<=j->j<=bZ.length->((bZ.map (·.1)++[b]).take<|j+1).drop f=((bZ.take j).drop f).map (·.1)++[iI bZ b j]
 |[],b,0,0,_,_=>rfl|x::bZ,b,0,0,_,_=>rfl|x::bZ,b,0,j+1,_,a=>congrArg (x.1::·) (Cr (bZ:=bZ) (f:=0) (dB _)<|qe a)|_,_,f+1,0,a,_=>absurd a (rU f)|x::bZ,b,f+1,j+1,c,a=>Cr (bZ:=bZ) (qe c) (qe a)|[],b,f,j+1,_,a=>absurd a (rU j)
structure d3 (c a:Nat) (d:List aO) (e b:List Nat):Prop where
 eO:c=64\/c=128
 eQ:∀x∈d,x.length=c
 bd:(b++e).Nodup
 gz:∀f∈b++e,a<=f/\f<=d.length
 ci:a=1\/a=2
 fP:a∈b
theorem d3.wi (b:d3 g Q o M j):1<=Q:=b.ci.elim (λa=>fv a.symm) λa=>ba (~~~_) (fv a.symm)
theorem d3.hf {d c dy:Nat}(a:d3 d c o M j)(b:dy∈j++M)(e:dy≠c):2<=dy/\dy<=o.length:=⟨ba (jd a.wi)<|FA (a.gz dy b).1<|qf e,(a.gz dy b).2⟩
noncomputable def mH (a:Bool):Nat:=if a then 0 else 15
noncomputable def jW (a:Nat)(b:Bool):Nat:=if b then a-23 else 90
def s4 (d:Bool)(b c a:Nat):Prop:=a<=7/\if d then(a/2)*(b-7)<=c/\(3<=a->2*(b-7)<=c+(b-23))else(a-1)*(b-11)<=c
theorem EF {a:List aO}:6*a.length<=bM a:=by
 induction a with
 |nil=>exact cL _|cons c a b=>have:=b;show 6*(a.length+1)<=ab c+bM a;unfold ab;exact aj 0x377c27abb4d3739b4a this (lS _ _)
theorem EE {a:List dU}:7*a.length<=bM (a.map cH)/\bM (a.map cH)<=15*a.length:=by
 induction a with
 |nil=>exact⟨cL _,cL _⟩|cons c a d=>have:=d;have b:=Cw (c:=c.1) (k:=c.2);show 7*(a.length+1)<=ab (dO c.1 c.2)+bM (a.map cH)/\ab (dO c.1 c.2)+bM (a.map cH)<=15*(a.length+1);exact⟨aj 0xa4331f245570a7a80 this.1 b.1,aj 0x3e0039171a52379e70 this.2 b.2⟩
section
variable {aa:Nat}
theorem aev {C:bl}(l:∀(b:bl) (c:Int),b.b0=C.b0->bM (if b.b0 then []else [dO b.ci c])<=Q){da:List bl}:∀{ks:List Int},da.length=ks.length+1->(∀(c:Nat) (b:bl),da[c]?=J b->bM (b.bR aa)<=g)->(∀a∈da,a.b0=C.b0)->bM (hK aa da ks)+Q<=da.length*(g+Q):=by
 induction da with
 |nil=>intro ks d;cases d
 |cons a e j=>
  intro ks h H f;have i:=H 0 a rfl;induction ks using cj with
  |nil=>have:e=[]:=AL.mp (g0 h);clear j H f h;subst this;show bM (a.bR aa)+Q<=(0+1)*(g+Q);exact ba (rK @i Q) (fv (Nat.one_mul _).symm)|cons c ks=>have:=j (g0 h) (λc b d=>H (c+1) b d) λa d=>f a (.tail _ d);show bM (a.bR aa++((if a.b0 then []else [dO a.ci c])++hK aa e ks))+Q<=(e.length+1)*(g+Q);have k:=l a c (f a<|.head _);exact la<|>la<|>w4<|>dN 0x1cf3e85e18d222584b6918e0 @i this @k
theorem aez {C:bl}(l:∀(a:bl) (b:Int),a.b0=C.b0->bM (if a.b0 then []else [dO a.ci b])<=Q){da:List bl}:∀{ks:List Int} {j:Nat},da[j]?=J C->(∀(b:Nat) (a:bl),b≠j->da[b]?=J a->bM (a.bR aa)<=g)->da.length=ks.length+1->(∀a∈da,a.b0=C.b0)->bM (hK aa da ks)<=bM (C.bR aa)+(da.length-1)*(g+Q):=by
 induction da with
 |nil=>exactλc m m m=>nomatch c|cons a da d=>
  intro ks j c H f k;induction da using cj with
  |nil=>
   induction ks using cj with
   |cons _ _=>nomatch f|nil=>
    induction j using ey with
    |succ j=>nomatch c|zero=>cases c;exact eN _ _
  |cons e da=>
   induction ks using cj with
   |nil=>nomatch f|cons b ks=>
    induction j using ey with
    |zero=>cases c;have p:=aev l (da:=e::da) (g0 f) (λb a c=>H (b+1) a (oU b) c) λh c=>k h (.tail _ c);show bM (C.bR aa++((if C.b0 then []else [dO C.ci b])++hK aa (e::da) ks))<=bM (C.bR aa)+(e::da).length*(g+Q);have i:=l C b rfl;refine la<|>la<|>?_;exact bP 0xa9a3d0246e2872a0 @p @i
    |succ j=>have d:=d (ks:=ks) (j:=j) c (λb a r q=>H (b+1) a (λn=>r<|g0 n) q) (g0 f) λh c=>k h (.tail _ c);have o:=H 0 a (oU j).symm rfl;have i:=l a b (k a<|.head _);show bM (a.bR aa++((if a.b0 then []else [dO a.ci b])++hK aa (e::da) ks))<=bM (C.bR aa)+(da.length+1)*(g+Q);have d:_<=bM (C.bR aa)+da.length*(g+Q):=d;exact la<|>la<|>w4<|>fJ 0x5b87d44ad6dae9ef9dfb1392 @o @i d
theorem Ut (b:aa=64\/aa=128)(t:h.fM aa)(x:h.b0=k)(a:bM (h.bR aa)<=g)(j:g<=aa-cm k+jW aa k+2*(aa-cm k+mH k))(m:kn ((h.bR aa).map ab) (aa-cm k) (cK !k) M):s4 k aa g M.length:=by
 have a:((h.bR aa).map ab).sum<=g:=a;unfold s4;induction k with
 |true=>
  refine if_pos rfl<|>?_;have s:aa-cm ag+1=aa-7:=by show aa-8+1=_;exact bo (aj 0x363a4c70e030efa aw<|ay<|ai 183895740<|ed b) (aj 0xf7f1eafbdb286e2 aw<|ay<|ai 1932428988<|ed b)
  have z:cm ag=8:=rfl;have f:jW aa ag=aa-23:=rfl;have C:mH ag=0:=rfl;have A:∀q∈(h.bR aa).map ab,q<=aa-23:=by
   intro q n;induction h with
   |dd _ _=>cases x
   |cJ E=>refine aU (eS.mp n) λF o i=>?_;subst i;refine aU (eS.mp o) λc y i=>?_;clear o n;subst i;exact Cx b (t c y)
  have:=kn.cJ m A;rw[s]at this;refine⟨?_,ba this.1 a,λd=>ba (this.2 d)<|rK a _⟩;have e:=ba this.1 (ba a j);rw[z,f,C]at e;refine eT λd=>?_;have:4<=M.length/2:=ac 0xd326b775619c0c3 d (sL<|~~~_);have:=ba (oR (aa-7) this) @e;rcases b with rfl|rfl<;>exact absurd this (~~~_)
 |false=>
  refine if_neg (~~~_)<|>?_;have l:aa-cm ap+1=aa-11:=by show aa-12+1=_;exact bo (aj 0x6c749535d295a332 aw<|ay<|ai 3268114108<|ed b) (aj 0x1efe3d7663dc812a0 aw<|ay<|ai 3000977084<|ed b)
  have p:cm ap=12:=rfl;have f:jW aa ap=90:=rfl;have r:mH ap=15:=rfl;have:=kn.dd m;rw[l]at this;refine⟨?_,ba this a⟩;have e:=ba this (ba a j);rw[p,f,r]at e;refine eT λd=>?_;have:7<=M.length-1:=ac 0x70760fff44c3 d aw;have:=oR (aa-11) this;exact py 0x345d0ff7d8733725ba141ff8d608b2fffeb2da1064f55b929d8ff8dd4b37be65d4d2c565f28aa47c7ee4a0add55e9c8a8fbb1ec292c0afafa1114e58219d00ef984d (ed b) a j l p f r ‹_› this aw
end
theorem KW {c i b:Nat}(e:iI E c i=b):E.take i++([]++tT b (E.drop i))=E/\D1 b c (E.drop i)=c:=by
 subst e;unfold iI;have a:=j1 i E;cases d:E.drop i with
 |nil=>rw[d]at a;exact⟨a,rfl⟩|cons x f=>rw[d]at a;exact⟨a,rfl⟩
theorem afl {b j:Nat}:D1 (iO M) b (E.drop j)=lb E b j M:=by
 unfold lb;cases a:E.drop j with
 |nil=>exact(if_neg<|kO.mpr<|Pd.mp a).symm|cons x d=>exact(if_pos (iC λc=>by rw[oK c]at a;cases a)).symm
def nX (c:Nat)(d:List aO)(e:Nat)(C:bl)(b:Nat)(a:bl):Prop:=if b=e then a=C else f6 c d b a
def qR (b:Nat)(e:List aO)(f i:Nat)(C:bl)(d:Nat)(g:List aV)(h:List Nat):Prop:=∃a c,nX b e i C d a/\fI b e f a g c/\h=d::c
structure BF (a:Nat) (c:List aO) (b k o first j:Nat) (d:List dU) (C l:bl) (q:List bl) (m:List aV) (n:List Nat) (f e g:List aV) (i h or p:List Nat):Prop where
 WJ:i2 (qR a c b k C) (d.take first) f i
 bD:ko (qR a c b k C) o (d.drop j) g or
 rx:fI a c b l e h
 wm:e4 m (f++(e++g))
 wh:n.Perm (i++((p++h)++or))
theorem adM {c f h e first j:Nat}{C:bl}(R:∀x∈E,k2 x)(S:first<=j)(z:j<=E.length)(b9:dR (qR c o f h C) E e s M):∀⦃t:Prop⦄,(∀a d n m p g r or,BF c o f h e first j E C d a s M n m p g r or (((E.take j).drop first).map (·.1)++[iI E e j])->a.length=j-first+1->(∀(k F:Nat) (b:bl),(((E.take j).drop first).map (·.1)++[iI E e j])[k]?=J F->a[k]?=J b->nX c o h C F b)->(∀b∈a,∃l q,fI c o f b l q)->hK c a (((E.take j).drop first).map (·.2))=d.bR c->(∀b,a.getLast?=J b->b.ci=d.ci)->t)->t:=by refine dR.MV S z b9 λn g l q p or N i P G H=>?_;have i:dR (qR c o f h C) ((E.take j).drop first) (iI E e j) l q:=i;refine dR.Wz i λa r T b8 y a8=>?_;refine gn.Xe (λk A=>by refine aU (eS.mp A) λx W K=>?_;clear A;subst K;exact(R x<|lj<|li W).2) y λd m b' Q a' a9=>?_;refineλc8 Z=>Z a d n m p g r or ⟨N,P,b',G▸a9.sO,H▸(a8.append_right or).append_left g⟩ (?_) b8 y.RK Q a';exact T<|>gB<|>e1<|>gZ z<|>rfl
theorem Yu {b j f:Nat}(d:(((E.take j).drop b).map (·.2))[f]?=J m):∃c,E[b+f]?=J (c,m):=by rw[cv,nI]at d;refine aU (fw.mp d) λx a g=>?_;subst g;have e:=(dv.mp a).1;rw[e1]at e;rw[rG (~~~az 0x9e7583d25b11 e (fG _ _))]at a;exact⟨x.1,a⟩
theorem Zd (d:g=64\/g=128)(l:h.fM g)(f:h.b0=p9):∀e∈h.bR g,ab e<=g-cm p9:=λe a=>by
 induction h with
 |cJ j=>subst f;refine aU (eS.mp a) λc i b=>?_;clear a;subst b;have:=Cx d (l c i);show _<=g-8;exact az 0x1a44281917360c0624 this aw (ay<|ai 14755006140<|ed d)|dd j e=>subst f;refine aU (eS.mp a) λc i b=>?_;clear a;subst b;have:=(Cw (c:=c.1) (k:=c.2)).2;show ab (dO c.1 c.2)<=g-12;exact aj 0x312986a7d0e4f82698 (ed d) this aw
theorem ae1:bM ((tT g E).map cH)=bM (E.map cH):=by
 induction E using cj with
 |nil=>rfl|cons x E=>show ab (dO g x.2)+bM (E.map cH)=ab (dO x.1 x.2)+bM (E.map cH);unfold ab dO;rw[a2,a2,cC,cC]
theorem Of {bZ:List dU}{f j:Nat}{cR:List Nat}{ks:List Int}(a:f<=j):bM ((iz bZ f j cR ks).map cH)<=bM ((bZ.take f).map cH)+bM ((bZ.drop j).map cH)+15*ks.length/\bM ((bZ.take f).map cH)+bM ((bZ.drop j).map cH)<=bM (bZ.map cH):=by
 have b:=(@EE<|jE cR ks).2;have c:(jE cR ks).length<=ks.length:=by rw[Fs];exact rS _ _
 constructor
 ·unfold iz;rw[cD,cD,la,la,ae1];exact bP 0x46c947e81db26caa234ac50 b c
 ·conv=>rhs;rw[<-j1 f bZ]
  refine cD<|>la<|>jc ?_ _;have:bZ.drop j=(bZ.drop f).drop (j-f):=by refine Pc<|>?_;congr 1;exact bo (aj 14412402004 aw) (aj 24690248718<|ay<|ac 354984 a)
  refine this<|>?_;conv=>rhs;rw[<-j1 (j-f) (bZ.drop f)]
  exact cD<|>la<|>mP _ _
section
variable {aa bz h i fH bf:Nat}{b:Bool}{bv:List aO}{eK R o hE or:List Nat}{bZ:List dU}{C:bl}{m o5 o6:List aV}
theorem nX.mE (h:nX aa bv bf C g v9)(a:g≠bf):f6 aa bv g v9:=by unfold nX at h;rw[if_neg a]at h;exact h
theorem i2.C2 (d:i2 (fS aa bv h) bZ o5 hE)(f:bf∉hE):i2 (qR aa bv h bf C) bZ o5 hE:=d.bb λx m o e c=>em c λb g i j a=>⟨b,g,by unfold nX;exact if_neg (by rintro rfl;exact f<|e _<|a▸.head _)<|>i,j,a⟩
theorem ko.C2 (d:ko (fS aa bv h) fH bZ o6 or)(f:bf∉or):ko (qR aa bv h bf C) fH bZ o6 or:=d.bb λx m o e c=>em c λb g i j a=>⟨b,g,by unfold nX;exact if_neg (by rintro rfl;exact f<|e _<|a▸.head _)<|>i,j,a⟩
theorem NG (p:d3 aa bz bv eK (R++(hE++((bf::o)++or))))(i9:bz∈R)(o9:bv.length+20<=90000)(i8:∀x∈bZ,k2 x)(n9:bZ.length<=60)(b':i<=bZ.length)(c8:iI bZ fH i=bf)(l':i2 (fS aa bv h) (bZ.take i) o5 hE)(m8:ko (fS aa bv h) fH (bZ.drop i) o6 or)(a8:fI aa bv h C m o)(P:C.b0=b)(h':bM (C.bR aa)<=aa-cm b+jW aa b):∀⦃f8:Prop⦄,(∀first t g q ks r c' c9 d8 G F H,x4 aa bv b bZ fH i first t g q ks r->pt aa bv eK g->q[i-first]?=J C->BF aa bv h bf fH first (first+t-1) bZ C r q (o5++(m++o6)) (hE++((bf::o)++or)) c' c9 d8 G F H g->(∀z,kn ((r.bR aa).map ab) (aa-cm b) (cK !b) z->s4 b aa (bM (C.bR aa)+min bZ.length 2*(aa-cm b+mH b)) z.length)->f8)->f8:=by
 refine aW (show∃x,oF (bZ.length+1) i=x from⟨_,rfl⟩) λd' Q=>?_;obtain⟨first,t⟩:=d';have d:=rA Q (hU _) (oQ b');refine aW (show∃j,first+t=j+1 from⟨first+t-1,by exact bo (aj 0x8f3465c3b1da0 aw)<|aj 736905156716682<|ay<|aj 25804242465 d.2.1⟩) λj l=>?_;have l9:first+t-1=j:=bo (az 0x442c10634695f3f2 l<|ay<|aj 25804242465 d.2.1) (az 0x60515aff1fccc6f3 l aw)
 have d9:=(fm.mp p.bd).1;have W:=(fm.mp d9).2.1;have j':bf∉hE:=λk=>(fm.mp W).2.2 bf k bf (dJ _<|.head _) rfl;have k8:bf∉or:=λk=>(fm.mp (fm.mp W).2.1).2.2 bf (.head _) bf k rfl;refine bW (KW c8) λg8 g9=>?_;have g':=dR.CQ (n:=bf) (l'.C2 (C:=C) j') (uL:=[]) (m:=m) (o:=bf::o) ⟨C,o,by unfold nX;exact if_pos rfl<|>rfl,a8,rfl⟩ (m8.C2 k8);rw[g8,g9]at g';refine adM i8 (j:=j) (first:=first) (~~~az 0x507ffb398286a760c d.1 d.2.1 l) (~~~az 0x444066558740b970 d.2.2.1 l) g' λq r c' c9 d8 G F H y A e8 all h8 p9=>?_;generalize j9:((bZ.take j).drop first).map (·.1)++[iI bZ fH j]=g at*;have k':g=((bZ.map (·.1)++[fH]).take<|first+t).drop first:=l<|>Cr (~~~az 0x507ffb398286a760c d.1 d.2.1 l) (~~~az 0x444066558740b970 d.2.2.1 l)<|>j9<|>rfl
 have o8:g.length=j-first+1:=by refine aY (j9 ..)<|a2<|>ax<|>gB<|>e1<|>gZ (~~~az 0x444066558740b970 d.2.2.1 l)<|>?_;rfl
 have M:q.length=t:=bo (bP 0x469a3e8ecb3ef1146df l A<|ay<|az 0x507ffb398286a760c d.1 d.2.1 l) (bP 0xb0f6875e0a550ec8ad4 l A aw);have o':(G++((g++F)++H)).Nodup:=y.wh.nodup_iff.mp W;have p8:g.Nodup:=(fm.mp (fm.mp (fm.mp o').2.1).1).1;have e9:∀e∈g,e∈hE++((bf::o)++or):=λe k=>y.wh.mem_iff.mpr (cP _<|dJ _<|dJ _ k);have j8:g[i-first]?=J bf:=V (k' ..)<|V (nI ..)<|V (rG (~~~az 0x3f429df30dd15c29 d.2.1 (ay<|ac 354984 d.1)) ..)<|V (show first+(i-first)=i by exact bo (aj 24690248718<|ay<|ac 354984 d.1)<|aj 14412402004 aw)<|IP b'<|>c8<|>rfl;have b8:q[i-first]?=J C:=by refine aW (show∃a,q[i-first]?=J a from⟨_,du<|~~~bP 0xf430454b9edd0fb d.2.1 M (ay<|ac 354984 d.1)⟩) λa f=>?_;have:=e8 (i-first) bf a j8 f;unfold nX at this;rw[if_pos rfl]at this;exact f<|>this<|>rfl
 have S:∀a∈q,a.b0=b/\a.fM aa:=λa f=>by exact fZ (all a f) λq8 q9 k9=>⟨k9.ee.trans<|a8.ee.symm.trans P,k9.fM⟩
 have b9:r.b0=b:=y.rx.ee.trans (a8.ee.symm.trans P);have hf:∀e∈g,2<=e/\e<=bv.length:=λe k=>by refine p.hf (dJ _<|cP _<|e9 e k) λK=>?_;clear p;subst K;exact(fm.mp d9).2.2 _ i9 _ (e9 _ k) rfl
 have a':∀(k:Nat) (a:bl),k≠i-first->q[k]?=J a->(∃e,g[k]?=J e/\f6 aa bv e a)/\bM (a.bR aa)<=aa-cm b:=λk a s f=>by
  refine aW (show∃e,g[k]?=J e from⟨_,du<|~~~az 0x4e13c07b4a1d06a A o8 ((dv.mp f).1)⟩) λe E=>?_;have n':e≠bf:=by clear p c8 d9 W j' k8 g8 g9 y e8 e9;rintro rfl;exact s (Ms p8 E j8)
  have Z:=(e8 k e a E f).mE n';refine⟨⟨e,E,Z⟩,?_⟩;have f':=Z.iL;rw[yz (hf e<|dT E).1,(S a<|dT f).1]at f';exact az 0x7ade2ed783a748 f' aw
 have m9:bM (r.bR aa)<=bM (C.bR aa)+(q.length-1)*(aa-cm b+mH b):=by
  refine aY (h8 ..)<|aez (λa k K=>?_) b8 (λk a s f=>(a' k a s f).2) (by exact ax<|>gB<|>e1<|>gZ (~~~az 0x444066558740b970 d.2.2.1 l)<|>A) λa f=>(S a f).1.trans P.symm;refine K<|>P<|>?_;induction b with
  |true=>exact dB _|false=>have:=(Cw (c:=a.ci) (k:=k)).2;show ab _+0<=15;exact ai 169516356086 this
 have m':bM (r.bR aa)<=bM (C.bR aa)+min bZ.length 2*(aa-cm b+mH b):=by refine ba m9 (jc (oR _ ?_) _);exact M<|>Nat.le_min.mpr ⟨A1<|ba (mP _ _) d.2.2.1,A1 d.2.2.2.2⟩
 have n8:bM (C.bR aa)+min bZ.length 2*(aa-cm b+mH b)<=aa-cm b+jW aa b+2*(aa-cm b+mH b):=by have:=oR (aa-cm b+mH b) (rS bZ.length 2);exact bP 0x33709e13547b96b58c1668ac4 h' this
 have f9:∀z,kn ((r.bR aa).map ab) (aa-cm b) (cK !b) z->s4 b aa (bM (C.bR aa)+min bZ.length 2*(aa-cm b+mH b)) z.length:=λz a9=>Ut p.eO y.rx.fM b9 m' n8 a9;refineλp' T=>T first t g q (((bZ.take j).drop first).map (·.2)) r c' c9 d8 G F H ⟨i8,n9,b',Q,k',M,ax<|>gB<|>e1<|>gZ (~~~az 0x444066558740b970 d.2.2.1 l)<|>bo (aj 0xbbcaf34e3196 A M) (aj 74085679471625 A M),λa8 k h=>Yu h,λk e a s E f=>?_,λa f=>⟨(S a f).1,(S a f).2,?_⟩,h8,b9,y.rx.fM,p9,λz a9=>ba (f9 z a9).1<|~~~_,Zd p.eO y.rx.fM b9⟩ ⟨p.eO,p.eQ,?_,λe Q=>?_,o9⟩ b8 (by exact l9<|>y) f9
 ·clear T;refine bW (a' k a (by exactλl8=>(fo s).elim (λe'=>az 0xb79c49596814d5b0b4940ba55858fa11677 l8 e' aw) λe'=>az 0xb7bfa29f7740a1c86be1eba55858fa11669 l8 e'<|ay<|ac 354984 d.1) f) λd' p'=>?_;obtain⟨q',i',Z⟩:=d';rw[E]at i';cases i';exact Z.tF
 ·clear T;refine aW (p6 f) λk s=>?_;have h9:=@EF (a.bR aa);have N:=p.eO;by_cases c:k=i-first
  ·subst c;rw[b8]at s;cases s;have:jW aa b<=105:=by unfold jW;split<;>(first|exact ac 0x3a48ed7fea27a78 (co N) (ay<|ai 14755006140<|ed N)|exact g7 311260622)
   exact bP 0x1a501fd95027e8808475289016458 h' (co N) @h9 this (bL _ _)
  ·have:=(a' k a c s).2;exact az 0x48e099cd9b789cd23dbec @h9 (co N) this (bL _ _)
 ·have:(g++eK).Sublist ((R++(G++((g++F)++H)))++eK):=((((PH g F).trans<|PH _ H).trans<|PI G _).trans<|PI R _).append_right eK;exact((y.wh.append_left R).append_right eK).nodup_iff.mp p.bd|>.sublist this
 ·clear T;rcases hi.mp Q with k|k
  ·exact hf e k
  ·refine p.hf (cP _ k) λK=>?_;subst K;exact(fm.mp p.bd).2.2 _ (dJ _ i9) _ k rfl
end
section
variable {aa bz h i fH bf first j:Nat}{b:Bool}{bv dY:List aO}{eK qw kS cR R fW o2 hE or:List Nat}{bZ:List dU}{C G:bl}{da:List bl}{e2 o5 m o6:List aV}{E:List Nat}
theorem d3.d7 {b:Nat}(f:d3 aa bz bv eK fW)(z:fW.Perm (R++kS))(m:bz∈R)(k:(cR++qw).Perm ((kS++eK)++uk (bv.length+1) b))(i:o2.Perm (R++cR))(t:dY.length=bv.length+b)(A:∀x∈dY,x.length=aa):d3 aa bz dY qw o2/\(∀d∈R,d∉cR/\1<=d/\d<=bv.length):=by
 have o:(fW++eK).Perm (R++(kS++eK)):=aY (bN ..)<|z.append_right eK;have n:(o2++qw).Perm ((R++(kS++eK))++uk (bv.length+1) b):=by have:=i.append_right qw;rw[bN]at this;exact bN<|>this.trans (k.append_left R)
 have E:=o.nodup_iff.mp f.bd;have g:∀e∈R++(kS++eK),bz<=e/\e<=bv.length:=λe b=>f.gz e (o.mem_iff.mpr b);have p:=f.ci;have h:((R++(kS++eK))++uk (bv.length+1) b).Nodup:=fm.mpr ⟨E,PB,λa r c s=>by have:=(g a r).2;have:=(wS.mp s).1;exactλF=>aj 0x84a2e32b402aed37c460e531acfa1164d ‹_› this F⟩;refine⟨⟨f.eO,A,n.nodup_iff.mpr h,λe C=>?_,p,i.mem_iff.mpr<|dJ _ m⟩,λd l=>⟨λy=>?_,?_⟩⟩
 ·refine t<|>?_;rcases hi.mp (n.mem_iff.mp C)with q|q
  ·have:=g e q;exact⟨ac 354984 this.1,aj 152455758 this.2⟩
  ·have j:=wS.mp q;exact⟨ba (g bz<|dJ _ m).2<|ba (kN _) j.1,lT<|up j.2<|oP bv.length 1 b⟩
 ·rw[bN]at h;exact(fm.mp h).2.2 d l d (k.mem_iff.mp<|dJ _ y) rfl
 ·have:=g d<|dJ _ l;exact⟨ac 1057045332 (pg p) this.1,ac 354984 this.2⟩
theorem aeh (f:G.fM aa):∀g∈ix G E,iM g:=λg a=>by
 induction G with
 |cJ e=>
  refine aU (eS.mp a) λb h d=>?_;clear a;subst d;refine ig<|>?_;cases c:e[b-1]? with
  |none=>exact⟨by decide,by decide⟩|some x=>exact(f x<|dT c).bI
 |dd e i=>refine aU (eS.mp a) λb h d=>?_;clear a;subst d;exact(DM f.1 b).2
theorem afp (e:∀x∈bZ,k2 x)(h:∀m∈ix G E,iM m)(g:∀n∈cR,n<4294967296)(l:cR≠[]):∀x∈iz bZ first j cR (ix G E),k2 x:=λx b=>by
 have k:iO cR<4294967296:=aW (zd l) λp f=>g _ (by exact f<|>cP _ (by exact aY (f ..)<|.head _));rcases hi.mp b with b|b
 ·exact e x (lj b)
 rcases hi.mp b with b|b
 ·obtain⟨a,c⟩:=x;have:=wT b;exact⟨g a this.1,h c this.2⟩
 ·cases d:bZ.drop j with
  |nil=>rw[d]at b;cases b
  |cons y o=>
   rw[d]at b;rcases dE.mp b with rfl|b
   ·exact⟨k,(e y<|li (i:=j)<|by exact d<|>.head _).2⟩
   ·exact e x (li (i:=j)<|by exact d<|>.tail _ b)
theorem NH (c:d3 aa bz bv eK (R++M))(H:bz∈R)(l9:bv.length+20<=90000)(i8:∀x∈bZ,k2 x)(j':fH<4294967296)(o8:first<=j)(g:BF aa bv h bf fH first j bZ C G da e2 M o5 m o6 hE a8 or kS)(F:bf∈kS)(b':G.b0=b)(p:x5 aa b bv eK kS G E dY qw cR):∀⦃S:Prop⦄,(∀d8 o2,fI aa dY (h+1) (.dd (iz bZ first j cR (ix G E))<|lb bZ fH j cR) d8 o2->e4 e2 d8->d3 aa bz dY qw (R++o2)->(∀a∈R,dY[a-1]?=bv[a-1]?)->S)->S:=by
 refine aU p.mv λo9 m' l=>?_;obtain⟨i,rfl,d⟩:=m';have h':E≠[]:=by clear l;rintro rfl;exact p.yN.1.elim
 have c':cR≠[]:=by clear d l;rintro rfl;exact h' (AL.mp p.Mp.symm)
 have P:dY.length=bv.length+i:=l.aH<|>a2<|>hh<|>rfl;refine g.rx.aeg (E:=E) (room:=aa-cm b) (by exact b'<|>p.yN.1) λl' f9 n8=>?_;have t:(R++M).Perm ((R++(hE++(a8++or)))++kS):=by refine bN<|>bN<|>(g.wh.trans ?_).append_left R;exact bN kS<|>qb.append_left hE
 have c9:∀n∈cR,2<=n/\n<=dY.length:=by
  have N:d3 aa bz bv eK ((R++(hE++(a8++or)))++kS):=⟨c.eO,c.eQ,(t.append_right eK).nodup_iff.mp c.bd,λdy k9=>c.gz dy<|(t.append_right eK).mem_iff.mpr k9,c.ci,t.mem_iff.mp c.fP⟩;have e':=N.bd;rw[bN]at e';intro n r;refine P<|>?_;rcases hi.mp (d.mem_iff.mp<|dJ _ r)with q|q
  ·have i':n≠bz:=by clear c N;rintro rfl;exact(fm.mp e').2.2 _ (dJ _ H) _ q rfl
   have:=N.hf (dy:=n) (by exact bN<|>cP _ q) i';exact⟨ai 155932 this.1,aj 152455758 this.2⟩
  ·have a':=wS.mp q;exact⟨ba (jd<|ba c.wi (c.gz bz<|dJ _<|dJ _ H).2) a'.1,lT<|up a'.2<|oP bv.length 1 i⟩
 have d9:=@d3.d7 aa bz bv dY eK qw kS cR (R++(hE++(a8++or))) (R++M);have y:∀a∈R++(hE++(a8++or)),dY[a-1]?=bv[a-1]?:=λa j8=>by exact gR ((d9 (o2:=(R++(hE++(a8++or)))++cR) c t (dJ _ H) d (iX _) P l.eQ).2 a j8) λh8 a9 h9=>V (l.fg (a-1) λi n9 f=>h8 (by rw[show a=a-1+1 by exact bo (ac 42823471152 aw) (ac 10545038814<|ay<|ai 132202 @a9)];exact dT f) ..)<|oM (~~~aj 207226100718 @h9 (ay<|ai 132202 @a9))<|>rfl
 have f':gn (fI aa dY h) (hQ G E) (ix G E) l' a8:=f9.bb λC m K q e=>e.h3 λa j9=>y a (cP _<|cP _<|dJ _<|q a j9);have k8:cR.length=(hQ G E).length:=Ep<|>p.Mp;refine f'.W7 k8 (λi n s r A=>by have c8:=c9 n (dT r);refine aU (l.rB i n s (dv.mp A).1 r A) λn' i9 T=>?_;have b8:=NV (dT A);rw[b']at b8;subst b8;rw[<-yz c8.1]at T;exact T.mE (~~~ai 132216 c8.1) i9<|Eo g.rx.fM<|dT A) λm8 g' m9=>?_;have f8:=g.wh.nodup_iff.mp (fm.mp<|(fm.mp c.bd).1).2.1;have d':bf∉hE:=λi=>(fm.mp f8).2.2 bf i bf (dJ _<|dJ _ F) rfl;have e8:bf∉or:=λi=>(fm.mp (fm.mp f8).2.1).2.2 bf (dJ _ F) bf i rfl;have z:∀(x:Nat) (o:List aV) (k:List Nat),x≠bf->(∀a∈k,dY[a-1]?=bv[a-1]?)->qR aa bv h bf C x o k->fS aa dY h x o k:=λx o k k' b9 Z=>em Z λs K Q e f=>by clear Z;subst f;exact⟨s,K,(Q.mE k').h3<|b9 x<|.head _,e.h3 λa d=>b9 a<|.tail _ d,rfl⟩
 have g8:i2 (fS aa dY h) (bZ.take first) o5 hE:=g.WJ.bb λx o k q e=>z x o k (by clear g F e8 z;rintro rfl;exact em e λs K Q e f=>d'<|q x<|f▸.head _) (λa d=>y a<|cP _<|dJ _<|q a d) e;have g9:ko (fS aa dY h) fH (bZ.drop j) o6 or:=g.bD.bb λx o k q e=>z x o k (by clear g F d' z;rintro rfl;exact em e λs K Q e f=>e8<|q x<|f▸.head _) (λa d=>y a<|cP _<|cP _<|cP _<|q a d) e;have W:=dR.CQ (n:=iO cR) g8 g' g9;rw[afl]at W;have e9:∀n∈cR,n<4294967296:=λn r=>eo (c9 n r).2 (eo p.aH<|eo (jc (by decide:9<=20) _)<|eo l9<|~~~_);refineλn9 l8=>l8 _ _ ⟨⟨afp i8 (aeh g.rx.fM) e9 c',?_⟩,W⟩ (g.wm.ak n8.sO) (?_) (λa d=>y a<|dJ _ d)
 ·unfold lb;split
  ·exact j'
  ·exact aW (zd c') λo' f=>e9 _ (by exact f<|>cP _ (by exact aY (f ..)<|.head _))
 ·refine(d9 (o2:=R++(hE++(m8++or))) c t (dJ _ H) d ?_ P l.eQ).1;refine bN<|>bN<|>((((m9.append_right or).append_left hE).trans ?_).append_left R);exact bN cR<|>qb.append_left hE
end
theorem d3.iS (a:d3 g Q o M a8)(b:(b8++j).Perm (a8++M))(c:Q∈b8):d3 g Q o j b8:=⟨a.eO,a.eQ,b.nodup_iff.mpr a.bd,λe d=>a.gz e<|b.mem_iff.mp d,a.ci,c⟩
theorem d3.oz {b c p:Nat}(a:d3 b c o M j)(e:j9.length=b):d3 b c (o.set p j9) M j:=⟨a.eO,λx f=>(Fw f).elim (a.eQ x)<|λd=>d▸e,a.bd,λh g=>by exact nJ<|>a.gz h g,a.ci,a.fP⟩
def no (d e:Nat)(c:w)(b:Nat)(v:O)(C:bl):Prop:=∃a,v=eg (dq C.b0) a C.ci/\¬(a=d\/a=e)/\c.U a=J (bh<|C.bR b)
theorem no.vM {v:O}{C:bl}(b:no g Q W l v C)(e:ec g Q W A):no g Q A l v C:=eP b λa d c b=>⟨a,d,c,e.U _ _ c b⟩
theorem no.yB {v:O}{C:bl}(b:no g Q W l v C):lH W l v C:=eP b λa c d b=>⟨a,c,b⟩
theorem zT (a:bM o<=1000):o.length<=1000:=by have:=@EF o;exact ac 0x27ac53897fa20dfcc6f8 a this
def po (q:aJ):Prop:=∀{e:w} {k:O->w->Prop} {a b c d r h:Nat} {f:List aO} {j n:List Nat} {C:bl} {m:List aV} {v:O},bO e c d f j->d3 a b f j (b::n)->fI a f h C m n->bT b+cm C.b0+bM (C.bR a)<=a->no c d e a v C->j.length+h<=99990->(∀i l g p o,l<=h->fS a g l b m o->d3 a b g p o->bO i c d g p->ec c d e i->g.length=f.length->k .bE i)->q 36 [bS a c d r,ae b,v] e k
section
variable {F N:aJ}{aa bz aZ a0 cE:Nat}
theorem Oq (P:ku F){j i i1 l:List Nat}{C:bl}{v:O}(H:bO W aZ a0 o j)(c:d3 aa bz o j l)(p:l.Perm (g::(i++i1)))(G:fI aa o Q C s i)(T:bT g+cm C.b0+bM (C.bR aa)<=aa)(A:lH W aa v C)(q:∀f h,fS aa h Q g s (g::i)->d3 aa bz h j l->bO f aZ a0 h j->ec aZ a0 W f->h.length=o.length->(∀b,b≠g->1<=b->h[b-1]?=o[b-1]?)->S .bE f):F 24 [eG aa aZ a0,ae g,v] W S:=by
 refine aU A λa m R=>?_;clear A;subst m;have r:=c.gz g (dJ _<|p.mem_iff.mpr<|.head _);have t:=c.ci;refine aW (show∃b,g=b+1 from⟨g-1,by exact bo (ac 42823471152 aw)<|ac 10545038814<|ay<|ac 1056876072 r.1<|pg t⟩) λb m=>?_;subst m;have z:=co c.eO;have n:=G.fM;refine P H r.2 c.eQ (~~~ai 21433431740 (ed c.eO)) z R (n.aH z) n.ci T λf M x K N=>?_;have Z:=p.nodup_iff.mp (fm.mp c.bd).1;have E:∀q,q≠b+1->1<=q->(o.set b M)[q-1]?=o[q-1]?:=λq e y=>p7 (by exactλk=>t.elim (λa8=>(fo e).elim (λd=>aj 0x57d7a2b86af01268e318d4e6141bfa11669 k d<|ay<|ai 132202 @y) λd=>aj 0x5a5cf850e7556dfae43624e6141bfa11677 k d aw) λa8=>(fo e).elim (λd=>aj 0x57d7a2b86af01268e318d4e6141bfa11669 k d<|ay<|ai 132202 @y) λd=>aj 0x5a5cf850e7556dfae43624e6141bfa11677 k d aw);refine q f _ ⟨C,i,x.mE (~~~ai 93402) (rF r.2) n,G.h3 λq e=>E q ?_ ?_,rfl⟩ (c.oz x.cu.aH) K N nJ E
 ·rintro rfl;exact(iY.mp Z).1 (dJ _ e)
 ·have:=c.gz q<|dJ _<|p.mem_iff.mpr<|.tail _<|dJ _ e;exact ac 1057045332 (pg t) this.1
theorem aen (f':im F)(m':m5 F)(n8:l7 F)(n9:ku F)(m9:pl F)(q:∀i f9 G i9 i8,f9<=g->fS aa G f9 bz s i8->d3 aa bz G i9 i8->bO i aZ a0 G i9->ec aZ a0 W i->G.length=Q->S .bE i):∀(h:Nat) (b:w) (e:List aO) (d k:List Nat) (C:bl) (v:O) (d' e8:Option O),h<=g->bO b aZ a0 e d->d3 aa bz e d (bz::k)->fI aa e h C s k->bT bz+cm C.b0+bM (C.bR aa)<=aa->no aZ a0 b aa v C->d.length+h<=99990->ec aZ a0 W b->e.length=Q->hR (λe9 b j=>ao (bn F N) (match yu with|.Y (.iA c _) _=>c|_=>.ab .bE) e9 b<|el j) (a6 (bn F N) yu.as) (h+1) [J (bS aa aZ a0 cE),J (ae bz),J v,d',e8,D] b (h6 (bn F N) yu.aP<|dI S):=by
 have j8:∀(h:Nat) (b z:w) (e:List aO) (d k:List Nat) (C:bl) (v:O) {b8:O->w->Prop},h<=g->bO b aZ a0 e d->d3 aa bz e d (bz::k)->fI aa e h C s k->bT bz+cm C.b0+bM (C.bR aa)<=aa->no aZ a0 b aa v C->ec aZ a0 W b->e.length=Q->b.ar z->(∀i,S .bE i->b8 .bE i)->F 24 [eG aa aZ a0,ae bz,v] z b8:=λh b z e d k C v b8 t o f n A m r y l j=>Oq (i1:=[]) @n9 (o.ar l) f (by rw[dn]) n A (m.vM l.ds).yB λi G r8 k' j' l' o8 s'=>j i (q i h G d _ t r8 k' j' (r.ak<|l.ds.ak l')<|o8.trans y);intro h;induction h with
 |zero=>
  intro b e d k C v d' e8 t o f n A m c' r y;induction C with
  |dd _ _=>exact n.elim|cJ K=>
  have T:=@j8 0 b b e d k (.cJ K) v;have a8:=m;refine eP m λa M q9 c8=>?_;clear m;subst M;refine kB (f' ag ?_);refine cc (T t o f n A a8 r y .cf λi j=>?_);exact j
 |succ h p9=>
  intro b e d k C v d' e8 t o f n A m c' r y;induction C with
  |cJ _=>exact n.elim|dd K P=>
  have T:=λz=>@j8 (h+1) b z e d k (.dd K P) v;have a8:=m;refine eP m λa M q9 c8=>?_;subst M;refine kB (f' ap ?_);refine aC (ct<|dB _) λu p8=>?_;have a9:=dS (x:=[]) p8;have l8:(b.a1 u []).U u=J []:=cg;generalize b.a1 u []=z at*;refine av (a9.U _ _ c8) (av l8 ?_);induction K using cj with
  |cons x K=>refine cc (T z t o f n A a8 r y a9 λi j=>?_);exact j|nil=>
   refine ZF n λr9 H a' d9 i' l9=>?_;subst l9;have R:=o.ar a9;have h':=(fm.mp f.bd).1;have g9:P≠bz:=λp=>(iY.mp h').1 (by exact aY (p ..)<|.head _);have b':=f.hf (dy:=P) (dJ _<|.tail _<|.head _) g9;refine v1 d9.tF λm8 s8 n' j9=>aW (show∃E,P=E+1 from⟨P-1,by exact bo (ac 42823471152 aw)<|ac 10545038814<|ay<|ai 132216 b'.1⟩) λE M=>?_;clear c8 m n h' g9 m8;subst M;refine b3 ?_;intro t8 e9 r';refine aF (aF<|m' R n' j9 f.eO λb9 s9 Z e' h8=>?_);have k8:=R.ar h8;have o':bM (H.bR aa)<=1000:=by have:=f.eO;exact az 0x2cae524d6bea08d8 d9.iL (co this)
   have c9:=@og bz;have g8:=@tf H.b0;refine bx (n8 (bf:=bz) H.b0 e' (zT o') (by have:=f.eO;exact aj 0x6044258227da06a7638 c9 g8 (ed this)) λp' d8=>?_);have g':=a9.ak (h8.ak d8);have h9:¬(b9=aZ\/b9=a0):=λp=>p.elim (λp=>by rw[p,R.U]at Z;cases Z) (λp=>by rw[p,R.eX]at Z;cases Z);refine rd (λc=>?_) (λc=>?_)
   ·refine cl ?_;intro e9 r';refine cc (T p' t o f ⟨r9,H,a',d9,i',rfl⟩ A a8 r y g' λi j=>?_);exact bH j
   ·have o9:E+1∉d:=λj=>(fm.mp f.bd).2.2 _ (.tail _<|.head _) _ j rfl;refine bc (cc<|m9 (k8.ar d8) o9 b'.1 b'.2 (~~~ac 0x458d667da46a7c5e7ba5c c') λq8 k9 f8=>?_);refine aF<|p9 q8 e (d++[E+1]) a' H _ _ _ (rL t) k9 (f.iS ?_<|.head _) i' (by have:=f.eO;exact dN 0x2efa5663a6a47e58f4e0 c (ay<|az 0xbc2437ba0d0a65ae091d54 c9 g8 (ed this) aw)<|ay<|ac 750461077256184 c9 (ed this)) ⟨b9,rfl,h9,f8.U _ _ h9<|d8.U _ _ e'⟩ (by refine a2<|>?_;show d.length+1+h<=_;exact ac 0x1601a941815f2d9a7c5e7ba5c c') (r.ak<|g'.ds.ak f8) y;have q':(a'++(d++[E+1])).Perm (((E+1)::a')++d):=aY (bN ..)<|wV _ _;exact q'.cons bz
theorem abv (h:im F)(e:m5 F)(f:l7 F)(g:ku F)(d:pl F):po (bB F N):=λ{l r aa bz aZ a0 cE a n o m C s v} b c p i k j q=>bU Km [J (bS aa aZ a0 cE),J (ae bz),J v,D,D,D] rfl rfl (mG ⟨a+1,aen @h @e @f @g @d q a l n o m C v D D (cL _) b c p i k j .cf rfl⟩)
end
section
variable (aa:Nat)(bv:List aO)(bz H:Nat)
def jP:Nat->Nat->List (Nat×Nat)->List aV->List aV->List Nat->Prop
 |b,d,[],pre,post,c=>d=bz/\b=H/\pre=[]/\post=[]/\c=[]|b,d,x::l,pre,post,c=>∃a e f i g or k j h,f6 aa bv x.1 (.dd a e)/\x.2<=a.length/\iI a e x.2=d/\i2 (fS aa bv b) (a.take x.2) f i/\ko (fS aa bv b) e (a.drop x.2) g or/\jP (b+1) x.1 l k j h/\pre=k++f/\post=g++j/\c=x.1::(h++(i++or))
end
section
variable {aa:Nat}{bv dY:List aO}{bz H:Nat}
theorem jP.D2:∀{f d:Nat} {pre post:List aV} {c:List Nat},jP aa bv bz H f d e pre post c->bz∈d::c:=by
 induction e with
 |nil=>exactλ{f} {d} {pre} {post} {c} b=>by exact b.1<|>.head _
 |cons x e i=>
  exactλ{f} {d} {pre} {post} {c} h=>v6 h λj p k n l or q o m a a a a a u a a g=>by
   refine g<|>?_;have:=i u;refine .tail _ ?_;rcases dE.mp this with b|b
   ·exact b<|>.head _
   ·exact .tail _ (dJ _ b)
theorem jP.rc:∀{b d:Nat} {pre post:List aV} {c:List Nat},jP aa bv bz H b d e pre post c->b+e.length=H:=by
 induction e with
 |nil=>exactλ{b} {d} {pre} {post} {c} h=>h.2.1|cons x e g=>exactλ{b} {d} {pre} {post} {c} f=>v6 f λi p k n l or q o m a a a a a u a a j=>by have:=g u;exact fQ<|>bo (aj 894230246598642 this) (aj 0x8da965a6996f3 this)
theorem jP.h3:∀{g h:Nat} {pre post:List aV} {f:List Nat},(∀b∈f,dY[b-1]?=bv[b-1]?)->jP aa bv bz H g h e pre post f->jP aa dY bz H g h e pre post f:=by
 induction e with
 |nil=>exactλ{g} {h} {pre} {post} {f} P d=>d|cons x e r=>exactλ{g} {h} {pre} {post} {f} a k=>v6 k λm G t E z or K F C N i c l M u n o p=>by clear k;subst p;exact⟨m,G,t,E,z,or,K,F,C,N.h3<|a _<|.head _,i,c,l.bb λy s A q j=>j.h3 λb d=>a b<|.tail _<|cP _<|dJ _<|q b d,M.bb λy s A q j=>j.h3 λb d=>a b<|.tail _<|cP _<|cP _<|q b d,r (λb d=>a b<|.tail _<|dJ _ d) u,n,o,rfl⟩
theorem jP.IR:∀{g j:Nat} {pre post d:List aV} {p b:List Nat},jP aa bv bz H g j e pre post p->fS aa bv g j d b->∀⦃s:Prop⦄,(∀k,fS aa bv H bz (pre++(d++post)) k->k.Perm (b++p)->s)->s:=by
 induction e with
 |nil=>exactλ{g} {j} {pre} {post} {d} {p} {b} P r=>by obtain⟨rfl,rfl,rfl,rfl,rfl⟩:=P;exactλa9 q=>q b (by rw[dn];exact r) (by rw[dn])
 |cons x e N=>
  exactλ{g} {j} {pre} {post} {d} {p} {b} M r=>v6 M λA T Q f R or b8 a' h z i c l Z u C E F=>by
   obtain⟨G,K⟩:=KW c;have y:=dR.CQ (n:=j) l (uL:=[]) (m:=d) (o:=b) r Z;rw[G,K]at y;have a8:fS aa bv (g+1) x.1 (Q++(d++R)) (x.1::(f++(b++or))):=⟨.dd A T,_,z,⟨z.fM,y⟩,rfl⟩;refine N u a8 λk a S=>λa9 q=>q k (?_) (S.trans ?_)
   ·refine C<|>E<|>?_;simp-iota only[bN]at a⊢;exact a
   ·refine F<|>?_;have W:(x.1::(f++(b++or))++h).Perm (x.1::(b++(h++(f++or)))):=by refine oI _ ?_;have t:((f++(b++or))++h).Perm ((b++(f++or))++h):=(rI f b or).append_right h;rw[bN b]at t;exact t.trans (qb.append_left b)
    exact W.trans (rJ.symm)
end
theorem aaO {b:Nat}(d:g=64\/g=128)(o:Q=1\/Q=2)(a:l<=g-bT Q-cm k+jW g k)(n:k=ap->g-bT Q<=32->l<=90)(c:s4 k g l b):bT Q+12+15*(b-1)<=g:=by
 obtain⟨y,c⟩:=c;have r:Q=1->bT Q=32:=λh=>by refine h<|>?_;rfl
 have s:Q=2->bT Q=0:=λh=>by refine h<|>?_;rfl
 have j:bT Q=32\/bT Q=0:=o.imp r s;generalize bT Q=m at*;induction k with
 |true=>
  rw[if_pos rfl]at c;have a:l<=g-m-8+(g-23):=a;have f:b<=3:=eT λi=>by have:2<=b/2:=ac 0xbf1eccb5619be23 i (sL<|~~~_);have:=oR (g-7) this;exact fJ 0x7a59e8a1a6eb958de97b25f2500042c37987011e30e89a0f55460f7398585b7737198c72786e14e5afa1164d c.1 @a this aw (bL _ _) (ay (fJ 0xdbeba248cf7edc59ddc181684b90e5c07650 (ed d) c.1 @a this (bL _ _) (bL _ _) aw)) (ay<|ai 14755006140<|ed d)
  rcases rN b 3 with q|q
  ·exact ba (ul (rK (j.elim fv λh=>h▸dB 32) 12)<|rT 15<|A1<|lT q) (ba (by decide:32+12+15*1<=64)<|ed d)
  ·have:=c.2 q;rcases d with rfl|rfl<;>rcases j with rfl|rfl<;>(first|exact fJ 0x4ab90d45e717eb0a1a978e890119a440c5a2a2bbe916801b801d7e09b4dcb0e5dd5c3e0e0a8895681aabc906d602b2144603615904ce1f95c29f5d909 f this @a aw (ay<|g7 206589482) (ay<|ai 22799496416956 aw) (ay<|ai 4228714 q) (ay<|g7 206592982)|exact ac 0x6400a49cab04699b3add589 f (bL _ _)|exact ac 0x291fd11b404de594b3add589 f (bL _ _)|exact ac 0xa47f44d904699b3add589 f<|bL _ _)
 |false=>
  rw[if_neg (~~~_)]at c;have a:l<=g-m-12+90:=a;have n:=n rfl;have f:b<=3:=eT λi=>by have:3<=b-1:=ac 0x6503d2ff4223 i aw;have:=oR (g-11) this;exact dN 0xed4a3639146c329d2afb6e587788fc94f3c046dc2245074e8112a7cf12aba452ce2d75512f5ba5a00ef984d (ed d) c @a this (bL _ _) aw (bL _ _)
  have p:g=128\/m=32->b<=2:=λt=>eT λi=>by
   have:2<=b-1:=ac 160656652899 i aw;have:=oR (g-11) this;rcases t with rfl|rfl
   ·exact bP 0x6f7af5e22aa58ef1dc9cb664911523b2e2318adfdda16082efca859b3dec38b689fa1164d c @a this (bL _ _) aw (bL _ _)
   ·rcases d with rfl|rfl
    ·have:=n<|~~~_;exact aj 0x375a0bfa3f730338655a4f959c43c6a6c7467d3ce531acfa1164d c ‹_› this aw
    ·exact bP 0x6f7af5e22aa514e6f7a5f34c5a2db66fb40bc49be4a97c0114a92a5bdc7838b689fa1164d c this @a aw (bL _ _) (bL _ _)
  rcases d with rfl|rfl
  ·rcases j with rfl|rfl
   ·exact ba (jc (rT 15<|A1<|p<|.inr rfl) _) (by decide:32+12+15*1<=64)
   ·exact ac 0x6400a49cab04699b3add589 f (bL _ _)
  ·have:=p<|.inl rfl;exact o.elim (λx=>j.elim (λe=>aj 0x1cfbaae4af350041f7758d8389 this e<|bL _ _) λe=>aj 0x73eeab92bcd4010f1acc789 this e<|bL _ _) λx=>j.elim (λe=>aj 0x1cfbaae4af350041f7758d8389 this e<|bL _ _) λe=>aj 0x73eeab92bcd4010f1acc789 this e (bL _ _)
theorem d3.aH (a:d3 g Q o M j):j.length+M.length<=o.length+1:=by have:=O2 (l₂:=ih<|o.length+1) a.bd λx b=>ui.mpr (oQ (a.gz x b).2);rw[wR,a2]at this;exact this
theorem d3.pY (d:d3 g Q o M a8)(h:sJ g o M l q8 j):d3 g Q q8 j (a8++[l])/\∀b∈a8,q8[b-1]?=o[b-1]?:=by
 refine bW h.mv λk m=>?_;obtain⟨f,rfl,e⟩:=k;have a:∀b∈a8,(o++dK f (dK g 0))[b-1]?=o[b-1]?:=λb e=>by have c:=d.gz b (dJ _ e);rw[oM (ef (A2 (ba d.wi c.1) FE) c.2)]
 refine⟨(@d3.d7 g Q o _ M j [] [l] a8 a8 (a8++[l]) f d (by rw[dn]) d.fP e (iX _) (by exact a2<|>hh<|>rfl) λx i=>?_).1,a⟩;rcases hi.mp i with c|c
 ·exact d.eQ x c
 ·exact(PA.mp c).2<|>hh<|>rfl
structure kj (c f H g:Nat) (h:List aV) (a:List aO) (i:List Nat) (d:Nat) (e:List aV) (b:List Nat):Prop where
 Lo:d<=H+1
 jX:fS c a d f e b
 wm:e4 h e
 c2:d3 c f a i b
 hL:a.length<=g
section
variable {F N:aJ}{aa bz aZ a0 cE H eU:Nat}{dm:w}{Q:O->w->Prop}{se:List aV}
theorem Tq (q9:n4 F)(p':l7 F)(q8:pn F)(h':po F)(p9:lw F)(r8:kt N)(l:eU+20<=90000)(i8:H<=50){C:bl}{v:O}{x9 x' y8 y9:Option O}(K:bO W aZ a0 o M)(p:d3 aa bz o M (bz::a8))(l8:fI aa o H C s a8)(d8:no aZ a0 W aa v C)(b':bM (C.bR aa)<=aa-bT bz-cm C.b0+jW aa C.b0)(q':C.b0=ap->aa-bT bz<=32->bM (C.bR aa)<=90)(k':e4 se s)(e:o.length+10<=eU)(g':ec aZ a0 dm W)(q:∀g dY n r u' l',kj aa bz H eU se dY n r u' l'->bO g aZ a0 dY n->ec aZ a0 dm g->Q .bE g):a6 (bn F N) nf.aP.aP.aP.aP.aP [J (bS aa aZ a0 cE),z,x9,x',J (ae bz),J v,y8,y9,D,D,D] W (dI Q):=by
 have d:=p.eO;have i':=d8;refine eP d8 λa n' B' r9=>?_;clear d8;subst n';have R:=@og bz;have c9:=@tf C.b0;have u8:jW aa C.b0<=105:=by unfold jW;split<;>(first|exact ac 0x3a48ed7fea27a78 (co d) (ay<|ai 14755006140<|ed d)|exact g7 311260622)
 refine cl ?_;intro e' f8;refine bx (p' (bf:=bz) C.b0 r9 (zT<|~~~bP 0xb862bd9b6d1353bf242febfb8 b' (co d) u8 (bL _ _) (bL _ _)) (~~~aj 0x779a35f738a7ec3698 (ed d) R c9) λj9 m=>?_);refine eh (λc=>?_) (λc=>?_)
 ·refine b3 ?_;intro z9 e' f8;refine cc (h' (K.ar m) p l8 (by exact dN 0x2efa5663a6a47e58f4e0 c (ay<|az 0xc07b3b28cb098683ca2e86 (ed d) R c9 aw)<|ay<|ac 94091001814698 (ed d) R) (i'.vM m.ds) (~~~bP 0x100085a44262dd2b6979ccc7cc34df34778d3a5f7c2 l i8 e p.aH) λg r dY n d' c8 e9 b8 Z b9 c'=>?_);exact bH (q g dY n r s d' ⟨by exact ac 297384360 c8,e9,k',b8,by exact aj 6600061799646 e c'⟩ Z<|g'.ak<|m.ds.ak b9)
 ·refine bc (aF<|vE<|q9 C.b0 ?_);refine b3 ?_;intro z9 e' f8;refine aF<|aC (ct<|dB _) λu y=>?_;have o8:(j9.a1 u []).U u=J []:=cg;have u9:=dS (x:=[]) y;generalize j9.a1 u []=A8 at*;have j8:=m.ak u9;have m8:=K.ar j8;have k8:¬(u=aZ\/u=a0):=λb=>b.elim (λb=>by rw[b,(K.ar m).U]at y;cases y) (λb=>by rw[b,(K.ar m).eX]at y;cases y);refine EA @p9 m8 (~~~ac 0x111dcc3a113b2cc99e599f0149bc l e) (co d) λA9 k k9 v' f9 a9 h9=>r8<|bW (p.pY f9) λf' n8=>?_;have w9:=l8.h3 (dY:=k9) λv9 t8=>n8 v9 (.tail _ t8);have t:=f9.mv.2;have g8:d3 aa bz k9 v' ([bz]++([]++((k::a8)++[]))):=by refine f'.iS (afV _ ?_) (.head _);exact dn<|>gW<|>(oI bz (wV k a8).symm)
  have s9:bM (C.bR aa)<=aa-cm C.b0+jW aa C.b0:=fJ 0x33f97da75f627cc69ced730 b' aw (bL _ _) (ay<|az 0xc07b3b28cb098683ca2e86 (ed d) R c9 aw);refine NG (h:=H) (fH:=k) (bZ:=[]) (i:=0) (o5:=[]) (o6:=[]) g8 (.head _) (~~~aj 0x2488bd640a719c12d90d1cc365b9c9b556cda l e t) nofun (~~~_) (cL _) rfl ⟨rfl,rfl⟩ ⟨rfl,rfl⟩ w9 rfl s9 λfirst j' l9 z' ks G B8 g B9 C' C8 D8 A m' r' w8 n9=>?_
  have h8:=j8.ds.ak h9;have T:=rA A.c2 (hU _) (hU _);have s8:first=0:=bo (ai 2362822 T.1) (ai 134)
  have s':j'=1:=by have:first+j'<=1:=T.2.2.1;exact bo (ac 299160316 this) (ac 152215479024 T.1 T.2.1)
  subst s8 s';refine cl ?_;intro e' f8;refine cc (q8 (hX:=u) (bZ:=[]) (i:=0) a9 m' A k8 (h9.U _ _ k8 o8) (i'.vM h8).yB r' λhX A' E D9 D' cR a' m9 p8 S o9=>?_);have t9:k∈l9:=by have:l9=[k]:=A.rC;exact this<|>.head _
  have t':k<4294967296:=by have:=f'.gz k (dJ _<|cP _<|.head _);exact az 0x1781126e85cd02f7bd544f246624e6233dffff110 l e t this.2
  refine NH (bZ:=[]) g8 (.head _) (~~~aj 0x2488bd640a719c12d90d1cc365b9c9b556cda l e t) nofun t' (dB _) w8 t9 A.CW a' λd9 C9 w' e8 g9 E9=>?_;have e8:e4 s d9:=by have:e4 ([]++(s++[])) d9:=e8;rw[dn]at this;exact this
  have P:=n9 E a'.yN;have P:s4 C.b0 aa (bM<|C.bR aa) E.length:=by
   have b:bM (C.bR aa)+min ([]:List dU).length 2*(aa-cm C.b0+mH C.b0)=bM (C.bR aa):=by refine V (show min ([]:List dU).length 2=0 from rfl)<|ur<|>?_;rfl
   rw[b]at P;exact P
  have o':=aaO d p.ci b' q' P;have x8:=(Of (bZ:=[]) (f:=0) (j:=0) (cR:=cR) (ks:=ix G E)<|cL _).1;have v8:¬(hX=aZ\/hX=a0):=λb=>b.elim (λb=>by rw[b,a9.U]at S;cases S) (λb=>by rw[b,a9.eX]at S;cases S);have i9:=a'.aH;refine h' (h:=H+1) (C:=.dd (iz [] 0 0 cR<|ix G E)<|lb [] k 0 cR) m9 g9 w' ?_ ⟨hX,rfl,v8,o9⟩ (~~~fJ 0x2251db17812a9e7ce84cc067b501ff6d920787bd5033ea8160d3f522a l i8 e t i9 g9.aH) λg r dY n d' c8 e9 b8 Z b9 c'=>q g dY n r d9 d' ⟨c8,e9,k'.ak e8,b8,by exact bP 0x1047ccaab8c4f3e13a8010e e t i9 c'⟩ Z (g'.ak<|h8.ak<|p8.ak b9)
  ·show bT bz+12+bM ((iz [] 0 0 cR<|ix G E).map cH)<=aa;have E8:bM (([]:List dU).map cH)=0:=rfl;have y':bM ((([]:List dU).take 0).map cH)=0:=rfl;have z8:bM ((([]:List dU).drop 0).map cH)=0:=rfl;exact fJ 0x7dd0b8386d77048205f7a96b6f55e4730cd1cfc o' x8 (z3 (G:=G) (E:=E)) y' z8
end
noncomputable def fk (x:Nat×Nat):O:=.ce [ae x.1,ae x.2]
section
variable {F N:aJ}{aa bz aZ a0 cE H eU:Nat}{dm:w}{Q:O->w->Prop}{se:List aV}
theorem afj {bZ:List dU}{i first c g:Nat}{cR E:List Nat}{G:bl}(b:oF (bZ.length+1) i=(first,c))(s:i<=bZ.length)(e:bT g+12+bM (bZ.map cH)<=aa)(k:E.length<=7):bM ((iz bZ first (first+c-1) cR (ix G E)).map cH)<=aa-bT g-12+90/\(aa-bT g<=32->bM ((iz bZ first (first+c-1) cR (ix G E)).map cH)<=90):=by
 have h:=rA b (hU _) (oQ s);have d:=z3 (G:=G) (E:=E);have u:=Of (bZ:=bZ) (f:=first) (j:=first+c-1) (cR:=cR) (ks:=ix G E) (~~~az 0x507ffb397787cf40c h.1 h.2.1 aw);refine⟨by exact pu (λa=>px 0x6b77fcccef4be9d1286ca89fc695c9a2ee495541a760790571b2ad3829b13ec e k d u.1 u.2 a aw aw) λa t=>nd 0x25cfea872267bddf00a39cf04b2f1ea5247e2ea1d8ba1bfd44bffc e d u.1 u.2 a aw aw,λq=>?_⟩;have r:=(@EE bZ).1;have l:first=0/\c=bZ.length+1:=by unfold oF at b;rw[if_pos (~~~bP 0xe800c5cc76772a195e79e7d4155e334 e q @r aw)]at b;cases b;exact⟨rfl,rfl⟩
 refine bW l λo p=>?_;subst o;clear b h l;subst p;have m:bM ((bZ.take 0).map cH)=0:=rfl;have n:bM ((bZ.drop<|0+(bZ.length+1)-1).map cH)=0:=by refine oK (~~~ac 0xf76409da6c aw)<|>?_;rfl
 exact pu (λa=>dN 0x621a05d63307a48bc2675bd6d00e31fb2064389 k d u.1 m n a) λa t=>bP 0xab0e6f44cda6bf1df1889390968825 d u.1 m n a
theorem Tr (D8:n4 F)(B9:m5 F)(o':l7 F)(B':ku F)(C8:qL F)(p8:pn F)(C9:po F)(A':lw F)(D':kt N)(k9:eU+20<=90000)(D9:H<=50)(G':¬(g=aZ\/g=a0))(F8:dm.U g=J (e.map fk))(q:∀g9 dY t8 A9 J8 t,kj aa bz H eU se dY t8 A9 J8 t->bO g9 aZ a0 dY t8->ec aZ a0 dm g9->Q .bE g9):∀(d ew:List (Nat×Nat)) (T bf:Nat) (f:w) (p:List aO) (z y M t:List Nat) (C:bl) (e8 pre post:List aV) (v:O) (e9 i8 i9:Option O),e=d.reverse++ew->jP aa p bz H T bf d pre post M->bO f aZ a0 p z->d3 aa bz p z t->t.Perm (bf::(y++M))->fI aa p T C e8 y->no aZ a0 f aa v C->bM (C.bR aa)<=aa-bT bf-cm C.b0+jW aa C.b0->(C.b0=ap->aa-bT bf<=32->bM (C.bR aa)<=90)->e4 se (pre++(e8++post))->p.length+9*d.length+10<=eU->ec aZ a0 dm f->hR (λn f j=>ao (bn F N) (.a7 .gx (.X 3)<|.ab<|.I 0) n f<|el j) (a6 (bn F N) nf.aP.aP.aP.aP.as) (d.length+1) [J (bS aa aZ a0 cE),J (.ah g),e9,J (ae d.length),J (ae bf),J v,i8,i9,D,D,D] f (h6 (bn F N) nf.aP.aP.aP.aP.aP<|dI Q):=by
 intro d;induction d with
 |nil=>
  intro ew T bf f p z y M t C e8 pre post v e9 i8 i9 l8 u b8 h m h9 d8 W k8 r K c9;refine Dw u λx9 b' x' y8 y9=>?_;subst x9;subst b';subst x';subst y8;clear u;subst y9;rw[dn]at m;have r:e4 se e8:=by rw[dn]at r;exact r
  exact Tq @D8 @o' @p8 @C9 @A' D' k9 D9 b8 (h.iS (m.symm.append_right z)<|.head _) h9 d8 W k8 r K c9 q
 |cons x d q8=>
  obtain⟨S,s⟩:=x;intro ew T bf f p z y M t C e8 pre post v e9 i8 i9 l8 u b8 h m h9 d8 W k8 r K c9;have o:=h.eO;refine v6 u λbZ g' I9 a9 I' or m9 m8 P R E Z l h8 h' n' o8 c8=>?_;have R:f6 aa p S (.dd bZ g'):=R;have E:s<=bZ.length:=E;have Z:iI bZ g' s=bf:=Z;have c8:M=S::(P++(a9++or)):=c8;have n8:jP aa p bz H T bf ((S,s)::d) pre post M:=⟨bZ,g',I9,a9,I',or,m9,m8,P,R,E,Z,l,h8,h',n',o8,c8⟩;have p':=d8;refine eP d8 λa b' Q8 p9=>?_;clear d8;subst b';have c':=@og bf;have k':=@tf C.b0;have G9:jW aa C.b0<=105:=by unfold jW;split<;>(first|exact ac 0x3a48ed7fea27a78 (co o) (ay<|ai 14755006140<|ed o)|exact g7 311260622)
  refine pI (show(((((S,s):Nat×Nat)::d).length:Nat):Int)>0 from cz.mpr<|hU _) ?_;have r9:=m.nodup_iff.mp (fm.mp h.bd).1;have K9:bf∉M:=λj=>(iY.mp r9).1 (cP _ j);have pos:∀b∈t,1<=b:=λb j=>ba h.wi (h.gz b<|dJ _ j).1;refine cl ?_;intro n i';refine bx (kB<|o' (bf:=bf) C.b0 p9 (zT<|~~~bP 0xb862bd9b6d1353bf242febfb8 W (co o) G9 (bL _ _) (bL _ _)) (~~~aj 0x779a35f738a7ec3698 (ed o) c' k') λq9 g8=>?_);have more:∀d',q9.ar d'->a6 (bn F N) nf.aP.aP.aP.aP.as.aP [J (bS aa aZ a0 cE),J (.ah g),e9,J (ae<|d.length+1),J (ae bf),J (eg (dq C.b0) a C.ci),i8,i9,D,D,D] d' (λz9 n f=>match z9 with|.cO=>hR (λn f j=>ao (bn F N) (.a7 .gx (.X 3)<|.ab<|.I 0) n f<|el j) (a6 (bn F N) nf.aP.aP.aP.aP.as) (d.length+1) n f (h6 (bn F N) nf.aP.aP.aP.aP.aP<|dI Q)|.aI h8=>(h6 (bn F N) nf.aP.aP.aP.aP.aP<|dI Q) (.aI h8) n f):=by
   intro d' d9;have G8:(e.map fk)[d.length]?=J (fk (S,s)):=by refine l8<|>qc<|>bN<|>cD<|>hT (by rw[ax,jb];exact cL _)<|>ax<|>jb<|>iD<|>?_;rfl
   refine b3 ?_;intro t' n i';refine ft (s7 rfl rfl ((c9.ak (g8.ak d9).ds).U _ _ G' F8) G8 ?_);have a8:=g8.ak d9;have j8:=b8.ar a8;refine v1 R.tF λB8 P8 E9 u9=>aW (show∃b,S=b+1 from⟨S-1,by exact bo (ac 42823471152 aw)<|ac 10545038814<|ay<|ai 132202 B8⟩) λb b'=>?_;clear R c8;subst b';refine cl ?_;intro n i';refine aF (B9 j8 E9 u9 o λhX q' f9 y' H8=>?_);have l9:=a8.ak H8;have b9:=b8.ar l9;have K8:¬(hX=aZ\/hX=a0):=λk=>k.elim (λk=>by rw[k,j8.U]at f9;cases f9) (λk=>by rw[k,j8.eX]at f9;cases f9);have o9:bT (b+1)+12+bM (bZ.map cH)<=aa:=R.iL;have C':=(@EE bZ).1;have j':=R.fM;have m':=h'.D2;have s9:t.Perm (((b+1)::P)++(a9++((bf::y)++or))):=by refine m.trans<|c8<|>?_;have L9:(bf::(y++(b+1)::(P++(a9++or)))).Perm ((bf::y)++((b+1)::P++(a9++or))):=iX _;refine L9.trans ((rI (bf::y) ((b+1)::P)<|a9++or).trans<|afU _ ?_);exact rI _ _ _
   have f8:=h.iS (s9.symm.append_right z) (s9.mem_iff.mp h.fP);have J9:=(fm.mp f8.bd).1;have F9:bf≠bz:=by clear q q8 h u h' n8 f8;rintro rfl;exact(fm.mp J9).2.2 _ m' _ (cP _<|.head _) rfl
   have w':bT bf=0:=yz (h.hf (dJ _<|m.mem_iff.mpr<|.head _) F9).1;refine NG f8 m' (~~~aj 0x66c701196ed9fd8fd5224599057c9b556cda k9 K) j'.1 (~~~az 0x59f1324e5ffd8150359cf74 (co o) o9 @C') E Z l h8 h9 rfl (by rw[w']at W;exact W) λfirst r8 O9 O' ks G P9 g9 P' Q' Q9 R8 a' v' E8 M9 x8=>?_
   have e':=rA a'.c2 (hU _) (oQ E);refine p8 (hX:=hX) (bZ:=bZ) b9 v' a' K8 y' (p'.vM l9.ds).yB E8 λl' H' n9 L8 M8 cR j9 u' A8 f' z8=>?_;have F':bf∈O9:=dT (i:=s-first)<|V (a'.rC ..)<|V (nI ..)<|V (rG (~~~az 0x3f429df30dd15c29 e'.2.1 (ay<|ac 354984 e'.1)) ..)<|V (show first+(s-first)=s by exact bo (aj 24690248718<|ay<|ac 354984 e'.1)<|aj 14412402004 aw)<|IP E<|>Z<|>rfl;refine NH f8 m' (~~~aj 0x66c701196ed9fd8fd5224599057c9b556cda k9 K) j'.1 j'.2 (~~~az 0x507ffb397787cf40c e'.1 e'.2.1 aw) M9 F' a'.CW j9 λI8 K' N9 L' v9 w9=>?_;have t9:=afj (cR:=cR) (G:=G) a'.c2 E o9 (x8 n9 j9.yN).1;have J':¬(l'=aZ\/l'=a0):=λk=>k.elim (λk=>by rw[k,b9.U]at f';cases f') (λk=>by rw[k,b9.eX]at f';cases f');have H9:=j9.aH;rw[fQ]at K;refine b3 ?_;intro t' n i';refine aF (aF<|CJ rfl ?_);refine q8 ((b+1,s)::ew) (T+1) (b+1) H' L8 M8 K' P _ (.dd (iz bZ first (first+r8-1) cR (ix G n9))<|lb bZ g' (first+r8-1) cR) I8 m9 m8 _ e9 _ _ ?_ (h'.h3 λb j=>w9 b<|.tail _ j) u' v9 (oI _ qb) N9 ⟨l',rfl,J',z8⟩ t9.1 (λR9=>t9.2) ?_ (~~~az 0x3f0bcf34d9b182b8de14f4b9fb88 K H9) (c9.ak<|l9.ds.ak A8)
   ·refine l8<|>qc<|>bN<|>?_;rfl
   ·have s':=L'.sO (A:=m9) (cs:=m8);rw[n',o8]at r;simp-iota only[bN]at r s'⊢;exact r.ak s'
  refine eh (λc=>?_) (λc=>bc<|more q9 .cf)
  ·refine C8 (bf:=bf) C.b0 (g8.U _ _ p9) (zT<|by exact az 0x223574018448102fc4 (co o) c (bL _ _)<|bL _ _) (~~~aj 0x779a35f738a7ec3698 (ed o) c' k') λN' d' d9=>?_;induction N' with
   |true=>exact bc (more d' d9)|false=>have a8:=g8.ak d9;refine b3 ?_;intro t' n i';refine cc (Oq (v:=eg (dq C.b0) a C.ci) @B' (b8.ar a8) h m h9 (by exact dN 0x2efa5663a6a47e58f4e0 c (ay<|az 0xc07b3b28cb098683ca2e86 (ed o) c' k' aw)<|ay<|ac 94091001814698 (ed o) c') (p'.vM a8.ds).yB λq' s8 N8 v8 b9 z' E' w8=>?_);have O8:=n8.h3 (dY:=s8) λb j=>w8 b (by clear u m W k8 Z n8 c' r9;rintro rfl;exact K9 j) (pos b<|m.mem_iff.mpr<|.tail _<|cP _ j);refine O8.IR N8 λu8 M' r'=>bH (q q' s8 z H _ u8 ⟨kN _,M',r,v8.iS ((r'.trans m.symm).append_right z)<|(r'.trans m.symm).mem_iff.mpr h.fP,by exact az 0x196fe23fa3090788 K E'⟩ b9<|c9.ak<|a8.ds.ak z')
end
structure m2 (a i H:Nat) (b:List aO) (j f:List Nat) (g:List (Nat×Nat)) (e:Nat) (pre post:List aV) (h:List Nat) (d:List au):Prop where
 c2:d3 a i b j f
 kH:f.Perm (e::(ea d++h))
 cY:jP a b i H 0 e g pre post h
 dg:∀c∈d,c.dg a/\nW a b c
 b0:bM (d.map<|au.bQ a)<=a-bT e-8+(a-23)
 mr:b.length+9*g.length+30<=90000
 rc:H<=50
def xI (q:aJ):Prop:=∀{b:w} {k:O->w->Prop} {a m c d x H z j f p:Nat} {e:List aO} {n r C:List Nat} {h:List (Nat×Nat)} {t g:List au} {pre post:List aV},bO b c d e n->m2 a m H e n r h j pre post C g->f6 a e j (.cJ t)->¬(f=c\/f=d)->b.U f=J ((h.reverse++[(j,z)]).map fk)->b.U p=J (bh<|g.map<|au.bQ a)->(∀i l o y A s,kj a m H (e.length+9*h.length+10) (pre++(g.map .cb++post)) l o y A s->bO i c d l o->ec c d b i->k .bE i)->q 37 [bS a c d x,.ah f,.ah p] b k
def xJ (p:aJ):Prop:=∀{d:w} {k:O->w->Prop} {c m a b s H x j f:Nat} {e:List aO} {n q z:List Nat} {h:List (Nat×Nat)} {g:List au} {pre post:List aV},bO d a b e n->m2 c m H e n q h j pre post z g->f6 c e j (.cJ g)->¬(f=a\/f=b)->d.U f=J ((h.reverse++[(j,x)]).map fk)->(∀i l o t y r,kj c m H (e.length+9*h.length+10) (pre++(g.map .cb++post)) l o t y r->bO i a b l o->ec a b d i->k .bE i)->p 37 [bS c a b s,.ah f] d k
section
variable {F N:aJ}
theorem Im (f':n4 F)(P:m5 F)(e8:l7 F)(e9:ku F)(e':qL F)(f8:pn F)(f9:po F)(d':lw F)(Q:kt N){b a' g h t H n d k:Nat}{pre post:List aV}(l:bO W g h o M)(c:m2 b a' H o M j e d pre post a8 w8)(b8:f6 b o d (.cJ G))(g':¬(k=g\/k=h))(y:W.U k=J ((e.reverse++[(d,n)]).map fk))(z:C=.bE/\G=w8\/∃E,C=.ah E/\W.U E=J (bh<|w8.map<|au.bQ b))(q:∀A a9 b9 d9 h9 c8,kj b a' H (o.length+9*e.length+10) (pre++(w8.map .cb++post)) a9 b9 d9 h9 c8->bO A g h a9 b9->ec g h W A->S .bE A):a6 (bn F N) nf [J (bS b g h t),J (.ah k),J C,D,D,D,D,D,D,D,D] W (dI S):=by
 have R:=c.c2.eO;have T:((e.reverse++[(d,n)]).map fk).length=e.length+1:=by refine ax<|>a2<|>jb<|>?_;rfl
 have Z:((e.reverse++[(d,n)]).map fk)[e.length]?=J (fk (d,n)):=by refine cD<|>hT (by rw[ax,jb];exact cL _)<|>ax<|>jb<|>iD<|>?_;rfl
 refine aF (av y ?_);refine T<|>iy (bV:=[J (bS b g h t),J (.ah k),J C,J (ae e.length),D,D,D,D,D,D,D]) (by unfold ae;refine aY (@wj e.length ..)<|?_;rfl) ?_;refine cl ?_;intro b' i8;refine aF (ta<|ni rfl rfl y Z ?_);refine v1 b8.tF λK i' g8 c9=>aW (show∃r,d=r+1 from⟨d-1,by exact bo (ac 42823471152 aw)<|ac 10545038814<|ay<|ai 132202 @K⟩) λr d8=>?_;clear b8 T Z K;subst d8;refine cI ?_;intro b';refine aF (P l g8 c9 R λa h8 i c' p=>?_);have i9:=l.ar p;have go:∀(f:w) (a:Nat),W.ar f->W.U a=D->f.U a=J (bh<|w8.map<|au.bQ b)->a6 (bn F N) nf.aP.aP.aP.aP [J (bS b g h t),J (.ah k),J C,J (ae e.length),J (ae<|r+1),J (eg (dq ag) a 0),D,D,D,D,D] f (dI S):=λf a s i x=>mG ⟨e.length+1,Tr @f' @P @e8 @e9 @e' @f8 @f9 @d' Q (eU:=o.length+9*e.length+10) (by have:=c.mr;exact ac 0x35088999a1b7935fd09b2e59b9e2c342e196c this) c.rc g' y q e [(r+1,n)] 0 (r+1) f o M (ea w8) a8 j (.cJ w8) (w8.map .cb) pre post _ _ _ _ rfl c.cY (l.ar s) c.c2 c.kH ⟨c.dg,rfl,rfl⟩ ⟨a,rfl,λm=>m.elim (λm=>by rw[m,l.U]at i;cases i) (λm=>by rw[m,l.eX]at i;cases i),x⟩ c.b0 nofun e4.cf (cL _) s.ds⟩;rcases z with⟨rfl,rfl⟩|⟨E,rfl,z⟩
 ·refine bx (bc ?_);exact go h8 a p i c'
 ·refine cl ?_;intro b' i8;refine bx (aF<|av (p.U _ _ z) ?_);refine hy ?_ λh' f g9 x s=>Q (bc<|go f h' (p.ak s) (p.hM g9) x)
  ·refine fK<|>ax<|>?_;have:=@EF (w8.map<|au.bQ b);have:=c.b0;rw[ax]at*;exact dN 0x261cced8104336dee9307e8e0f96ef995 (co R) ‹_› this (bL _ _) (bL _ _) (bL _ _)
theorem abw (m:n4 F)(g:m5 F)(h:l7 F)(i:ku F)(j:qL F)(k:pn F)(l:po F)(f:lw F)(n:kt N):xI (bB F N):=λ{M A c S s x e H K R y a Q T z P G E C pre post} b d t r o p q=>bU CB [J (bS c s x e),J (.ah y),J (.ah a),D,D,D,D,D,D,D,D] rfl rfl (Im @m @g @h @i @j @k @l @f n b d t r o (.inr ⟨a,rfl,p⟩) q)
theorem abx (l:n4 F)(f:m5 F)(g:l7 F)(h:ku F)(i:qL F)(j:pn F)(k:po F)(e:lw F)(m:kt N):xJ (bB F N):=λ{E y b P p s d H C M t K Q x G A z pre post} a c r o n q=>bU CB [J (bS b p s d),J (.ah t),J .bE,D,D,D,D,D,D,D,D] rfl rfl (Im @l @f @g @h @i @j @k @e m a c r o n (.inl ⟨rfl,rfl⟩) q)
end
section
variable {aa b1 c f:Nat}{d f5:List UInt8}{bw:List au}{cw:List Nat}{cZ:List bF}
theorem bA.kT (b:bA d g Z)(a:∀j,b1<=j->f5[j]?=d[j]?)(e:b1<=g):bA f5 g Z:=λi c=>by exact V (a (g+i) (ba e<|eN _ _) ..)<|b i c
theorem km.kT (a:∀j,b1<=j->f5[j]?=d[j]?):∀{cZ:List bF},(∀x∈cZ,b1<=x.1)->km d cZ->km f5 cZ
 |[],_,_=>trivial|x::cZ,b,c=>⟨c.1.kT a<|ba (b x<|.head _)<|eN _ _,c.2.1.kT a<|b x<|.head _,km.kT a (λy e=>b y<|.tail _ e) c.2.2⟩
theorem c0.kT (b:c0 aa b1 d bw cw cZ c f [])(a:∀j,b1<=j->f5[j]?=d[j]?)(h:f5.length=aa):c0 aa b1 f5 bw cw cZ c f []:=by
 refine⟨⟨h,(a b1<|cL _).trans b.cu.ee,b.cu.hu.kT a<|eN _ _,b.cu.eQ,b.cu.iL,λi g e=>(b.cu.k4 i g e).kT a<|~~~aj 4486369532,λi g m e l=>(b.cu.dA i g m e l).kT a ?_,b.cu.de,b.cu.dt⟩,b.dg,b.jR.kT a<|eN _ _,(a _<|eN _ _).trans b.mj,⟨b.kU.1.kT a<|eN _ _,b.kU.2.kT a λx k=>?_⟩,b.ir,b.fD,b.cY⟩
 ·have:=b.cu.de g<|dT e;exact az 28156868787992 this
 ·have:=b.sV.de x k;exact az 77262404675784104 b.ir this
end
theorem pK {b:Type}{x:b}{i:Nat}:∀{l:List b},i<=l.length->l.insertIdx i x=l.take i++([x]++l.drop i):=by
 induction i with
 |zero=>exactλ{l} d=>rfl|succ i c=>
  intro l;induction l using cj with
  |nil=>exactλa=>absurd a (rU i)|cons y l=>exactλa=>by refine Fn<|>c (qe a)<|>?_;rfl
def sr (z:aJ):Prop:=∀{e:w} {o:O->w->Prop} {b r g h G H i f m a c K:Nat} {l:List aO} {s A P:List Nat} {n:List (Nat×Nat)} {F j:List au} {x:au} {pre post:List aV} {p:List UInt8} {Q:List Nat} {E:List bF},bO e g h l s->m2 b r H l s A n f pre post P (j.insertIdx i x)->f6 b l f (.cJ F)->e.a4 a=J p->c0 b (bT f) p j Q E c K []->i<=j.length->¬(m=g\/m=h)->e.U m=J ((n.reverse++[(f,i)]).map fk)->(∀k q t M N C,kj b r H (l.length+9*n.length+10) (pre++((j.insertIdx i x).map .cb++post)) q t M N C->bO k g h q t->(∀d y,¬(d=g\/d=h)->e.U d=J y->k.U d=J y)->(∀d y,e.aQ d=J y->k.aQ d=J y)->o .bE k)->z 38 [bS b g h G,.ah m,bd (.br a) f b (bT f),.aA (x.bQ b)] e o
def qM (s:aJ):Prop:=∀{d:w} {m:O->w->Prop} {b p f g z H E e h a c A:Nat} {l:List aO} {q t G:List Nat} {j:List (Nat×Nat)} {i:List au} {pre post:List aV} {n:List UInt8} {K:List Nat} {y:List bF},bO d f g l q->m2 b p H l q t j e pre post G i->d.a4 a=J n->c0 b (bT e) n i K y c A []->¬(h=f\/h=g)->d.U h=J ((j.reverse++[(e,E)]).map fk)->(∀k o r C F x,kj b p H (l.length+9*j.length+10) (pre++(i.map .cb++post)) o r C F x->bO k f g o r->ec f g d k->m .bE k)->s 39 [bS b f g z,.ah h,bd (.br a) e b (bT e)] d m
section
variable {F N:aJ}
theorem Oa (d':ps F){d z l m c' H f a c K:Nat}{pre post:List aV}(c8:bO W l m o M)(b:m2 d z H o M j e f pre post a8 G)(e8:W.a4 a=J Z)(C:c0 d (bT f) Z G b8 t c K [])(q:∀k dY,m2 d z H dY M j e f pre post a8 G->f6 d dY f (.cJ G)->dY.length=o.length->(∃r,kj d z H o.length (pre++(G.map .cb++post)) dY M H (pre++(G.map .cb++post)) r)->bO k l m dY M->ec l m W k->S .bE k):F 97 [bS d l m c',bd (.br a) f d (bT f)] W S:=by
 have P:=b.c2.eO;have y:=b.c2.gz f (dJ _<|b.kH.mem_iff.mpr<|.head _);have A:=b.c2.ci;refine aW (show∃p,f=p+1 from⟨f-1,by exact bo (ac 42823471152 aw)<|ac 10545038814<|ay<|ac 1056876072 y.1<|pg A⟩) λp d8=>?_;subst d8;have e':=b.kH.nodup_iff.mp (fm.mp b.c2.bd).1;have pos:∀q∈j,1<=q:=λq i=>by have:=b.c2.gz q<|dJ _ i;exact ac 1057045332 (pg A) this.1
 refine d' c8 e8 y.2 b.c2.eQ C.cu.aH (~~~ai 21433431740 (ed P)) (co P) λk g Q e9 c9 d9=>?_;have T:∀q∈ea G++a8,(o.set p g)[q-1]?=o[q-1]?:=λq R=>by
  have s:=pos q (b.kH.mem_iff.mpr<|.tail _ R);have N:q≠p+1:=by clear s;rintro rfl;exact(iY.mp e').1 R
  exact p7 (by exactλn=>A.elim (λf'=>(fo @N).elim (λh=>aj 0x57d7a2b86af01268e318d4e6141bfa11669 n h<|ay<|ai 132202 @s) λh=>aj 0x5a5cf850e7556dfae43624e6141bfa11677 n h aw) λf'=>(fo @N).elim (λh=>aj 0x57d7a2b86af01268e318d4e6141bfa11669 n h<|ay<|ai 132202 @s) λh=>aj 0x5a5cf850e7556dfae43624e6141bfa11677 n h aw)
 have a':f6 d (o.set p g) (p+1) (.cJ G):=⟨by exact ai 93402,g,b8,t,c,K,rF y.2,C.kT e9 Q⟩;have f9:fI d o 0 (.cJ G) (G.map .cb) (ea G):=⟨b.dg,rfl,rfl⟩;have b9:=f9.h3 (dY:=o.set p g) λq i=>T q (dJ _ i);have b':=b.cY.h3 (dY:=o.set p g) λq i=>T q (cP _ i);have E:=b.c2.oz (p:=p) Q;refine b'.IR (⟨.cJ G,ea G,a',b9,rfl⟩:fS d (o.set p g) 0 (p+1) (G.map .cb) ((p+1)::ea G)) λr f8 a9=>?_;have x:(o.set p g).length=o.length:=nJ;exact q k _ ⟨E,b.kH,b',b9.1,b.b0,by exact x<|>b.mr,b.rc⟩ a' x ⟨r,kN _,f8,e4.cf,E.iS ((a9.trans b.kH.symm).append_right M)<|(a9.trans b.kH.symm).mem_iff.mpr b.c2.fP,fv x⟩ c9 d9
theorem kj.cY {e j H b c f:Nat}{g h:List aV}{i:List aO}{k d:List Nat}(a:kj e j H b g i k f h d)(l:b<=c):kj e j H c g i k f h d:=⟨a.Lo,a.jX,a.wm,a.c2,ba a.hL l⟩
theorem abz (G:xJ F)(K:x0 F)(M:ps F):qM (bB F N):=λ{e9 c8 i f' Z a9 z H e8 p b9 a c d9 f8 r b' e' d' c' pre post d8 f9 c9} t j m g f n q=>by
 refine bU Kl [J (bS i Z a9 z),J (.ah b9),J (bd (.br a) p i<|bT p),D] rfl rfl (cc<|Oa @M t j m g λQ o y a8 P A e b=>aW A λh k=>?_);refine b3 ?_;intro g9 g8 g';refine bx (kB<|av (b.U _ _ f n) ?_);refine eh (λc=>?_) (λc=>bc<|q Q o r H _ h (k.cY<|~~~ac 164683657496) e b)
 ·refine K (v:=.br a) (b.a4 _ _ m) g (co j.c2.eO) λb8 R d=>?_;induction b8 with
  |false=>exact bc (q R o r H _ h (k.cY<|~~~ac 164683657496) (e.ar d)<|b.ak d.ds)|true=>refine cc (G (e.ar d) y a8 f (d.U _ _<|b.U _ _ f n) λS W a' E T s l x C=>?_);rw[P]at l;exact bc (q S W a' @E T s l x<|b.ak<|d.ds.ak C)
theorem aby (f':xI F)(g8:sz F)(g':qO F)(h8:ps F):sr (bB F N):=λ{t' o9 b w9 l' m9 d9 H i f n9 a c r8 v9 m' o8 v8 G q8 l x pre post q9 v' p8} j k m8 P g e i9 Q q=>by
 have o:=k.c2.eO;have h':x.dg b:=(k.dg x<|by exact pK e<|>cP _ (.head _)).1;have h9:bT f+12<=b:=by have:=@og f;exact ac 0x118a0468c4bd5eaa (ed o) this
 have i8:((G.reverse++[(f,i)]).map fk)=G.reverse.map fk++[fk (f,i)]:=cD;have R:=Q;rw[i8]at R;refine bU Kh [J (bS b l' m9 d9),J (.ah n9),J (bd (.br a) f b<|bT f),J (.aA<|x.bQ b),D,D,D] rfl rfl (aF<|av R<|mx ?_);refine b3 ?_;intro y8 a9 a';refine bx (g' P g o h9 e h' (λj' S=>?_) λj' q' w8 p9 p' r9 d' n b8=>?_)
 ·refine aF (g8 (v:=.br a) (S.a4 _ _ P) g.cu g.dg o λh A s8 m j8=>?_);have m:A.U h=J (bh<|l.map<|au.bQ b):=by refine m<|>?_;unfold bh;refine oO<|>?_;rfl
  have s:l.length<=128:=by have:=g.ir;have:=g.hI;exact az 0x56efb1c3981103ab8ef4 (co o) ‹_› this
  have t:(l.map<|au.bQ b).length<=128:=ax<|>s;refine cl ?_;intro a9 a';refine cc (kX ?_);refine kX (q6<|NM m rfl (by exact ax<|>e) (ba t<|~~~_) λx8 a8 s9 e8 T=>?_);refine aC (ct (show 1<=1000 by decide)) λE i'=>?_;have e9:(a8.a1 E [.aA (x.bQ b)]).U E=J (bh [x.bQ b]):=cg;have z:=dS (x:=[.aA (x.bQ b)]) i';generalize a8.a1 E [.aA (x.bQ b)]=u8 at*;refine yx (z.U _ _ e8) e9 (by refine fK<|>fK<|>e1<|>?_;show _+1<=_;exact aj 0x12a2084a9a04d29ba e s<|fG _ _) λx9 u9 s' e' W=>?_;refine q6 (NN (W.U _ _<|z.U _ _<|T.U _ _ m) rfl (by exact ax<|>e) (ba t<|~~~_) λx' u' t8 f8 Z=>?_);refine yx (Z.U _ _ e') f8 (by refine a2<|>fK<|>fK<|>fK<|>e1<|>gB<|>?_;show _+1+_<=_;exact bP 0x2883bde12ceaab84ea13a462e e s t (fG _ _)<|bL _ _) λn' k8 t9 r j9=>?_;have r:k8.U n'=J (bh<|(l.insertIdx i x).map<|au.bQ b):=by refine r<|>pK e<|>?_;unfold bh;simp-iota only[cD,j0,mM,bN,f1,Fu]
  have p:=S.ak (j8.ak<|T.ak<|z.ak<|W.ak<|Z.ak j9);exact f' (j.ar p) k m8 i9 (p.U _ _ Q) r λk9 l9 n8 g9 k' b' d8 c9 M=>bc (k7<|q k9 l9 n8 @g9 k' b' d8 c9 (λh y C d=>M.U _ _ C<|p.U _ _ d)<|λh y d=>M.aQ _ _<|p.aQ _ _ d)
 ·refine cl ?_;intro a9 a';refine cc (Oa @h8 ⟨n.U _ _ j.U,n.U _ _ j.eX,j.eq⟩ k d' b8 λA l8 o' w' r' f9 c8 K=>aW f9 λb9 c'=>?_);exact bc (k7<|q A l8 m' H _ b9 (c'.cY<|~~~ac 164683657496) c8 (λh y C d=>K.U _ _ C<|n.U _ _ d)<|λh y d=>K.aQ _ _<|n.aQ _ _ d)
end
def Ry (h:w)(v:O)(a g:Nat)(ks:List Int):Prop:=∃f e d j,d6 h f v/\fA a g f e d j/\a<=128/\ks.length=d.length/\∀(i:Nat) (b:Int),ks[i]?=J b->(e=ag/\∃c:au,d[i]?=J (c.bQ a)/\c.dg a/\c.bI=b)\/(e=ap/\∃c,d[i]?=J (dO c b)/\iM b)
def sv (g:aJ):Prop:=∀{b:w} {d:O->w->Prop} {v:O} {h e f:Nat} {c:Int} {ks:List Int},Ry b v e f ks->ks.Pairwise (·<=·)->(∀j,j<=ks.length->(∀(i:Nat) (a:Int),i<j->ks[i]?=J a->a<c)->(∀(i:Nat) (a:Int),j<=i->ks[i]?=J a->c<=a)->d (ae j) b)->g 51 [bd v h e f,.I c] b d
theorem Nm {ks:List Int}(f:ks.Pairwise (·<=·)){i j:Nat}{a d:Int}(e:ks[i]?=J a)(b:ks[j]?=J d)(k:i<=j):a<=d:=by
 rcases FC k with c|rfl
 ·obtain⟨g,rfl⟩:=dv.mp e;obtain⟨h,rfl⟩:=dv.mp b;exact wU.mp f i j @g @h c
 ·rw[e]at b;cases b;exact t6 _
section
variable {F N:aJ}
theorem WU {v:O}{ks:List Int}(row:∀(i:Nat) (b:Int) (A:O->w->Prop),ks[i]?=J b->A (.I b) W->F 77 [bd v g Q l,ae i] W A)(H:ks.Pairwise (·<=·)):∀(n d a:Nat) (f:Option O),a-d<n->d<=a->a<=ks.length->(∀(i:Nat) (b:Int),i<d->ks[i]?=J b->b<m)->(∀(i:Nat) (b:Int),a<=i->ks[i]?=J b->m<=b)->(∀j f T,j<=ks.length->(∀(i:Nat) (b:Int),i<j->ks[i]?=J b->b<m)->(∀(i:Nat) (b:Int),j<=i->ks[i]?=J b->m<=b)->P .cO [J (bd v g Q l),J (.I m),J (ae j),T,f,D] W)->hR (λz W b=>ao (bn F N) (.a7 .eY (.X 2)<|.X 3) z W<|el b) (a6 (bn F N) H4.aP.aP.as) n [J (bd v g Q l),J (.I m),J (ae d),J (ae a),f,D] W P:=by
 intro n;induction n with
 |zero=>intro d a f R;exact absurd R (oS _)|succ n K=>
  intro d a f y G k C E q;refine eh (λc=>?_) (λc=>?_)
  ·have c:=cz.mp c;obtain⟨e,t⟩:∃e,e=(d+a)/2:=⟨_,rfl⟩;have M:((d:Nat):Int)+((a:Nat):Int)=((d+a:Nat):Int):=(p1 _ _).symm;have h:e<a:=az 0x352c89abc131e76ca9141 ‹_› t (lU _ _);have s:d<=e:=az 0x471423b5cddb0beb75c7a51 ‹_› t (sL<|~~~_);refine b3 ?_;intro Z z a8;refine aF (kX ?_);refine aC ⟨by decide,pD (n:=2)<|~~~_⟩<|iy (bV:=[J (bd v g Q l),J (.I m),J (ae d),J (ae a),J (ae e),D]) (by refine t<|>?_;unfold ae;refine M<|>?_;rfl) ?_;obtain⟨b,p⟩:∃b,ks[e]?=J b:=⟨_,du<|~~~aj 1226021160 k h⟩;refine b3 ?_;intro Z z a8;refine bx (row e b _ p ?_);refine eh (λo=>?_) (λo=>?_)
   ·refine aF (bc<|k7 ?_);exact K (e+1) a _ (~~~dN 0xb1c87079e02b300650d341 y s aw (ay<|ac 73229353 h)) (~~~ac 73229353 h) k (λi S a r=>iU (Nm H r p<|~~~ac 51241009 a) o) @E q
   ·refine aF (bc<|k7 ?_);exact K d e _ (~~~dN 0xb1b23cc182254e5ed341 y h aw (ay<|ac 354984 s)) s (~~~aj 1220423204 k h) @C (λi S a r=>fU (gk.mp o)<|Nm H p r a) q
  ·have c:a<=d:=eT λx=>c (cz.mpr x);have:a=d:=bo c G;clear y G c;subst this;exact q a f _ k C E
theorem abN (r:jn F)(s:sA F)(t:xX F):sv (bB F N):=λ{P H v E n o G ks} ⟨M,l,R,Q,g,b,e,A,z⟩ C q=>by
 refine bU JR [J (bd v E n o),J (.I G),D,D,D,D] rfl rfl (aF<|aF<|r g b.hu (b.q1 e)<|mG ⟨ks.length+1,?_⟩);refine aY (A ..)<|WU (λi h K x m=>?_) C _ 0 ks.length D (~~~ac 297386376 (bL _ _)) (dB _) (cL _) (λi h d=>absurd d<|oS _) (λi h d p=>absurd (dv.mp p).1<|kO.mpr d) λj T S y a l=>bH (q j y a l);rcases z i h x with⟨rfl,c,f,k,rfl⟩|⟨rfl,c,f,k⟩
 ·exact s g b e f k m
 ·exact t g b e f k m
end
theorem wr {c:au}:∀{e2:List aV},c∈fl e2->.cb c∈e2
 |.cb b::e2,a=>by
  rcases dE.mp a with rfl|a
  ·exact .head _
  ·exact .tail _ (wr a)
 |.fq d::e2,a=>.tail _ (wr (e2:=e2) a)|[],a=>nomatch a
section
variable {T:Nat->List aV->List Nat->Prop}
theorem i2.cS {c:au}:∀{e:List aV} {g:List Nat},i2 T E e g->(∀x∈E,x.2<c.bI)->e.Pairwise aV.bK->∀d∈e,d.bK (.cb c):=by
 induction E with
 |nil=>exactλ{e} {g} l r r d b=>by rw[l.1]at b;nomatch b
 |cons x E o=>
  exactλ{e} {g} h i m d b=>kG h λz C A o2 G k j s=>by
   clear h;subst j;obtain⟨F,p,q⟩:=gX.mp m;have f:=i x (.head _);rcases hi.mp b with b|b
   ·have:=q d b _ (.head _);induction d with
    |cb a=>exact iU this f|fq t=>exact iU this f
   ·rcases dE.mp b with rfl|b
    ·exact f
    ·exact o k (λy n=>i y<|.tail _ n) (es.mp p).2 d b
theorem ko.XE {c:au}(e:ko T g E s M)(h:∀x∈E.head?,c.bI<=x.2)(i:s.Pairwise aV.bK):∀b∈s,aV.bK (.cb c) b:=λb hz=>by
 induction E using cj with
 |nil=>rw[e.1]at hz;nomatch hz|cons x j=>
  obtain⟨m,k,f⟩:=e;subst f;have d:=h x rfl;rcases dE.mp hz with rfl|hz
  ·exact d
  ·have:=(es.mp i).1 b hz;induction b with
   |cb a=>exact iU d this|fq l=>exact fU d this
theorem dR.NC:∀{a:List dU} {c:List aV} {d:List Nat},dR T a g c d->∀x∈a,.fq x.2∈c
 |x::a,c,d,h,y,b=>kG h λj l k o2 m f e i=>by
  refine e<|>?_;rcases dE.mp b with rfl|b
  ·exact cP _ (.head _)
  ·exact cP _ (.tail _<|f.NC y b)
theorem dR.oo:∀{a:List aV} {e:List Nat},dR T E g a e->a.Pairwise aV.bK->(E.map (·.2)).Pairwise (·<=·):=by
 induction E with
 |nil=>exactλ{b} {b} b b=>mK|cons x E k=>exactλ{a} {e} d i=>kG d λq s r o2 A c f o=>by clear d;subst f;obtain⟨t,l,z⟩:=gX.mp i;obtain⟨m,n⟩:=es.mp l;refine es.mpr ⟨λp h=>?_,k c n⟩;obtain⟨y,j,rfl⟩:=eS.mp h;exact m _ (c.NC y j)
theorem YG:(G.map aV.cb).Pairwise aV.bK->(G.map au.bI).Pairwise (·<=·):=by
 induction G with
 |nil=>exactλi=>mK|cons c G g=>exactλa=>by obtain⟨b,d⟩:=es.mp a;refine es.mpr ⟨λh e=>?_,g @d⟩;obtain⟨y,f,rfl⟩:=eS.mp e;exact kM (b (.cb y)<|eS.mpr ⟨y,f,rfl⟩)
end
structure jl (b n H:Nat) (e:List aO) (k:List Nat) (d:Int) (m:List aV) (l:List (Nat×Nat)) (f i:Nat) (pre post:List aV) (h:List Nat) (a:List au):Prop where
 cY:jP b e n H 0 f l pre post h
 mE:f6 b e f (.cJ a)
 dg:∀c∈a,c.dg b/\nW b e c
 kH:k.Perm (f::(ea a++h))
 tn:m=pre++(a.map .cb++post)
 lF:i<=a.length
 de:∀(j:Nat) (c:au),j<i->a[j]?=J c->c.bI<d
 dt:∀(j:Nat) (c:au),i<=j->a[j]?=J c->d<=c.bI
 rr:∀g∈pre,g.bK (.cb ⟨d,[],0⟩)
 Nj:∀g∈post,aV.bK (.cb ⟨d,[],0⟩) g
def sw (s:aJ):Prop:=∀{b:w} {l:O->w->Prop} {a h q r t H:Nat} {f:List aO} {y k:List Nat} {e:List aV} {g:Int},bO b q r f y->a=64\/a=128->fS a f H h e k->e.Pairwise aV.bK->H<=49->(∀d j o p i pre post x n (m:Bool),b.U j=D->d.U j=J ((o.reverse++[(p,i)]).map fk)->b.ar d->jl a h H f k g e o p i pre post x n->(m=ag↔∃c,n[i]?=J c/\c.bI=g)->l (.ce [.ah j,.bs m]) d)->s 52 [bS a q r t,ae h,.I g] b l
noncomputable def vI:b2:=H2.aP.aP.as
section
variable {F N:aJ}{aa bz aZ a0 cE H:Nat}{bv:List aO}{eK fW:List Nat}{e2:List aV}{r:Int}
theorem vF {C:cG}{a b:aX}(c:ao C a f W λx W=>ao C b f W λy W=>S (.ce [x,y]) W):ao C (.ce<|.Y a<|.Y b .L) f W S:=c
theorem KV (T:sv F)(Z:sy F)(a8:md F)(a9:sH F){b:Bool}{ks:List Int}(f8:W.U g=D)(H:bO A aZ a0 bv eK)(C:aa=64\/aa=128)(x:1<=Q)(b':bv[Q-1]?=J p)(l:fA aa (bT Q) p b o M)(d8:ks.length=o.length)(d':ks.Pairwise (·<=·))(c':∀(i:Nat) (d:Int),ks[i]?=J d->(b=ag/\∃c:au,o[i]?=J (c.bQ aa)/\c.dg aa/\c.bI=d)\/(b=ap/\∃c,o[i]?=J (dO c d)/\iM d))(S:cW (·=g) W A)(a':A.U g=J (e.reverse.map fk))(E:e.length<50)(q:∀k a j,A.a4 a=D->k.a4 a=J p->cW (·=g) W k->cW (·=g) A k->k.U g=J ((e.reverse++[(Q,j)]).map fk)->j<=ks.length->(∀(i:Nat) (d:Int),i<j->ks[i]?=J d->d<r)->(∀(i:Nat) (d:Int),j<=i->ks[i]?=J d->r<=d)->a6 (bn F N) (match vI with|.Y _ (.Y _<|.Y _<|.Y _<|.Y _ b)=>b|_=>.L) [J (bS aa aZ a0 cE),z,J (.I r),J (.ah g),J (ae Q),J (bd (.br a) Q aa<|bT Q),J (ae j),D] k P):a6 (bn F N) vI [J (bS aa aZ a0 cE),z,J (.I r),J (.ah g),J (ae Q),z8,A8,D] A P:=by
 have b8:=co C;refine aW (show∃f,Q=f+1 from⟨Q-1,by exact bo (ac 42823471152 aw)<|ac 10545038814<|ay<|ai 132202 @x⟩) λf K=>?_;clear x;subst K;refine cI ?_;intro G;refine aF (a8 H b' (by exact l.aH<|>ai 11639780460 (co C)) λa h b9 m s=>?_);refine cl ?_;intro G e';refine bx (Z (v:=.br a) b m l.ee<|bc ?_);refine aF (T (v:=.br a) ⟨p,b,o,M,m,l,b8,d8,c'⟩ d' λj c9 e8 c8=>?_);have y:=s.U _ _ a';have d9:(e.reverse.map fk).length=e.length:=ax<|>jb<|>rfl;refine b3 ?_;intro f9 G e';refine cc (av y<|av y ⟨?_,?_⟩)
 ·exact d9<|>rO E (~~~_)
 have t:(h.a1 g<|e.reverse.map fk++[fk (f+1,j)]).U g=J ((e.reverse++[(f+1,j)]).map fk):=by refine cg<|>cD<|>?_;rfl
 have n:cW (·=g) h (h.a1 g<|e.reverse.map fk++[fk (f+1,j)]):=gb;have R:h.a1 g (e.reverse.map fk++[.ce [ae (f+1),ae j]])=h.a1 g (e.reverse.map fk++[fk (f+1,j)]):=rfl;refine R<|>?_;generalize h.a1 g (e.reverse.map fk++[fk (f+1,j)])=e9 at*;refine cc (a9 t (by refine ax<|>a2<|>jb<|>?_;show e.length+1<=50;exact ai 40613147251601 E) ?_);exact q e9 a j b9 (n.a4 _ _ m) (S.ak<|s.ds.ak n) (s.ds.ak n) t c9 e8 c8
theorem WA (p9:sv F)(p':pq F)(q8:sy F)(w8:jn F)(w9:sA F)(w':sB F)(x8:sC F)(q9:md F)(q':sH F){Q:O->w->Prop}(e9:W.U g=D)(M:bO W aZ a0 bv eK)(a':aa=64\/aa=128)(e8:e2.Pairwise aV.bK)(r8:H<=49)(q:∀k9 n bf i pre post f p (b:Bool),k9.U g=J ((n.reverse++[(bf,i)]).map fk)->cW (·=g) W k9->jl aa bz H bv fW r e2 n bf i pre post f p->(b=ag↔∃c,p[i]?=J c/\c.bI=r)->Q (.ce [.ah g,.bs b]) k9):∀(o bf:Nat) (n:List (Nat×Nat)) (b9 pre post:List aV) (f9 f:List Nat) (d:w) (l9 l':Option O),fS aa bv o bf b9 f9->jP aa bv bz H o bf n pre post f->fW.Perm (f9++f)->e2=pre++(b9++post)->(∀m8∈pre,m8.bK (.cb ⟨r,[],0⟩))->(∀m8∈post,aV.bK (.cb ⟨r,[],0⟩) m8)->cW (·=g) W d->d.U g=J (n.reverse.map fk)->hR (λh d k=>ao (bn F N) (.ab<|.bs ag) h d<|el k) (a6 (bn F N) vI) (o+1) [J (bS aa aZ a0 cE),z,J (.I r),J (.ah g),J (ae bf),l9,l',D] d (h6 (bn F N) .L<|dI Q):=by
 intro o;induction o with
 |zero=>
  intro bf n b9 pre post f9 f d l9 l' ⟨C,y8,c8,T,g'⟩ c9 f' a8 k8 A a9 h';induction C with
  |dd _ _=>exact T.elim|cJ p=>
  refine gR T λk' t' Z=>?_;subst t';clear T;subst Z;have l8:=c8;refine v2 c8 λh9 t9 z8 A8 c A9 i8 K=>?_;have d':=co a';have b':∀{x y},W.U x=J y->d.U x=J y:=λ{x y} k=>a9.U x y (by rintro rfl;rw[e9]at k;cases k) k;have g8:(p.map aV.cb).Pairwise aV.bK:=by rw[a8]at e8;exact(gX.mp (gX.mp e8).2.1).1
  have i9:=c9.rc;refine EU (KV (ks:=p.map au.bI) @p9 @q8 @q9 @q' e9 ⟨b' M.U,b' M.eX,M.eq⟩ a' @h9 i8 K.cu (by exact ax<|>ax<|>rfl) (YG g8) (λi k b8=>.inl ⟨rfl,?_⟩) a9 h' (~~~ac 0x1ea72f0917c7bd8 r8 i9) λR a j x9 t d9 v' d8 E j9 i'=>?_)
  ·rw[cv]at b8;refine aU (fw.mp b8) λc l Z=>?_;subst Z;exact⟨c,by refine cv<|>l<|>?_;rfl,(k' c<|dT l).1,rfl⟩
  rw[ax]at E;have n8:jl aa bz H bv fW r e2 n bf j pre post f p:=⟨c9,l8,k',by rw[g']at f';exact f',a8,E,λi c A l=>j9 i c.bI A (by refine cv<|>l<|>?_;rfl),λi c A l=>i' i c.bI A (by refine cv<|>l<|>?_;rfl),k8,A⟩;refine b3 ?_;intro m9 h m';refine bx (p' (v:=.br a) ag t K.cu.ee ?_);refine b3 ?_;intro m9 h m';refine bH (vF<|gJ rfl<|kB<|q5 ?_);refine w8 (v:=.br a) t K.hu (by have:=K.ir;have:=K.hI;exact az 0x8c5700f922a5e07ba871b8ef4 (co a') ‹_› this)<|eh (λc=>?_) (λc=>?_)
  ·have c:=cz.mp c;refine aW (show∃x,p[j]?=J x from⟨_,du c⟩) λx m=>w9 (v:=.br a) t K.cu d' (by refine cv<|>m<|>?_;rfl) (k' x<|dT m).1 ?_;refine q R n bf j pre post f p _ d8 d9 n8 ⟨λo=>⟨x,m,of_decide_eq_true o⟩,λh8=>aU h8 λy e' o8=>decide_eq_true ?_⟩;rw[m]at e';cases e';exact o8
  ·refine q R n bf j pre post f p ap d8 d9 n8 ⟨nofun,λh8=>aU h8 λy e' o8=>absurd (cz.mpr (dv.mp e').1) c⟩
 |succ o x'=>
  intro bf n b9 pre post f9 f d l9 l' ⟨C,y8,c8,T,g'⟩ c9 f' a8 k8 A a9 h';induction C with
  |cJ _=>exact T.elim|dd e s=>
  refine bW T λB8 o'=>?_;have l8:=c8;refine gR c8 λz9 s' A'=>?_;obtain⟨h9,t9,i8,n9⟩:=z9;refine aW n9.cu λz8 c'=>?_;have d':=co a';have b':∀{x y},W.U x=J y->d.U x=J y:=λ{x y} k=>a9.U x y (by rintro rfl;rw[e9]at k;cases k) k;have g8:b9.Pairwise aV.bK:=by rw[a8]at e8;exact(gX.mp (gX.mp e8).2.1).1
  have i9:=c9.rc;refine EU (KV (ks:=e.map (·.2)) (b:=ap) @p9 @q8 @q9 @q' e9 ⟨b' M.U,b' M.eX,M.eq⟩ a' @h9 i8 c' (by exact ax<|>(ax _).symm) (o'.oo g8) (λi k b8=>.inr ⟨rfl,?_⟩) a9 h' (~~~aj 0x266926a2213a11736 r8 i9) λR a j x9 t d9 v' d8 E j9 i'=>?_)
  ·rw[cv]at b8;refine aU (fw.mp b8) λc l Z=>?_;subst Z;exact⟨c.1,by show(e.map cH)[i]?=_;refine cv<|>l<|>?_;rfl,(s' c<|dT l).2⟩
  rw[ax]at E;refine dR.MV (cL j) E o' λr' S s8 G s9 or P p8 o9 u8 u9=>?_;have v9:(e.take j).drop j=[]:=oK (by exact e1<|>fG _ _);rw[v9]at p8;have z':fS aa bv o (iI e s j) s8 G:=p8;refine b3 ?_;intro m9 h m';refine bx (p' (v:=.br a) ap t c'.ee<|bc ?_);have next:∀f8,f8=R->a6 (bn F N) .L [J (bS aa aZ a0 cE),z,J (.I r),J (.ah g),J (ae<|iI e s j),J (bd (.br a) bf aa<|bT bf),J (ae j),D] f8 (λP h d=>match P with|.cO=>hR (λh d k=>ao (bn F N) (.ab<|.bs ag) h d<|el k) (a6 (bn F N) vI) (o+1) h d (h6 (bn F N) .L<|dI Q)|.aI x=>h6 (bn F N) .L (dI Q) (.aI x) h d):=by
   rintro f8 rfl;subst u8 u9;refine gR (gX.mp g8) λy9 y' B9=>x' (iI e s j) ((bf,j)::n) s8 (pre++r') (s9++post) G (bf::(f++(S++or))) f8 _ _ z' ⟨e,s,r',S,s9,or,pre,post,f,l8,E,rfl,P,o9,c9,rfl,rfl,rfl⟩ ?_ ?_ (λc l=>?_) (λc l=>?_) d9 (by exact qc<|>d8)
   ·refine f'.trans<|g'<|>?_;have n':((S++(G++or))++f).Perm ((G++(S++or))++f):=(rI S G or).append_right f;rw[bN G]at n';have t8:=n'.trans (qb (l₁:=S++or) (l₂:=f)|>.append_left G);exact(t8.cons bf).trans rJ.symm
   ·refine a8<|>?_;simp-iota only[bN]
   ·rcases hi.mp l with k|k
    ·exact k8 c k
    ·refine P.cS (λx m=>?_) y9 c k;refine aW (p6 m) λi j8=>?_;have j':=(dv.mp j8).1;rw[e1]at j';rw[rG (~~~aj 2088932119 j' (fG _ _))]at j8;exact j9 i x.2 (~~~aj 2088932119 j' (fG _ _)) (by refine cv<|>j8<|>?_;rfl)
   ·rcases hi.mp l with k|k
    ·refine o9.XE (λx m=>?_) (gX.mp y').2.1 c k;have m:e[j]?=J x:=by rw[List.head?_drop]at m;exact m
     exact i' j x.2 (cL _) (by refine cv<|>m<|>?_;rfl)
    ·exact A c k
  refine b3 ?_;intro m9 h m';refine aF ?_;by_cases c:j<e.length
  ·have m:e[j]?=J e[j]:=du c;have g9:iI e s j=e[j].1:=by unfold iI;refine V (p4 c ..)<|?_;rfl
   rw[g9]at next
   refine w' (v:=.br a) (k:=e[j].2) t c' d' (by show(e.map cH)[j]?=_;refine cv<|>m<|>?_;rfl) (s' _<|wQ c).1 ?_;exact next R rfl
  ·have u':j=e.length:=bo (ac 354984 E) (ac 354984<|eT c);have g9:iI e s j=s:=by unfold iI;refine oK (~~~ac 354984 (eT c))<|>?_;rfl
   rw[g9]at next
   have r9:=n9.ci rfl;have:=x8 (v:=.br a) (bf:=bf) (Q:=λv d=>a6 (bn F N) .L [J (bS aa aZ a0 cE),z,J (.I r),J (.ah g),J v,J (bd (.br a) bf aa<|bT bf),J (ae j),D] d (λP h d=>match P with|.cO=>hR (λh d k=>ao (bn F N) (.ab<|.bs ag) h d<|el k) (a6 (bn F N) vI) (o+1) h d (h6 (bn F N) .L<|dI Q)|.aI x=>h6 (bn F N) .L (dI Q) (.aI x) h d)) t c' d' r9.1 r9.2 (next R rfl);have v8:(bl.dd e s).bR aa=e.map cH:=rfl;rw[v8,ax,<-u']at this;exact this
theorem abO (k:sv F)(l:pq F)(m:sy F)(n:jn F)(o:sA F)(p:sB F)(s:sC F)(t:md F)(x:sH F):sw (bB F N):=λ{T S aa bz aZ a0 cE H bv eK fW e2 r} b z Q C y q=>by refine bU JP [J (bS aa aZ a0 cE),J (ae bz),J (.I r),D,D,D,D,D] rfl rfl (aF<|pG λR K a f E=>?_);refine cI ?_;intro W;refine aF (mG ⟨H+1,?_⟩);refine WA @k @l @m @n @o @p s @t @x a b z C y (λG h P i pre post M d c e j g A=>q G R h P i pre post M d c a e (j.dP a .cf) g A) H bz [] e2 [] [] fW [] K _ _ Q ⟨rfl,rfl,rfl,rfl,rfl⟩ (by rw[dn]) (by refine dn<|>?_;rfl) nofun nofun E.ds f
end
section
variable {aa bz H i bf:Nat}{bv:List aO}{eK fW i1:List Nat}{r:Int}{e2 pre post:List aV}{mX:List (Nat×Nat)}{bw:List au}
theorem MX {y:au}:∀{i:Nat} {bw:List au},bw[i]?=J y->(ea bw).Perm (ea [y]++ea (bw.eraseIdx i))
 |0,c::bw,a=>by cases a;refine aY (tB ..)<|?_;exact iX _
 |i+1,c::bw,a=>by
  have b:=MX (i:=i) (bw:=bw) a;show(if c.c6=0 then ea bw else c.c6::ea bw).Perm (ea [y]++(if c.c6=0 then ea (bw.eraseIdx i)else c.c6::ea (bw.eraseIdx i)));split
  ·exact b
  ·exact(b.cons c.c6).trans rJ.symm
 |_,[],a=>nomatch a
theorem Z5 {x:au}{i:Nat}{bw:List au}(b:i<=bw.length):(ea<|bw.insertIdx i x).Perm (ea [x]++ea bw):=by refine pK b<|>tB<|>tB<|>?_;have:=rI (ea<|bw.take i) (ea [x]) (ea<|bw.drop i);rw[<-tB (a:=bw.take i),j1]at this;exact this
theorem Nt {a b:au}(e:a.bI=b.bI){d:aV}:(d.bK (.cb a)->d.bK (.cb b))/\(aV.bK (.cb a) d->aV.bK (.cb b) d):=by
 induction d with
 |cb c=>unfold aV.bK;dsimp only;exact e<|>⟨id,id⟩|fq f=>unfold aV.bK;dsimp only;exact e<|>⟨id,id⟩
theorem jl.eZ (b:jl aa bz H bv fW r e2 mX bf i pre post i1 bw)(a:e2.Pairwise aV.bK):(bw.map aV.cb).Pairwise aV.bK:=by rw[b.tn]at a;exact(gX.mp (gX.mp a).2.1).1
theorem Nn {bw:List au}:(bw.map aV.cb).Pairwise aV.bK->bw.Pairwise λa e=>a.bI<e.bI:=by
 induction bw with
 |nil=>exactλh=>mK|cons c bw g=>exactλd=>es.mpr ⟨λb f=>(es.mp d).1 (.cb b)<|eS.mpr ⟨b,f,rfl⟩,g (es.mp d).2⟩
theorem jl.Ds (d:jl aa bz H bv fW r e2 mX bf i pre post i1 bw)(q:e2.Pairwise aV.bK)(m:¬∃c,bw[i]?=J c/\c.bI=r):∀c∈bw.drop i,r<c.bI:=λc o=>by
 refine aW (p6 o) λj a=>?_;rw[nI]at a;refine ON.mpr ⟨(d.dt (i+j) c (eN _ _) a),λe=>?_⟩;refine aW (show∃b,bw[i]?=J b from⟨_,du<|~~~aj 149209467 ((dv.mp a).1)⟩) λb f=>?_;have n:=d.dt i b (cL _) f;rcases Nat.eq_zero_or_pos j with rfl|p
 ·rw[PT]at a;exact m ⟨c,a,e.symm⟩
 ·refine aW (dv.mp f) λg k=>aW (dv.mp a) λh l=>?_;have:=wU.mp (Nn<|d.eZ q) i (i+j) g h (~~~ac 4788141 p);rw[k,l]at this;exact iV.mpr (e.symm▸this) @n
theorem jl.EZ (h:jl aa bz H bv fW r e2 mX bf i pre post i1 bw)(l:e2.Pairwise aV.bK){y:au}(m:bw[i]?=J y)(e:y.bI=r):∀c∈(bw.eraseIdx i).drop i,r<c.bI:=λc k=>by refine aW (p6 k) λj a=>?_;rw[nI,Fk,if_neg (by exactλn=>ac 0x5d1404fa1165b n)]at a;refine aW (dv.mp m) λb f=>aW (dv.mp a) λd g=>?_;have:=wU.mp (Nn<|h.eZ l) i (i+j+1) b d (~~~ac 21196569);rw[f,g,e]at this;exact this
theorem jl.cS (d:jl aa bz H bv fW r e2 mX bf i pre post i1 bw):∀c∈bw.take i,c.bI<r:=λc e=>by refine aW (p6 e) λj a=>?_;have b:=(dv.mp a).1;rw[e1]at b;rw[rG (~~~aj 2088932119 b (fG _ _))]at a;exact d.de j c (~~~aj 2088932119 b (fG _ _)) a
theorem XW {x:au}(r:i<=G.length)(k:(pre++(G.map aV.cb++post)).Pairwise aV.bK)(n:∀d∈pre,d.bK (.cb ⟨x.bI,[],0⟩))(o:∀d∈post,aV.bK (.cb ⟨x.bI,[],0⟩) d)(p:∀c∈G.take i,c.bI<x.bI)(q:∀c∈G.drop i,x.bI<c.bI):(pre++((G.insertIdx i x).map aV.cb++post)).Pairwise aV.bK:=by
 have l:pre++(G.map aV.cb++post)=(pre++(G.take i).map aV.cb)++((G.drop i).map aV.cb++post):=by
  conv=>lhs;rw[<-j1 i G,cD]
  simp-iota only[bN]
 have m:pre++((G.insertIdx i x).map aV.cb++post)=(pre++(G.take i).map aV.cb)++(.cb x::((G.drop i).map aV.cb++post)):=by refine pK r<|>cD<|>cD<|>?_;simp-iota only[bN];rfl
 rw[l]at k;refine m<|>gR (gX.mp k) λt y z=>?_;have s:∀d∈pre++(G.take i).map aV.cb,d.bK (.cb x):=λd f=>by
  rcases hi.mp f with e|e
  ·exact(Nt (a:=⟨x.bI,[],0⟩) (b:=x) rfl).1 (n d e)
  ·refine aU (eS.mp e) λc h g=>?_;clear f e;subst g;exact p c h
 refine gX.mpr ⟨t,es.mpr ⟨λd f=>?_,y⟩,λd f A j=>?_⟩
 ·rcases hi.mp f with e|e
  ·refine aU (eS.mp e) λc h g=>?_;clear f e;subst g;exact q c h
  ·exact(Nt (a:=⟨x.bI,[],0⟩) (b:=x) rfl).2 (o d e)
 ·rcases dE.mp j with rfl|j
  ·exact s d f
  ·exact z d f A j
theorem Kx (a:(pre++(bw.map aV.cb++post)).Pairwise aV.bK):(pre++((bw.eraseIdx i).map aV.cb++post)).Pairwise aV.bK:=a.sublist ((((List.eraseIdx_sublist bw i).map _).append_right post).append_left pre)
theorem Y5 (Z:su c'){rec:aO}(z:bO W g Q bv eK)(b:d3 aa bz bv eK fW)(E:bv.length<80000)(gc:iM r)(m:rec.length<=aa)(q:∀(x:au) h d n y,x.bI=r->x.cU=rec->x.dg aa->nW aa d x->bO h g Q d n->ec g Q W h->d3 aa bz d n y->y.Perm (ea [x]++fW)->d.length<=bv.length+1->(∀a∈fW,d[a-1]?=bv[a-1]?)->S (x.fu aa) h):c' 50 [bS aa g Q l,.I 13,.I 0,.I r,.aA rec] W S:=by
 refine Z z (~~~ai 0x9b351922e774c8515 E) b.eO m (λx H=>⟨ba b.wi (b.gz x<|cP _ H).1,(b.gz x<|cP _ H).2⟩) (λc=>q ⟨r,rec,0⟩ W bv eK fW rfl rfl ⟨gc,m,by show 0<_;decide,⟨λp=>c,λp=>rfl⟩⟩ (λf=>absurd rfl f) z .cf b (iX _) (kN _) λp p=>rfl) λM h a d n A N R=>?_
 ·refine bW (b.pY A) λj P=>?_;have k:=j.gz (a+1) (dJ _<|cP _<|.head _);have K:=(fm.mp j.bd).1;have s:a+1≠bz:=λc=>(fm.mp K).2.2 bz b.fP (a+1) (.head _) c.symm;have T:=j.hf (dJ _<|cP _<|.head _) s;have a8:(ky aa<|au.ew aa ⟨r,rec,a+1⟩).length=aa:=Cs (by have:=zO b.eO m;have c:(au.ew aa ⟨r,rec,a+1⟩).length=rec.length-e7 aa rec.length:=au.Nu;have:=b.eO;exact az 0x832e2f90c4c1fd4 ‹_› c (ay<|ai 208180924 (ed this)));have C:=A.mv.2;refine q ⟨r,rec,a+1⟩ h (d.set a<|ky aa<|au.ew aa ⟨r,rec,a+1⟩) n (fW++[a+1]) rfl rfl ⟨gc,m,by show a+1<_;exact aj 0x18dd1a865aed9f4028a1537e96874090b9 E k.2 C,⟨λf=>absurd f<|oU a,λf=>absurd f M⟩⟩ (λp=>⟨T.1,rF k.2⟩) N R (j.oz a8) ?_ (by exact nJ<|>C) λq t=>?_
  ·show(fW++[a+1]).Perm ((if a+1=0 then []else [a+1])++fW);exact if_neg (oU a)<|>qb
  ·have G:=b.gz q (dJ _ t);have:=b.ci;have F:q≠a+1:=λc=>(fm.mp K).2.2 q t (a+1) (.head _) c;exact p7 (by exactλo=>(fo M).elim (λa9=>(fo s).elim (λi=>ac 0x2d3a8c01b83dd05ddffa1164d k.1 i) λi=>(fo F).elim (λe=>aj 0x57d7a2b86af01268e318d4e6141bfa11669 o e<|ay<|ac 1056876072 G.1 (pg this)) λe=>aj 0x5a5cf850e7556dfae43624e6141bfa11677 o e aw) λa9=>(fo s).elim (λi=>ac 0x2d3a8c01b83dd05ddffa1164d k.1 i) λi=>(fo F).elim (λe=>aj 0x57d7a2b86af01268e318d4e6141bfa11669 o e<|ay<|ac 1056876072 G.1 (pg this)) λe=>aj 0x5a5cf850e7556dfae43624e6141bfa11677 o e aw)<|>P q t
theorem K5 (p:ss x){y:au}(f:bO W g Q bv eK)(l:W.ar A)(a:d3 aa bz bv eK fW)(s:bv.length<80000)(z:fW.Perm (bf::(ea bw++i1)))(C:bz∈bf::i1)(t:bw[i]?=J y)(j:y.dg aa/\nW aa bv y)(q:∀b m,bO b g Q bv m->ec g Q W b->d3 aa bz bv m (bf::(ea (bw.eraseIdx i)++i1))->S .bE b):x 48 [bS aa g Q f8,y.fu aa] A S:=by
 have c:fW.Perm (ea [y]++(bf::(ea (bw.eraseIdx i)++i1))):=by refine z.trans ((((MX t).append_right i1).cons bf).trans ?_);exact bN<|>rJ.symm
 have k:bz∈bf::(ea (bw.eraseIdx i)++i1):=by
  rcases dE.mp C with d|d
  ·exact d<|>.head _
  ·exact .tail _ (cP _ d)
 refine p (f.ar l) a.eO j.1 j.2 (λh=>?_) (~~~aj 0x4c381291b5d1bbe02f4090b9 s a.aH) (λE=>?_) λe b n o=>?_
 ·have:=a.ci;have e:y.c6≠0:=λF=>ac 0x8350b2cf7f47bf5263fb5659fa1164d (a.gz y.c6<|cP _ h).1 (pg this) F;have r:y.c6∈fW:=c.mem_iff.mpr (dJ _ (by show y.c6∈(if y.c6=0 then []else [y.c6]);exact if_neg e<|>.head _));exact(fm.mp a.bd).2.2 _ r _ h rfl
 ·have:ea [y]=[]:=by show(if y.c6=0 then []else [y.c6])=[];exact if_pos E<|>rfl
  rw[this]at c;exact q A eK (f.ar l) l.ds (a.iS (c.symm.append_right eK) k)
 ·have:ea [y]=[y.c6]:=by show(if y.c6=0 then []else [y.c6])=_;exact if_neg e<|>rfl
  rw[this]at c;refine q b (eK++[y.c6]) n (l.ds.ak o) (a.iS ?_ k);refine(afX ?_ (c.append_right eK).symm);exact aY (bN ..)<|(wV _ _)
end
structure G0 (f h m o k d:Nat) (g:w) (n:List au) (a:List aO) (j:List Nat) (H:Nat) (c:List aV) (e:List Nat):Prop where
 ic:bO g m o a j
 c2:d3 f h a j e
 jX:fS f a H h c e
 gT:c.Pairwise aV.bK
 lN:fl c=n
 mo:H<=d
 hL:a.length<=2+600*d
 iJ:∃b,g.aQ k=J b/\b.length<=d/\∀l∈b,∃i,l.2=O.I i
def iG (b i h k c f:Nat)(d:w)(j:List au):Prop:=∃g l H e a,G0 b i h k c f d j g l H e a
structure jO (f g e:Nat) (c d:w):Prop where
 hL:∀a y,¬(a=f\/a=g)->c.U a=J y->d.U a=J y
 iJ:∀b y,b≠e->c.aQ b=J y->d.aQ b=J y
theorem jO.ak (a:jO g Q l W A)(e:jO g Q l A t8):jO g Q l W t8:=⟨λc y b d=>e.hL c y b<|a.hL c y b d,λc y b d=>e.iJ c y b<|a.iJ c y b d⟩
theorem cW.bD (b:ec g Q W A):jO g Q l W A:=⟨λe y d a=>b.U e y d a,λc y f a=>b.aQ c y a⟩
def pc (e:Int)(f g new:List au):Prop:=∃a d b,f=a++(d++b)/\g=a++(new++b)/\(∀c∈a,c.bI<e)/\(∀c∈b,e<c.bI)/\(d=[]\/∃y,d=[y]/\y.bI=e)
def xP (m:aJ):Prop:=∀{f:w} {j:O->w->Prop} {a i c e b h:Nat} {k:List au} {d:Int} {rec:aO},iG a i c e b h f k->h<=12->iM d->rec.length<=a->(∀g l x,iG a i c e b (h+1) g l->jO c e b f g->x.bI=d->x.cU=rec->pc d k l [x]->j .bE g)->m 53 [bS a c e b,ae i,.I d,.aA rec] f j
def xQ (n:aJ):Prop:=∀{h:w} {l:O->w->Prop} {g k d e b i:Nat} {f:List au} {j:Int},iG g k d e b i h f->i<=12->(∀a m,iG g k d e b (i+1) a m->jO d e b h a->pc j f m []->(∃c∈f,c.bI=j)->l (.bs ag) a)->(∀a,iG g k d e b (i+1) a f->jO d e b h a->(∀c∈f,c.bI≠j)->l (.bs ap) a)->n 54 [bS g d e b,ae k,.I j] h l
section
variable {F N:aJ}{aa bz aZ a0 cE n H i bf:Nat}{bv:List aO}{eK fW i1:List Nat}{r:Int}{e2 pre post:List aV}{mX:List (Nat×Nat)}{bw:List au}
theorem d3.mr {eU:Nat}(a:n<=12)(b:bv.length<=2+600*n):bv.length<=7202:=ac 0x5552a488ec897ac2edb5034ed a b
theorem Oc (l:qQ F)(a:kj aa bz H g s o M Q L8 j)(K:s.Pairwise aV.bK)(c:bO A aZ a0 o M)(r:H<=n)(t:g<=2+600*(n+1))(m:A.aQ cE=J R8)(f:R8.length<=n)(G:n<=12)(z:∀h∈R8,∃i,h.2=O.I i)(mX:jO aZ a0 cE W A)(q:∀b,iG aa bz aZ a0 cE (n+1) b (fl s)->jO aZ a0 cE W b->S .bE b):F 98 [bS aa aZ a0 cE,ae bz] A S:=l m (~~~ac 0x3c744a6781fe8 f G) z λb k e R N p E C=>q b ⟨o,M,Q,L8,j,⟨e _ _ c.U,e _ _ c.eX,c.eq⟩,a.c2,a.jX,by have:=a.wm.2 [] [];rw[dn,dn]at this;exact this K,a.wm.1,ba a.Lo<|jd r,ba a.hL t,k,p,by exact aj 0xbbcb08fd751e f E,C⟩ (mX.ak ⟨λP y T d=>e P y d,λx y n d=>N x y n d⟩)
theorem wt (a:jl aa bz H bv fW r e2 mX bf i pre post i1 bw):fl e2=(fl pre++bw.take i)++(bw.drop i++fl post):=by
 rw[a.tn,iv,iv,ws];conv=>lhs;rw[<-j1 i bw]
 simp-iota only[bN]
theorem tb {y:au}:∀{i:Nat} {bw:List au},bw[i]?=J y->bw.drop i=y::(bw.eraseIdx i).drop i/\(bw.eraseIdx i).take i=bw.take i
 |0,c::bw,a=>by cases a;exact⟨rfl,rfl⟩
 |i+1,c::bw,a=>⟨(tb (i:=i) (bw:=bw) a).1,congrArg (c::·) (tb (i:=i) (bw:=bw) a).2⟩|_,[],a=>nomatch a
theorem zR (b:jl aa bz H bv fW r e2 mX bf i pre post i1 bw):∀c∈fl pre++bw.take i,c.bI<r:=λc d=>by
 rcases hi.mp d with a|a
 ·exact b.rr _ (wr a)
 ·exact b.cS c a
theorem zQ (b:jl aa bz H bv fW r e2 mX bf i pre post i1 bw)(d:∀c∈G,r<c.bI):∀c∈G++fl post,r<c.bI:=λc e=>by
 rcases hi.mp e with a|a
 ·exact d c a
 ·exact b.Nj _ (wr a)
end
section
variable {F N:aJ}
theorem Mg (c:bO W Q l o M)(b:W.U g=D):¬(g=Q\/g=l):=λa=>a.elim (λa=>by rw[a,c.U]at b;cases b) (λa=>by rw[a,c.eX]at b;cases b)
theorem abQ (m8:sG F)(m9:qM F)(m':ss F)(n8:sw F)(n9:qN F)(a':md F)(n':qQ F):xQ (bB F N):=λ{r9 h9 h S p q t Q A8 g9} ⟨R,t8,H,s8,h8,b⟩ o s' s9=>by
 refine eP b.iJ λa8 b8 d8 c'=>?_;have l:=b.c2.eO;have K:=d3.mr (eU:=0) o b.hL;refine bU JN [J (bS h p q t),J (ae S),J (.I g9),D,D,D,D,D,D] rfl rfl (ft<|n8 b.ic l b.jX b.gT (by have:=b.mo;exact ac 29696251471992 o this) λe9 C a9 g8 i pre post f' j j8 q8 Z f d b9=>?_);have d9:=d.cY.rc;have G:=b.mo;induction j8 with
 |false=>
  refine bx (bH ?_);refine s9 e9 ⟨R,t8,H,s8,h8,b.ic.ar f,b.c2,b.jX,b.gT,b.lN,rM b.mo,by have:=b.hL;exact ac 0xc9e99fc7e09fc67cc270 this,a8,f.aQ _ _ b8,rM d8,c'⟩ f.ds.bD λc b'=>?_;rw[<-b.lN,wt d]at b';rcases hi.mp b' with P|P
  ·exact t7 (zR d c P)
  ·exact oH (zQ d (d.Ds b.gT λn=>nomatch b9.mpr n) c P)
 |true=>
  refine aU (b9.mp rfl) λy e M=>?_;have p8:=d.cY.D2;refine v2 d.mE λd' j' z9 u9 c w8 c8 eU=>?_;have p':=d.mE;refine aW (show∃g,g8=g+1 from⟨g8-1,by exact bo (ac 42823471152 aw)<|ac 10545038814<|ay<|ai 132202 d'⟩) λg z=>?_;clear d' p';subst z;have z:=Z;rw[cD]at z;have e8:=d.dg y (dT e);have p9:(j.map<|au.bQ h)[i]?=J (y.bQ h):=by rw[cv,e];rfl
  have c9:j'.length<=1000:=eU.cu.aH<|>ai 11639780460 (co l);refine cI ?_;intro r;refine bx (bc<|ft<|av z<|mx ?_);show a6 (bn F N) H1.aP.aP.aP [J (bS h p q t),J (ae S),J (.I g9),J (.ah C),J (.bs ag),J (ae<|g+1),J (ae i),D,D] e9 (dI h9);refine cl ?_;intro r T;refine cc (a' (b.ic.ar f) c8 c9 λa x9 w' k8 q'=>n9 (v:=.br a) k8 eU.cu l p9 e8.1 λx' r8=>K5 @m' (b.ic.ar f) (q'.ak r8) b.c2 (~~~ai 0x46d8458d64a37bd0 K) d.kH p8 e e8 λy8 g' s A i'=>?_);refine b3 ?_;intro B8 r T;refine aF (a' s c8 c9 λu8 y9 x8 k9 m=>?_);have o9:bT (g+1)+12<=h:=by have:=@og<|g+1;exact ac 0x118a0468c4bd5eaa (ed l) this
  refine cl ?_;intro r T;refine cc (m8 k9 eU l o9 ((dv.mp e).1) λe' v9 z' u' v8 v' k' k W=>?_);have h':bO e' p q R g':=⟨k.U _ _<|m.U _ _ s.U,k.U _ _<|m.U _ _ s.eX,s.eq⟩;have o':m2 h S H R g' ((g+1)::(ea (j.eraseIdx i)++f')) a9 (g+1) pre post f' (j.eraseIdx i):=⟨i',iX _,d.cY,λt9 q9=>d.dg t9<|Fv q9,by exact dN 0x25df22a6807c208f678e414a87048607e62 (ed l) W.iL aw aw aw,by exact az 0x7aaa7cf2e284639cfac71c0c944140abb88f5cc51f1 o K d9 G,by exact ac 29958444755064 o G⟩;have f9:¬(C=p\/C=q):=Mg b.ic q8;have l8:e'.U C=J ((a9.reverse++[(g+1,i)]).map fk):=k.U _ _ (m.U _ _<|A.U _ _ f9 Z);refine cI ?_;intro r;refine cc (m9 h' o' k' W f9 l8 λf8 z8 A9 w9 y' t' j9 i8 E=>?_);have l9:jO p q t r9 f8:=⟨λx y Q n=>E.U _ _ Q<|k.U _ _<|m.U _ _<|A.U _ _ Q<|f.U _ _ n,λx y A' n=>E.aQ _ _<|k.aQ _ _<|m.aQ _ _<|A.aQ _ _<|f.aQ _ _ n⟩;have o8:f8.aQ t=J a8:=E.aQ _ _ (k.aQ _ _<|m.aQ _ _<|A.aQ _ _<|f.aQ _ _ b8);refine cc (Oc @n' j9 (Kx (i:=i)<|d.tn▸b.gT) i8 b.mo (by have:=b.hL;exact az 0xb40021d1ecac8057290387f172be49896c568f392c5a724aaf39eee16cd959 K d9 G this) o8 d8 o c' l9 λr' i9 l'=>?_);refine cl ?_;intro r T;refine bH (s' r' _ i9 l' ⟨fl pre++j.take i,[y],(j.eraseIdx i).drop i++fl post,?_,?_,zR d,zQ d<|d.EZ b.gT e M,.inr ⟨y,rfl,M⟩⟩ ?_)
  ·refine aY (b.lN ..)<|wt d<|>(tb e).1<|>?_;rfl
  ·refine V (iv ..)<|V (iv ..)<|V (ws ..)<|aY ((tb e).2 ..)<|?_;conv=>lhs;rw[<-j1 i (j.eraseIdx i)]
   simp-iota only[bN,gW]
  ·refine⟨y,?_,M⟩;exact aY (b.lN ..)<|wt d<|>(tb e).1<|>cP _ (.head _)
end
section
variable {F N:aJ}{aa bz aZ a0 cE:Nat}
noncomputable def th (b:Nat):b2:=b.repeat (λ|.Y _ a=>a|.L=>.L) H6
theorem Lu (f':sr F)(g8:qM F)(g9:qO F){H i d b a c f8:Nat}{x:au}{pre post:List aV}{rec:aO}(s:Bool)(p:bO W aZ a0 o M)(r:m2 aa bz H o M j e d pre post a8 (w8.insertIdx i x))(j9:f6 aa o d (.cJ G))(b9:W.a4 a=J Z)(T:c0 aa (bT d) Z w8 b8 t c f8 [])(P:i<=w8.length)(c9:¬(b=aZ\/b=a0))(c8:W.U b=J ((e.reverse++[(d,i)]).map fk))(q:∀f z A K Q E,kj aa bz H (o.length+9*e.length+10) (pre++((w8.insertIdx i x).map .cb++post)) z A K Q E->bO f aZ a0 z A->(∀b y,¬(b=aZ\/b=a0)->W.U b=J y->f.U b=J y)->(∀b y,W.aQ b=J y->f.aQ b=J y)->a6 (bn F N) (th 7) [J (bS aa aZ a0 cE),J (ae bz),J (.I m),J (.aA rec),J (.ah b),J (.bs s),J (ae d),J (ae i),J (.aA<|x.bQ aa),J (bd (.br a) d aa<|bT d),D] f (dI S)):a6 (bn F N) (th 6) [J (bS aa aZ a0 cE),J (ae bz),J (.I m),J (.aA rec),J (.ah b),J (.bs s),J (ae d),J (ae i),J (.aA<|x.bQ aa),J (bd (.br a) d aa<|bT d),D] W (dI S):=by
 have b':=r.c2.eO;have h8:x.dg aa:=(r.dg x<|by exact pK P<|>cP _ (.head _)).1;have g':bT d+12<=aa:=by have:=@og d;exact ac 0x118a0468c4bd5eaa (ed b') this
 have a':∀h,W.ar h->∀C:O->w->Prop,(∀f,a6 (bn F N) (th 7) [J (bS aa aZ a0 cE),J (ae bz),J (.I m),J (.aA rec),J (.ah b),J (.bs s),J (ae d),J (ae i),J (.aA<|x.bQ aa),J (bd (.br a) d aa<|bT d),D] f (dI S)->C .bE f)->F 38 [bS aa aZ a0 cE,.ah b,bd (.br a) d aa (bT d),.aA (x.bQ aa)] h C:=λh l C n=>f' (p.ar l) r j9 (l.a4 _ _ b9) T P c9 (l.U _ _ c8) λf z A K Q E e8 d9 h' h9=>n f (q f z A K Q E e8 d9 (λb y R g=>h' b y R<|l.U _ _ g) λb y g=>h9 b y<|l.aQ _ _ g);refine cI ?_;intro l';refine bx (kB ?_);induction s with
 |false=>exact cc (a' W .cf _ λf n=>bc n)|true=>
  refine g9 b9 T b' g' P h8 (λh i8=>cc<|a' h i8 _ λf n=>bc n) λh k' l9 k8 k9 l8 e' k c'=>?_
  ·refine cc (g8 ⟨k.U _ _ p.U,k.U _ _ p.eX,p.eq⟩ r e' c' c9 (k.U _ _ c8) λi9 j8 j' f9 i' d8 e9 d' a9=>?_);exact bc (q i9 j8 j' @f9 i' d8 e9 d' (λb y R g=>a9.U _ _ R<|k.U _ _ g) λb y g=>a9.aQ _ _<|k.aQ _ _ g)
theorem WP {H i P:Nat}{n pre post:List aV}(b:Bool)(a:jl aa bz H o M m n e P i pre post j G)(g:n.Pairwise aV.bK)(s:b=ag↔∃c,G[i]?=J c/\c.bI=m):i<=(if b then G.eraseIdx i else G).length/\(pre++((if b then G.eraseIdx i else G).map aV.cb++post)).Pairwise aV.bK/\(∀c∈(if b then G.eraseIdx i else G).take i,c.bI<m)/\(∀c∈(if b then G.eraseIdx i else G).drop i,m<c.bI)/\(∀c∈(if b then G.eraseIdx i else G),c∈G)/\∀x:au,pc m (fl n) (fl<|pre++(((if b then G.eraseIdx i else G).insertIdx i x).map aV.cb++post)) [x]:=by
 have t:=a.lF;have r:∀(d h:List au),i<=d.length->d.take i=G.take i->G.drop i=h++d.drop i->(∀c∈d.drop i,m<c.bI)->(h=[]\/∃y,h=[y]/\y.bI=m)->∀x:au,pc m (fl n) (fl<|pre++((d.insertIdx i x).map aV.cb++post)) [x]:=λd h k E F K N x=>by
  refine⟨fl pre++G.take i,h,d.drop i++fl post,?_,?_,zR a,zQ a @K,N⟩
  ·refine wt a<|>F<|>?_;simp-iota only[bN]
  ·refine iv<|>iv<|>ws<|>pK @k<|>E<|>?_;simp-iota only[bN]
 induction b with
 |false=>refine if_neg (~~~_)<|>?_;have A:=a.Ds g λf=>nomatch s.mpr f;exact⟨t,a.tn▸g,a.cS,A,λc f=>f,r G [] t rfl rfl A<|.inl rfl⟩|true=>refine if_pos rfl<|>aU (s.mp rfl) λy l p=>?_;have k:=(dv.mp l).1;have z:i<=(G.eraseIdx i).length:=AM @k<|>aj 352454232859 @k aw;exact bW (tb l) λC q=>⟨z,Kx<|a.tn▸g,by exact q<|>a.cS,a.EZ g l p,λc f=>Fv f,r _ [y] z q C (a.EZ g l p)<|.inr ⟨y,rfl,p⟩⟩
theorem XM (i':sr F)(j8:qM F)(t8:su F)(t9:vd F)(j9:qO F)(t':sG F)(u8:md F)(u9:qQ F){a9 nU:w}{Q:O->w->Prop}{l H i r t:Nat}{B' sg h8 uI b8:List Nat}{l' pre post:List aV}{rec:aO}(b:Bool)(j:G0 aa bz aZ a0 cE l a9 w8 o B' H l' h8)(c':l<=12)(gc:iM m)(y8:rec.length<=aa)(E9:a9.aQ cE=J n)(x8:n.length<=l)(w':∀e8∈n,∃i,e8.2=O.I i)(h:jl aa bz H o h8 m l' e r i pre post b8 G)(j':b=ag↔∃c,G[i]?=J c/\c.bI=m)(n9:bO nU aZ a0 o sg)(o8:d3 aa bz o sg uI)(m8:uI.Perm (r::(ea (if b then G.eraseIdx i else G)++b8)))(s8:jO aZ a0 cE a9 nU)(g9:¬(t=aZ\/t=a0))(x':nU.U t=J ((e.reverse++[(r,i)]).map fk))(v8:nU.aQ cE=J n)(q:∀d m9 x,iG aa bz aZ a0 cE (l+1) d m9->jO aZ a0 cE a9 d->x.bI=m->x.cU=rec->pc m w8 m9 [x]->Q .bE d):a6 (bn F N) (th 3) [J (bS aa aZ a0 cE),J (ae bz),J (.I m),J (.aA rec),J (.ah t),J (.bs b),J (ae r),J (ae i),D,D,D] nU (dI Q):=by
 have T:=j.c2.eO;have f9:=d3.mr (eU:=0) c' j.hL;have k9:=h.cY.rc;have f8:=j.mo;refine v2 h.mE λl8 q' F' C9 c E8 v' eU=>ZD (WP b h j.gT j') λR p8 p9 p' q9 q8=>cI ?_;intro G9;refine aF (Y5 @t8 n9 o8 (~~~ai 0x46d8458d64a37bd0 f9) gc y8 λx F9 b9 C8 n8 W y' f' y9 h9 s' o9 B8 k8 o'=>t9 (co T) f' λA8 g8=>?_);have c9:ec aZ a0 nU A8:=s'.ak g8.ds;have d8:∀q,q∈r::(ea (if b then G.eraseIdx i else G)++b8)->b9[q-1]?=o[q-1]?:=λq f=>o' q (m8.mem_iff.mpr f);refine aW (show∃g,r=g+1 from⟨r-1,by exact bo (ac 42823471152 aw)<|ac 10545038814<|ay<|ai 132202 l8⟩) λg r8=>?_;clear l8;subst r8;have w9:b9[g]?=J q':=(d8 (g+1)<|.head _).trans v';have m':f6 aa b9 (g+1) (.cJ G):=h.mE.h3 (d8 _<|.head _);refine aF (u8 (h9.ar g8) w9 (by rw[eU.cu.aH];exact ai 11639780460<|co T) λa d9 E' h' a8=>?_);have c8:=(h9.ar g8).ar a8;have v9:bT (g+1)+12<=aa:=by have:=@og<|g+1;exact ac 0x118a0468c4bd5eaa (ed T) this
 have k':bM ((if b then G.eraseIdx i else G).map<|au.bQ aa)<=aa-bT (g+1)-8->m2 aa bz H b9 C8 n8 e (g+1) pre post b8 ((if b then G.eraseIdx i else G).insertIdx i x):=λx9=>by
  refine⟨o9,?_,h.cY.h3 λq f=>d8 q<|.tail _<|cP _ f,λb' C=>?_,?_,by exact bP 0x10be9748daa9f83ebd549d5f01ebfa225d72e8504534069f1 c' f9 k9 f8 k8,by exact ac 29958444755064 c' f8⟩
  ·refine B8.trans ((m8.append_left _).trans<|rJ.trans<|oI _ ?_);exact aY (bN ..)<|(Z5 R).symm.append_right b8
  ·rw[pK R]at C;have z9:b'=x\/b'∈(if b then G.eraseIdx i else G):=by
    rcases hi.mp C with f|f
    ·exact .inr (lj f)
    ·rcases dE.mp f with f|f
     ·exact .inl f
     ·exact .inr (li f)
   rcases z9 with rfl|f
   ·exact⟨f',y9⟩
   ·have e':=h.dg b' (q9 b' f);exact⟨e'.1,λC=>⟨(e'.2 C).1,(d8 b'.c6<|.tail _<|dJ _<|DP C f).trans (e'.2 C).2⟩⟩
  ·have e8:bM (((if b then G.eraseIdx i else G).insertIdx i x).map<|au.bQ aa)=bM ((if b then G.eraseIdx i else G).map<|au.bQ aa)+ab (x.bQ aa):=by
    refine pK R<|>cD<|>cD<|>la<|>la<|>?_;conv=>rhs;rw[<-j1 i (if b then G.eraseIdx i else G),cD,la]
    show _+(ab (x.bQ aa)+0+_)=_;exact bo (aj 28987372245336) (aj 46654291797072)
   have:=Cx T f';exact bP 0x12dbf4082572e7fe x9 e8 this
 have B9:(pre++(((if b then G.eraseIdx i else G).insertIdx i x).map aV.cb++post)).Pairwise aV.bK:=XW R p8 (by exact W<|>h.rr) (by exact W<|>h.Nj) (by exact W<|>p9) (by exact W<|>p');have i9:∀(a' d:w) (p:List aO) (s:List Nat) (A:Nat) (K:List aV) (z:List Nat) (a:Nat),(∀t y,d9.U t=J y->a'.U t=J y)->(∀t y,d9.aQ t=J y->a'.aQ t=J y)->kj aa bz H (b9.length+9*e.length+10) (pre++(((if b then G.eraseIdx i else G).insertIdx i x).map aV.cb++post)) p s A K z->bO d aZ a0 p s->(∀t y,¬(t=aZ\/t=a0)->a'.U t=J y->d.U t=J y)->(∀t y,a'.aQ t=J y->d.aQ t=J y)->a6 (bn F N) (th 7) [J (bS aa aZ a0 cE),J (ae bz),J (.I m),J (.aA rec),J (.ah t),J (.bs b),J (ae<|g+1),J (ae i),J (.aA<|x.bQ aa),J (bd (.br a) (g+1) aa<|bT<|g+1),D] d (dI Q):=λa' d p s A K z a Z E P M z' l9=>by have u':d.aQ cE=J n:=l9 _ _ (E _ _<|a8.aQ _ _<|c9.aQ _ _ v8);have r':jO aZ a0 cE a9 d:=s8.ak ⟨λt y l k=>z' t y l<|Z t y<|a8.U _ _<|c9.U _ _ l k,λt y d' k=>l9 t y<|E t y<|a8.aQ _ _<|c9.aQ _ _ k⟩;refine cc (Oc @u9 P B9 M j.mo (by have:=j.hL;exact bP 0x9c1ac1226849b914a2a3bc64c9b266c36ab99afe121286d99e778a4fae5a5c529f75859 f9 k9 f8 k8 this) u' x8 c' w' r' λA' n' s9=>?_);exact q A' _ x n' s9 W y' (j.lN▸q8 x)
 have i8:d9.U t=J ((e.reverse++[(g+1,i)]).map fk):=a8.U _ _ (c9.U _ _ g9 x');induction b with
 |false=>have e9:=eU.iL;refine bx (bc ?_);exact Lu @i' @j8 @j9 ap c8 (k' (by show bM (G.map<|au.bQ aa)<=_;exact bP 0xe9f517e73a586cb6804 e9 aw aw)) m' h' eU h.lF g9 i8 λd p s A K z P M Z E=>i9 d9 d p s A K z a (λd' d' k=>k) (λd' d' k=>k) P M Z E|true=>refine aU (j'.mp rfl) λy z8 F8=>bx (cc<|t' h' eU T v9 (dv.mp z8).1 λA9 D9 G8 C' D8 D' r9 S g'=>bc ?_);have e9:=g'.iL;exact Lu @i' @j8 @j9 ag ⟨S.U _ _ c8.U,S.U _ _ c8.eX,c8.eq⟩ (k' (by show bM ((G.eraseIdx i).map<|au.bQ aa)<=_;exact bP 0xe9f517e73a586cb6804 e9 aw aw)) m' r9 g' R g9 (S.U _ _ i8) λd p s A K z P M Z E=>i9 A9 d p s A K z a S.U S.aQ P M Z E
theorem abP (S:sr F)(T:qM F)(W:ss F)(Z:su F)(a8:sw F)(a9:vd F)(a':qN F)(b8:qO F)(b9:sG F)(r:md F)(b':qQ F):xP (bB F N):=λ{i9 Q aa bz aZ a0 cE j' l8 E rec} ⟨k9,l9,H,j9,f',b⟩ m gc d9 q=>by
 refine eP b.iJ λg' k c' c9=>?_;have l:=b.c2.eO;have d8:=d3.mr (eU:=0) m b.hL;refine bU JY [J (bS aa aZ a0 cE),J (ae bz),J (.I E),J (.aA rec),D,D,D,D,D,D,D] rfl rfl (ft<|a8 b.ic l b.jX b.gT (by have:=b.mo;exact ac 29696251471992 m this) λnU t h9 p i pre post k8 P g e8 h d e s=>?_);have f:=h;rw[cD]at f;have o:¬(t=aZ\/t=a0):=Mg b.ic e8;refine ft (av f<|mx ?_);show a6 (bn F N) (th 2) [J (bS aa aZ a0 cE),J (ae bz),J (.I E),J (.aA rec),J (.ah t),J (.bs g),J (ae p),J (ae i),D,D,D] nU (dI Q);have G:=λ{A:w} {sg uI:List Nat}=>XM (N:=N) (Q:=Q) (t:=t) (nU:=A) (sg:=sg) (uI:=uI) @S @T @Z @a9 @b8 @b9 @r @b' g b m gc d9 k c' c9 e s;induction g with
 |false=>refine cl ?_;intro f8 f9;refine bx (bc ?_);exact G (b.ic.ar d) b.c2 e.kH d.ds.bD o h (d.aQ _ _ k) q|true=>
  refine aU (s.mp rfl) λy n i8=>v2 e.mE λx g9 k' g8 c h8 c8 eU=>aW (show∃C,p=C+1 from⟨p-1,by exact bo (ac 42823471152 aw)<|ac 10545038814<|ay<|ai 132202 x⟩) λC f=>?_;clear x;subst f;have z:=e.dg y (dT n);have d':(P.map<|au.bQ aa)[i]?=J (y.bQ aa):=by refine cv<|>n<|>?_;rfl
  refine cl ?_;intro f8 f9;refine bx (cc<|r (b.ic.ar d) c8 (by exact eU.cu.aH<|>ai 11639780460 (co l)) λa A h' R e9=>a' (v:=.br a) R eU.cu l d' z.1 λi' e'=>K5 @W (b.ic.ar d) (e9.ak e') b.c2 (~~~ai 0x46d8458d64a37bd0 d8) e.kH e.cY.D2 n z λj8 sg K j M=>bc ?_);exact G K M (iX _) (d.ds.ak j).bD o (j.U _ _ o h) (j.aQ _ _<|d.aQ _ _ k) q
end
def g6 (d:w)(c:Nat):Prop:=∃a b:Int,d.U c=J [.I a,.I b]/\0<=a/\0<=b/\b<2147483647
def xR (e:aJ):Prop:=∀{a:w} {d:O->w->Prop} {f:List Int},(∀c b,a.U c=D->g6 b c->a.ar b->d (.ah c) b)->e 55 [.fP (f.map .I)] a d
def pp (f:aJ):Prop:=∀{b:w} {d:O->w->Prop} {a kh:Nat},g6 b a->1<=kh->kh<=1000->(∀c e,e<kh->g6 c a->cW (·=a) b c->d (ae e) c)->f 56 [.ah a,ae kh] b d
def xS (h:aJ):Prop:=∀{b:w} {d:O->w->Prop} {a e:Nat} {f:List (Int×O)},g6 b a->b.aQ e=J f->f.length<=60->(∀c g,iM g->g6 c a->cW (·=a) b c->d (.I g) c)->h 57 [.ah a,.fB e] b d
def xT (f:aJ):Prop:=∀{c:w} {e:O->w->Prop} {b a:Nat},g6 c b->a=64\/a=128->(∀d rec,rec.length<=a->g6 d b->cW (·=b) c d->e (.aA rec) d)->f 58 [.ah b,ae a] c e
section
variable {F N:aJ}
theorem aam {cell:Int}:0<=(if cell< -1-cell then-1-cell else cell):=by
 by_cases a:cell<0
 ·have b:0<=-1-cell:=ua (Int.le_sub_one_of_lt a);exact if_pos (Ax a b)<|>b
 ·have a:=gk.mp a;exact if_neg (gk.mpr<|fU (Int.sub_le_self (-1) a)<|fU (~~~_) a)<|>a
theorem abR:xR (bB F N):=λ{h e b} q=>by
 have key:∀cell:Int,a6 (bn F N) H7.aP.aP [J (.fP<|b.map .I),J (.I cell),D,D,D] h (dI e):=λcell=>by
  have m:=@aam cell;refine aF ?_;show a6 (bn F N) _ [J (.fP<|b.map .I),J (.I cell),J (.I (if cell< -1-cell then-1-cell else cell)),D,D] h (dI e);generalize (if cell< -1-cell then-1-cell else cell)=a at*;refine cl ?_;intro r t;refine aF (aC (~~~_)<|aC (.inr ⟨by decide,by decide⟩)<|aC (~~~_) ?_);have g:0<=(a%2147483629+17)*48271%2147483647/\(a%2147483629+17)*48271%2147483647<2147483647:=⟨rE _<|~~~_,Au _<|~~~_⟩;generalize (a%2147483629+17)*48271%2147483647=s at*;refine bH ?_;have j:∀c:Int,(c=0\/c=1)->(jQ a\/jQ c)/\0<=a*c:=λc d=>by
   rcases d with rfl|rfl
   ·exact⟨.inr ⟨by decide,by decide⟩,by exact Int.mul_zero<|>t6 _⟩
   ·exact⟨.inr ⟨by decide,by decide⟩,by exact Int.mul_one<|>m⟩
  have d:(if dk (a>=1000000000000000000)=ag then(1:Int)else 0)=0\/(if dk (a>=1000000000000000000)=ag then(1:Int)else 0)=1:=by
   split
   ·exact .inr rfl
   ·exact .inl rfl
  have f:=j _ d;refine aC f.1 (hy (show 2<=1000 by decide) λp o n i l=>?_);exact q p o n ⟨_,_,i,f.2,g.1,g.2⟩ l
 refine bU J2 [J (.fP<|b.map .I),D,D,D,D] rfl rfl (aF<|bx ?_);induction b using cj with
 |nil=>exact bc (key 0)|cons x b=>refine pI (show(((lR O.I<|x::b).length:Nat):Int)>0 from cz.mpr<|hU _)<|cI ?_;intro r;refine aF (fY (hF:=lR O.I<|x::b) (k:=0) (v:=.I x) rfl ?_);exact bc (key x)
theorem abS:pp (bB F N):=λ{i r b j} ⟨a,d,g,m,E,G⟩ z A q=>by
 have h:(0:Int)<(j:Int):=cz.mpr @z;have o:∀(k:w) (f:Int),g6 k b->cW (·=b) i k->0<=f->r (.I<|f%(j:Int)) k:=λk f s x M=>by have p:0<=f%(j:Int):=rE _ (oH h);have C:=Au f h;have:=q k (f%(j:Int)).toNat ((uc @p).mpr @C) s x;unfold ae at this;rw[ie @p]at this;exact this
 refine bU J5 [J (.ah b),J (ae j),D,D] rfl rfl (bx<|av g ?_);refine eh (λc=>?_) (λc=>?_)
 ·refine aF (av g<|aC h ?_);refine cI ?_;intro K;refine lO (av g<|aC ⟨h,pD<|~~~ai 0x21318939ce739ce739ce6c695bd884 @A⟩<|av g ?_);exact bH<|o _ a ⟨a/(j:Int),d,cg,OM m<|kM h,E,G⟩ gb m
 ·refine cl ?_;intro K P;refine bc (lO<|av g<|aC (.inr ⟨by decide,by decide⟩)<|aC (~~~_)<|av g ?_);have l:0<=(d*39373+7)%2147483647/\(d*39373+7)%2147483647<2147483647:=⟨rE _<|~~~_,Au _<|~~~_⟩;generalize (d*39373+7)%2147483647=e at*;have n:(i.a1 b<|[.I a,.I d].set 1<|.I e).U b=J [.I a,.I e]:=cg;have y:cW (·=b) i (i.a1 b<|[.I a,.I d].set 1<|.I e):=gb;refine bH ?_;show ao (bn F N) _ _ (i.a1 b<|[.I a,.I d].set 1<|.I e) _;generalize i.a1 b ([.I a,.I d].set 1<|.I e)=H at*;have t:jQ e:=⟨Ax (~~~_) l.1,mI l.2<|~~~_⟩;refine av n (av n<|aC (.inl t)<|aC (~~~_)<|aC ⟨by decide,by decide,by decide⟩<|aC h ?_);exact o H _ ⟨a,e,n,m,l.1,l.2⟩ y (OM (rE _<|~~~_)<|~~~_)
end
theorem g6.ar (b:g6 W g)(l:W.ar A):g6 A g:=ia b λa c d b=>⟨a,c,l.U _ _ d,b⟩
noncomputable def pZ:List Int:=[1,2,7,30,31,100,128,-1,-5,20000,1099511627776,9223372036854775807,-9223372036854775808]
theorem aeZ:∀x∈pZ,iM x:=by
 have:pZ.all (λx=>dk (-9223372036854775808<=x/\x<9223372036854775808))=ag:=by decide+kernel
 intro x a;have:=of_decide_eq_true (f0.mp this x a);exact this
noncomputable def wk (a:Nat):List Nat:=[0,3,10,24,a-36,a-35,a-34,a]
section
variable {F N:aJ}
theorem NU {C:cG}{i g:Nat}(o:f.b7 i=J (.fB g))(m:W.aQ g=J n)(d:n.length<=60)(q:∀b e (a:List Int),W.U b=D->e.U b=J (a.map .I)->a.Perm (n.map (·.1))->a.Pairwise (·<=·)->W.ar e->S (.ah b) e):ao C (.bt .pW<|.oo<|.X i) f W S:=by
 have k:∀{l:List (Int×O)},io (l.map λc=>O.I c.1)=J (l.map (·.1)):=by
  intro l;induction l with
  |nil=>rfl|cons x l s=>show(io<|l.map _).map _=_;refine s<|>?_;rfl
 refine s6<|gf o<|mm m (hy (by exact ax<|>ai 0xad723bcd5bc d) λb E A c l=>av c ?_);refine k<|>⟨by exact ax<|>ai 423695142332 d,λa h p=>hy (by exact ax<|>h.length_eq<|>ax<|>ai 0xad723bcd5bc d) λz y r j t=>q z y a (l.hM r) j h p<|l.ak t⟩
theorem Uh (a:Int):iM (if-9223372036854775808<(if a<9223372036854775808-1 then a else 9223372036854775808-1)then(if a<9223372036854775808-1 then a else 9223372036854775808-1)else-9223372036854775808):=by
 have d:(if a<9223372036854775808-1 then a else 9223372036854775808-1)<(9223372036854775808:Int):=by
  by_cases c:a<9223372036854775808-1
  ·exact V (if_pos c ..)<|mI c (~~~_)
  ·refine V (if_neg c ..)<|?_;decide
 generalize (if a<9223372036854775808-1 then a else 9223372036854775808-1)=b at*;by_cases c:-9223372036854775808<b
 ·exact V (if_pos c ..)<|⟨kM c,d⟩
 ·exact V (if_neg c ..)<|⟨t6 _,by decide⟩
theorem abT (k:pp F):xS (bB F N):=λ{h C b p h8} n d8 S q=>by
 refine bU J4 [J (.ah b),J (.fB p),D,D,D,D] rfl rfl (aF<|NU rfl d8 S λi i' g e9 H e8 h' f8=>?_);have d9:g.length<=60:=e8.length_eq<|>ax<|>S;have f':∀{i9:w},g6 h b->h.U i=D->i≠b:=λc8 Q s=>ia c8 λa b9 r g9=>by rw[s,r]at Q;cases Q
 have a9:i≠b:=@f' h n e9;have a':∀d,cW (·=b) h d->g6 d b->a6 (bn F N) Ib.aP.aP [J (.ah b),J (.fB p),D,J (.ah i),D,D] d (dI C):=λd c9 E=>by
  refine b3 ?_;intro g' z A;refine aF (aC (ct (show 13<=1000 by decide)) λe t=>?_);have b':(d.a1 e<|pZ.map .I).U e=J (pZ.map .I):=cg;have Z:=dS (x:=pZ.map .I) t;show a6 (bn F N) _ [J (.ah b),J (.fB p),D,J (.ah i),J (.ah e),D] (d.a1 e<|pZ.map .I) (dI C);generalize d.a1 e (pZ.map .I)=y at*;have g8:e≠b:=λs=>by refine ia E λa b9 r g9=>?_;rw[s,r]at t;cases t
  refine cl ?_;intro z A;refine bH (ta<|gJ rfl ?_);refine k (kh:=13) (E.ar Z) (~~~_) (~~~_) λa8 T R o f=>aW (show∃x,pZ[T]?=J x from⟨_,du R⟩) λx l=>av (f.U _ _ g8 b') (fY (v:=.I x) (by refine cv<|>l<|>?_;rfl) ?_);exact q a8 x (aeZ x<|dT l) o (c9.ak<|Z.ds.ak f)
 refine b3 ?_;intro g' z A;refine bx (kB<|CH rfl H λd W=>?_);have m:=f8.ak W;induction g using cj with
 |nil=>exact bc (a' d m.ds<|n.ar m)|cons j g=>refine k (kh:=2) (n.ar m) (~~~_) (~~~_) λy T R G P=>?_;have M:cW (·=b) h y:=m.ds.ak P;refine eh (λc=>?_) (λc=>bc<|a' y M G);have K:=P.U _ _ a9 (W.U _ _ H);refine cl ?_;intro z A;refine aF (kX<|kX<|ta<|gJ rfl ?_);refine av K<|ax<|>k (kh:=(j::g).length) G (hU _) (~~~ai 0xad723bcd5bc d9) λa8 e' d' o f=>aW (show∃x,(j::g)[e']?=J x from⟨_,du d'⟩) λx l=>av (f.U _ _ a9 K) (fY (v:=.I x) (by refine cv<|>l<|>?_;rfl) ?_);refine k (kh:=3) o (~~~_) (~~~_) λf9 i8 h9 b8 c'=>bH<|q f9 _ ?_ b8 (M.ak<|f.ak c');exact Uh _
theorem abU (E:pp F):xT (bB F N):=λ{m Z k d} t h q=>by
 have go:∀b n,m.U b=D->n.U b=J ((wk d).map ae)->m.ar n->ao (bn F N) (.aN 56<|.Y (.X 0)<|.Y (.ab<|.I 8) .L) [J (.ah k),J (ae d),D,D,D] n λz o=>wy (.ah b) z o λv o=>a6 (bn F N) Ia.aP [J (.ah k),J (ae d),J v,D,D] o (dI Z):=λb n e a' Q=>by
  have c':b≠k:=λb'=>by refine ia t λa z g W=>?_;rw[b',g]at e;cases e
  refine E (kh:=8) (t.ar Q) (~~~_) (~~~_) λo f c8 a8 C=>aW (show∃c,(wk d)[f]?=J c from⟨_,du c8⟩) λc H=>?_;have s:c<=d:=(h.elim (λg=>by refine g<|>?_;decide) λg=>by refine g<|>?_;decide:∀c∈wk d,c<=d) c (dT H);refine av (C.U _ _ c' a') (fY (v:=ae c) (by refine cv<|>H<|>?_;rfl) ?_);refine b3 ?_;intro f8 d8 f9;refine aF (E (kh:=250) a8 (~~~_) (~~~_) λT A d' a9 b9=>?_);have r:(lR (λf=>dQ<|(A+f)%256)<|ih c).length=c:=ax<|>wR<|>rfl;refine cI ?_;intro d8;refine bH (s6 ?_);refine aC (wq rfl<|~~~ac 33235136458104 (co h) s) (.inl ⟨rfl,?_⟩);refine mJ<|>fV<|>oh (m:=T) (λW W=>trivial) _ (gI<|lR (λf=>dQ<|(A+f)%256)<|ih c) [] T .cf (by exact ax<|>Ab<|>EJ<|>r<|>rfl) (λi v e9 K j S d9 l f=>?_) λS l=>?_
  ·have:=Ac K;subst this;unfold gI at j;rw[cv,cv]at j;refine aU (fw.mp j) λx M p=>?_;subst p;refine aU (fw.mp M) λy P p=>?_;subst p;have G:=(dv.mp P);have:y=i:=aY (G.2 ..)<|List.getElem_range<|>rfl;clear K P M j G;subst this;rw[pS (j2 _<|~~~_)]at f;exact aC (~~~_) (f S .cf)
  ·exact gW<|>hy (by exact EJ<|>r<|>ac 33235136458104 (co h) s) λe' c9 e8 b8 R=>IF b8<|q c9 _ (by exact r<|>s) (a9.ar<|l.ak R) (Q.ds.ak<|C.ak<|b9.ak (l.ak R).ds)
 refine bU J3 [J (.ah k),J (ae d),D,D,D] rfl rfl (aF<|ta ?_);rcases h with rfl|rfl
 ·exact aC (ct (show 8<=1000 by decide)) λb e=>go b (m.a1 b<|(wk 64).map ae) e cg (dS e)
 ·exact aC (ct (show 8<=1000 by decide)) λb e=>go b (m.a1 b<|(wk 128).map ae) e cg (dS e)
end
noncomputable def jB (c:au):Int×O:=(c.bI,.aA c.cU)
theorem Vj {v:O}:(n.map (·.1)).Nodup->(lE n m v).Perm ((m,v)::n.filter λa=>a.1 !=m):=by
 induction n with
 |nil=>exactλi=>iX _|cons a n h=>
  exactλb=>by
   refine bW (iY.mp b) λe f=>?_;unfold lE;by_cases c:a.1=m
   ·have d:(a.1==m)=ag:=beq_iff_eq.mpr c;refine if_pos d<|>uf (by rw[c];simp-iota)<|>?_;have:n.filter (λa=>a.1 !=m)=n:=wN.mpr λx g=>by refine bne_iff_ne.mpr λb=>e ?_;show a.1∈_;exact V (c ..)<|aY (b ..)<|eS.mpr ⟨x,g,rfl⟩
    rw[this,c]
   ·have d:¬(a.1==m)=ag:=λb=>c (beq_iff_eq.mp b);exact if_neg d<|>wM (p:=λa:Int×O=>a.1 !=m) (bne_iff_ne.mpr c)<|>((h @f).cons a).trans (wK _ _ _)
theorem US:(n.map (·.1)).Nodup->(oi n m).Perm (n.filter λa=>a.1 !=m):=by
 induction n with
 |nil=>exactλi=>iX _|cons a n h=>
  exactλb=>by
   refine bW (iY.mp b) λe f=>?_;unfold oi;by_cases c:a.1=m
   ·have d:(a.1==m)=ag:=beq_iff_eq.mpr c;refine if_pos d<|>uf (by rw[c];simp-iota)<|>?_;have:n.filter (λa=>a.1 !=m)=n:=wN.mpr λx g=>by refine bne_iff_ne.mpr λb=>e ?_;show a.1∈_;exact V (c ..)<|aY (b ..)<|eS.mpr ⟨x,g,rfl⟩
    rw[this]
   ·have d:¬(a.1==m)=ag:=λb=>c (beq_iff_eq.mp b);exact if_neg d<|>wM (p:=λa:Int×O=>a.1 !=m) (bne_iff_ne.mpr c)<|>(h @f).cons a
theorem Ue {h i new:List au}(p:pc m h i new):(((h.map jB).filter λa=>a.1 !=m)++new.map jB).Perm (i.map jB):=by
 refine DE p λf z g j k q r s=>?_;subst j;subst k;have l:(f.map jB).filter (λa=>a.1 !=m)=f.map jB:=wN.mpr λx b=>by refine aU (eS.mp b) λc e d=>?_;clear b;subst d;exact bne_iff_ne.mpr (t7<|q c e)
 have n:(g.map jB).filter (λa=>a.1 !=m)=g.map jB:=wN.mpr λx b=>by refine aU (eS.mp b) λc e d=>?_;clear b;subst d;exact bne_iff_ne.mpr (oH<|r c e)
 have o:(z.map jB).filter (λa=>a.1 !=m)=[]:=by
  rcases s with rfl|⟨y,rfl,t⟩
  ·rfl
  ·exact uf (by show¬(y.bI !=m)=ag;rw[t];simp-iota)
 rw[cD,cD,Pi,Pi,l,n,o,gW,cD,cD,bN];exact qb.append_left _
theorem Mh (b:G.Pairwise λa c=>a.bI<c.bI):((G.map jB).map (·.1)).Nodup:=by refine oO<|>Fx.mpr (b.imp λ{a c} b d=>?_);exact t7 b d
theorem BK (d:n.Perm (G.map jB)):n.any (λb=>b.1==m)=ag↔∃c∈G,c.bI=m:=by
 rw[O4];constructor
 ·rintro⟨b,e,g⟩;refine aU (eS.mp<|d.mem_iff.mp e) λc a f=>?_;clear e;subst f;exact⟨c,a,beq_iff_eq.mp @g⟩
 ·rintro⟨c,a,rfl⟩;exact⟨jB c,d.mem_iff.mpr<|eS.mpr ⟨c,a,rfl⟩,beq_iff_eq.mpr rfl⟩
theorem DX:∀{e2:List aV},e2.Pairwise aV.bK->(fl e2).Pairwise λa d=>a.bI<d.bI
 |[],_=>mK|.fq g::e2,b=>DX (e2:=e2) (es.mp b).2|.cb c::e2,b=>es.mpr ⟨λf e=>(es.mp b).1 _<|wr e,DX (es.mp b).2⟩
structure lu (j k h i d a e g:Nat) (b:w) (c:List au):Prop where
 lP:iG j k h i d g b c
 tN:g6 b a
 pP:¬(a=h\/a=i)
 pO:e≠d
 iJ:∃f,b.aQ e=J f/\f.Perm (c.map jB)
 aH:c.length<=g
theorem iG.ca (b:iG g Q l f8 g8 h8 W G)(c:∀b y,(b=l\/b=f8)->W.U b=J y->A.U b=J y)(i:∀y,W.aQ g8=J y->A.aQ g8=J y):iG g Q l f8 g8 h8 A G:=tu b λk m H j d a=>aU a.iJ λe f h=>⟨k,m,H,j,d,⟨c _ _ (.inl rfl) a.ic.U,c _ _ (.inr rfl) a.ic.eX,a.ic.eq⟩,a.c2,a.jX,a.gT,a.lN,a.mo,a.hL,e,i _ @f,h⟩
theorem iG.eZ (d:iG g Q l f8 g8 h8 W G):G.Pairwise λa c=>a.bI<c.bI:=tu d λh i H f e b=>b.lN▸DX b.gT
theorem Uf {b c new:List au}(a:pc m b c new):c.length<=b.length+new.length:=by refine v5 a λf h g d e i=>?_;subst d;clear a;subst e;simp-iota only[a2];exact az 65743903763952
def sx (l:aJ):Prop:=∀{j:w} {i:O->w->Prop} {a g f h b d c e:Nat} {m:List au},lu a g f h b d c e j m->e<=12->(∀k n,lu a g f h b d c (e+1) k n->i (.bs ag) k)->l 59 [.ah d,bS a f h b,ae g,.fB c] j i
section
variable {aa bz aZ a0 cE l3 sd n:Nat}{m uM:w}{qv Bw:List au}
theorem lu.ds (a:lu aa bz aZ a0 cE l3 sd n m qv)(c:cW (·=l3) m uM)(d:g6 uM l3):lu aa bz aZ a0 cE l3 sd n uM qv:=⟨a.lP.ca (λh y f b=>c.U h y (by clear c d;rintro rfl;exact a.pP f) b)<|λy b=>c.aQ _ _ b,d,a.pP,a.pO,by refine aU a.iJ λe b g=>?_;exact⟨e,c.aQ _ _ b,g⟩,a.aH⟩
theorem g6.bD (f:g6 m l3)(n:¬(l3=aZ\/l3=a0))(d:jO aZ a0 cE m uM):g6 uM l3:=ia f λa b c e=>⟨a,b,d.hL _ _ n c,e⟩
theorem iG.aeu (j:iG aa bz aZ a0 cE n m qv):iG aa bz aZ a0 cE (n+1) m qv:=tu j λh i H g b a=>eP a.iJ λc d e f=>⟨h,i,H,g,b,a.ic,a.c2,a.jX,a.gT,a.lN,rM a.mo,by have:=a.hL;exact ac 0xc9e99fc7e09fc67cc270 this,c,d,rM @e,f⟩
theorem lu.cO (b:lu aa bz aZ a0 cE l3 sd n m qv){new:List au}{d dM:List (Int×O)}(j:iG aa bz aZ a0 cE (n+1) W Bw)(i:g6 W l3)(c:pc g9 qv Bw new)(h:new.length<=1)(g:dM.Perm (qv.map jB))(f:d.Perm ((dM.filter λa=>a.1 !=g9)++new.map jB)):lu aa bz aZ a0 cE l3 sd (n+1) (W.ja sd d) Bw:=by
 refine⟨j.ca (λe e e a=>a)<|λy a=>?_,i,b.pP,b.pO,⟨d,zX,(f.trans<|(g.filter _).append_right _).trans<|Ue c⟩,?_⟩
 ·show(if cE=sd then _ else _)=_;exact if_neg (qf b.pO)<|>a
 ·have:=Uf c;have:=b.aH;exact az 0x11c78b2cce7bb030 h ‹_› this
end
section
variable {F N:aJ}
theorem abV (f8:sw F)(f9:xP F)(f':xQ F)(g8:pp F)(g9:xS F)(g':xT F)(h8:qP F):sx (bB F N):=λ{r8 b9 G n8 m' o8 d8 k' o r' a'} b A q=>by
 refine aU b.iJ λdM W d=>?_;have a9:(dM.map (·.1)).Nodup:=(d.map _).nodup_iff.mpr (Mh b.lP.eZ);have a8:dM.length<=60:=by refine d.length_eq<|>ax<|>?_;have:=b.aH;exact ac 32580377585784 A this
 have i9:dM.length<b5:=eo a8 (~~~_);refine bU J1 [J (.ah k'),J (bS G m' o8 d8),J (ae n8),J (.fB o),D,D,D,D,D,D,D,D] rfl rfl (aF<|g9 b.tN W a8 λr9 j j8 b' e8=>?_);refine cl ?_;intro h C;refine aF (g8 (kh:=8) b' (~~~_) (~~~_) λl8 t8 q' m e9=>?_);have S:=e8.ak e9;have y:=b.ds S m;have s:l8.aQ o=J dM:=S.aQ _ _ W;have Z:G=64\/G=128:=tu b.lP λm9 o9 H l' b8 e=>e.c2.eO;refine bx (eh (λg=>?_)<|λg=>bc<|bx<|eh (λg=>?_)<|λg=>bc ?_)
 ·refine cl ?_;intro h C;refine aF (h8<|g' m Z λf rec j9 Q T=>?_);refine b3 ?_;intro o' h C;refine cc (f9 (y.ds T Q).lP A j8 j9 λl9 n' x c8 R k8 k9 c'=>?_);have h9:l9.aQ o=J dM:=R.iJ _ _ b.pO (T.aQ _ _ s);refine lO (mm h9 ⟨i9,?_⟩);refine bH (q _ n'<|b.cO (dM:=dM) c8 (Q.bD b.pP R) c' (cL _) d ?_);refine(Vj a9).trans ?_;have:[x].map jB=[(j,O.aA rec)]:=by show [(x.bI,O.aA x.cU)]=_;exact k8<|>k9<|>rfl
  exact this<|>(wV _ _).symm
 ·refine cI ?_;intro h;refine aF (f' y.lP A (λf n9 E r c9 d'=>?_) λf E r m8=>?_)
  ·have k:f.aQ o=J dM:=r.iJ _ _ b.pO s;have z:dM.any (λa=>a.1==j)=ag:=(BK d).mpr d';refine aF (mm k ?_);refine z<|>cI ?_;intro h;refine bx (cc<|mm k<|mm k ?_);obtain⟨v,j',n,K⟩:∃v,hv dM j=J v/\∃n,v=O.aA n:=by
    unfold hv;refine aU (O4.mp z) λa i8 e'=>?_;cases M:dM.find? (λa=>a.1==j)with
    |none=>exact absurd @e' (List.find?_eq_none.mp M a i8)|some p9=>refine aU (eS.mp<|d.mem_iff.mp<|Pz M) λc g d9=>?_;clear M;subst d9;exact⟨_,rfl,_,rfl⟩
   refine j'<|>K<|>b3 ?_;intro o' h C;refine bc (bH<|q _ n9<|b.cO (dM:=dM) E (m.bD b.pP r) c9 (dB _) d ?_);exact Fu<|>dn<|>US a9
  ·have k:f.aQ o=J dM:=r.iJ _ _ b.pO s;have z:dM.any (λa=>a.1==j)=ap:=OH.mpr λa=>by exact aU ((BK d).mp a) λc l a=>m8 c l a
   refine cl ?_;intro h C;refine aF (mm k ?_);refine z<|>bx (bc<|bH<|q f a' ⟨E,m.bD b.pP r,b.pP,b.pO,⟨dM,k,d⟩,rM b.aH⟩)
 ·refine tu y.lP λm9 o9 H l' b8 e=>cI ?_;intro h;refine ft (f8 e.ic Z e.jX e.gT (by have:=e.mo;exact ac 29696251471992 A this) λf s' q8 s9 i pre post s8 p8 n q9 p' t p K=>?_);have h':n=dM.any (λa=>a.1==j):=by
   refine Bool.eq_iff_iff.mpr (K.trans<|Iff.trans ?_ (BK d).symm);constructor
   ·rintro⟨c,l,a⟩;refine⟨c,?_,a⟩;exact aY (e.lN ..)<|p.tn<|>iv<|>iv<|>ws<|>cP _ (dJ _<|dT l)
   ·rintro⟨c,l,a⟩;refine Classical.byContradiction λi'=>?_;rw[<-e.lN,wt p]at l;rcases hi.mp l with P|P
    ·exact t7 (zR p c P) a
    ·exact oH (zQ p (p.Ds e.gT i') c P) a
  refine cI ?_;intro h;refine bH (mm (t.aQ _ _ s) ?_);show b9 (.bs<|n==dM.any λa=>a.1==j) f;exact h'<|>beq_self_eq_true<|>q f a' ⟨(y.lP.ca (λg g g a=>t.U _ _ a)<|λg a=>t.aQ _ _ a).aeu,m.ar t,b.pP,b.pO,⟨dM,t.aQ _ _ s,d⟩,rM b.aH⟩
end
noncomputable def nB (c:au):O:=.ce [.I c.bI,.aA c.cU]
def ma (h:Nat)(o:aJ):Prop:=∀{d:w} {g:O->w->Prop} {a k l p j jk:Nat} {i:List aO} {q f:List Nat} {e:List aV},bO d k l i q->a=64\/a=128->fS a i h j e f->(fl e).length<=500->f.length<=90000->(∀b m n c,d.ar b->b.U m=J ((fl e).map nB)->b.U n=J (dK c<|ae<|jk+h)->1<=c->c<=f.length->g (.ce [.ah m,.ah n]) b)->o 60 [bS a k l p,ae j,ae jk] d g
noncomputable def YP:b2:=Cb.aP.as.aP.as
noncomputable def L2:b2:=Cb.aP.aP.aP.as
section
variable {F N:aJ}{aa aZ a0 cE bf jk:Nat}{bv:List aO}{eK:List Nat}
theorem Ir {a d:Nat}{x y:List O}(f:W.U a=J x)(g:W.U d=J y)(h:x.length+y.length<=100000)(q:∀b c,W.U b=D->c.U b=J (x++y)->W.ar c->S (.ah b) c):oe .bg (.ah a) (.ah d) W S:=av f (av g ⟨gY<|Di<|by exact a2<|>h,λb e=>q b _ e cg<|dS e⟩)
theorem YR (Q:vb F)(R:qN F){dm:w}{e a:Nat}(Z:dm.U e=D)(o:bO dm aZ a0 bv eK)(z:aa=64\/aa=128)(S:dm.a4 a=J p)(K:fA aa (bT bf) p ag (G.map<|au.bQ aa) M)(a8:∀c∈G,c.dg aa/\nW aa bv c)(W:G.length<=500):∀(j b:List au) (i:Nat) (d:w) (k l:Option O),b++j=G->b.length=i->cW (·=e) dm d->d.U e=J (b.map nB)->(∀t k l,cW (·=e) dm t->t.U e=J (G.map nB)->P .cO [J (bS aa aZ a0 cE),J (ae bf),J (ae jk),J (bd (.br a) bf aa<|bT bf),J (.ah e),k,l,D,D,D,D] t)->gK ap [5] (a6 (bn F N) YP) (λb8=>True) ((gA (i:Int) j.length).map .I) [J (bS aa aZ a0 cE),J (ae bf),J (ae jk),J (bd (.br a) bf aa<|bT bf),J (.ah e),k,l,D,D,D,D] d P:=by
 intro j;induction j with
 |nil=>intro b i d k l f m g h q;rw[dn]at f;subst f;exact aC trivial (q d _ _ g h)|cons c j C=>
  intro b i d k l f m g h q;have A:G[i]?=J c:=by refine aY (f ..)<|hT (fv m)<|>m<|>iD<|>?_;rfl
  have r:=a8 c (dT A);have H:∀{x y},dm.U x=J y->d.U x=J y:=λ{x y} s=>g.U x y (by clear C g h q;rintro rfl;rw[Z]at s;cases s) s;refine aC trivial (aF<|R (v:=.br a) (g.a4 _ _ S) K z (by refine cv<|>A<|>?_;rfl) r.1 λa9 n=>?_);refine cl ?_;intro b9 b';refine cc (av (n.U _ _ h) ?_);refine Q (bO.ar ⟨H o.U,H o.eX,o.eq⟩ n) z r.1 r.2 λa' E=>?_;have T:b.length<=500:=by have:=congrArg mL f;rw[a2]at this;exact aj 0x818bf781ab89783f0 W this
  refine av (E.U _ _<|n.U _ _ h) ⟨by exact ax<|>eo T (~~~_),?_⟩;refine C (b++[c]) (i+1) _ _ _ (by exact bN<|>f) (by refine a2<|>m<|>?_;rfl) (g.ak<|(n.ak E).ds.ak gb) ?_ q;refine cg<|>cD<|>?_;rfl
theorem YQ (f':ma g F){dm:w}{c' cs:Nat}(d8:bO dm aZ a0 bv eK)(Z:dm.U c'=J R)(g8:aa=64\/aa=128)(c8:cs<=90000):∀(r:List dU) (k:List aV) (m:List Nat) (h:List au) (i d e:Nat) (f:w) (w8 a:Option O),dR (fS aa bv g) r Q k m->dm.ar f->f.U d=J (h.map nB)->f.U e=J (dK i<|ae<|jk+1+g)->h.length+(fl k).length<=500->i+m.length<=cs->(∀b d e j w8 a,dm.ar b->b.U d=J ((h++fl k).map nB)->b.U e=J (dK j<|ae<|jk+1+g)->1<=j->j<=i+m.length->P .cO [J (bS aa aZ a0 cE),J (ae bf),J (ae jk),J C,J (.ah d),D,D,J (.ah e),w8,a,D] b)->gK ap [8] (a6 (bn F N) L2) (λb=>b.U c'=J R) ((r.map (·.1)++[Q]).map ae) [J (bS aa aZ a0 cE),J (ae bf),J (ae jk),J C,J (.ah d),D,D,J (.ah e),w8,a,D] f P:=by
 intro r;have ff:∀{c:Nat} {k:List aV} {m:List Nat} {h:List au} {i d e:Nat} {f:w} {w8 a:Option O} {K:db},fS aa bv g c k m->dm.ar f->f.U d=J (h.map nB)->f.U e=J (dK i<|ae<|jk+1+g)->h.length+(fl k).length<=500->i+m.length<=cs->(∀b d e j a,dm.ar b->b.U d=J ((h++fl k).map nB)->b.U e=J (dK j<|ae<|jk+1+g)->1<=j->j<=i+m.length->K .cO [J (bS aa aZ a0 cE),J (ae bf),J (ae jk),J C,J (.ah d),D,D,J (.ah e),J (ae c),a,D] b)->a6 (bn F N) L2 [J (bS aa aZ a0 cE),J (ae bf),J (ae jk),J C,J (.ah d),D,D,J (.ah e),J (ae c),a,D] f K:=by
  intro c k m h i d e f w8 a K b8 l s t n o q;refine cl ?_;intro i8 k8;refine aF (f' (jk:=jk+1) (d8.ar l) g8 b8 (~~~ac 0x8abc3fa53bfb7c n) (~~~aj 0x6deb5615a30bb969828078 c8 o) λc9 j9 j' g' a8 e8 e9 A p=>?_);refine cI ?_;intro i8;refine aF (kX<|gJ rfl<|Ir (a8.U _ _ s) e8 (by exact ax<|>ax<|>ac 0x1163599fe497f3bfb7c n) λy H i9 M a9=>?_);refine aF (kX<|gJ rfl<|Ir (a9.U _ _<|a8.U _ _ t) (a9.U _ _ e9) (by exact hh<|>hh<|>az 0x6b22c0f17bcaf844950615f4e54 c8 o @p) λz a' i' d' G=>?_);refine q a' y z (i+g') _ (l.ak<|a8.ak<|a9.ak G) (cD<|>G.U _ _ M) ?_ (~~~ac 4927188 @A) (~~~aj 14410118450 @p)
  ·exact aY (PF ..)<|d'
 induction r with
 |nil=>intro k m h i d e f w8 a W l s t n o q;refine aC (l.U _ _ Z) (ff (c:=Q) (w8:=w8) W l s t n o λb y z j a E S T A p=>?_);exact aC (E.U _ _ Z) (q b y z j _ a E S T @A @p)|cons x r g9=>intro k m h i d e f w8 a ⟨c9,j8,H,o2,b8,W,d9,M⟩ l s t n o q;subst d9 M;rw[iv]at n q;have b9:fl (.fq x.2::H)=fl H:=rfl;rw[b9,a2]at n;rw[b9]at q;rw[a2]at o q;refine aC (l.U _ _ Z) (ff (c:=x.1) (w8:=w8) b8 l s t (~~~aj 0x61bcfd0c35350592d6 n) (~~~az 0xb518322a3a8 o) λb y z j a E S T A p=>?_);refine g9 H o2 (h++fl c9) j y z b _ a W E S T (by exact a2<|>aj 0x4085d00abb223eff92d6 n) (~~~bP 0xe9a8a54f84641188 o @p) λa' h9 h' h8 w8 a G b' f9 e' f8=>?_;rw[bN]at b';exact q a' h9 h' h8 w8 a G b' f9 e' (~~~bP 0x13401f963cb3c0c94 @p f8)
end
section
variable {F N:aJ}
theorem abY (S:vb F)(T:pq F)(W:jn F)(Z:qN F)(a8:md F):ma 0 (bB F N):=λ{f9 d8 A b' c8 G x d g' h9 g9 f'} n g ⟨C,g8,y,l,Q⟩ h e' q=>by
 induction C with
 |dd _ _=>exact l.elim|cJ E=>
 refine gR l λb9 f K=>?_;subst f;clear l;subst K;rw[ws]at h q;refine v2 y λo d' h8 d9 c e8 a9 b=>aW (show∃k,x=k+1 from⟨x-1,by exact bo (ac 42823471152 aw)<|ac 10545038814<|ay<|ai 132202 @o⟩) λk f=>?_;clear y o;subst f;refine bU CC [J (bS A b' c8 G),J (ae<|k+1),J (ae d),D,D,D,D,D,D,D,D] rfl rfl (aF<|a8 n a9 (by exact b.cu.aH<|>ai 11639780460 (co g)) λa s e9 e i=>?_);refine cI ?_;intro z;refine bx (T (v:=.br a) ag e b.cu.ee ?_);refine b3 ?_;intro i9 z c';refine aF (pG λc9 b8 p H j=>?_);have f8:=i.ak j;refine gV (W (v:=.br a) (j.a4 _ _ e) b.hu (by have:=b.ir;have:=b.hI;exact az 0x8c5700f922a5e07ba871b8ef4 (co g) ‹_› this) ?_);refine aC (wq rfl<|~~~ai 381412279099852 h) (.inl ⟨rfl,?_⟩);refine mJ<|>fV<|>YR (dm:=s) @S @Z p (n.ar i) g e b.cu b9 h E [] 0 b8 D D rfl rfl j.ds H λt h' i8 R M=>?_;have a':s.ar t:=R.dP p .cf;refine cl ?_;intro z c';refine bH (vF<|gJ rfl ?_);refine aC (ct (show 1<=1000 by decide)) λm r=>?_;have P:(t.a1 m [ae d]).U m=J [ae d]:=cg;exact q _ c9 m 1 (i.ak<|a'.ak<|dS r) ((dS r).U _ _ M) P (cL _) (by exact Q<|>hU _)
theorem abX {b:Nat}(a8:ma b F)(a9:pq F)(a':xY F)(b8:md F):ma (b+1) (bB F N):=λ{i' g9 H e8 e' K z f k9 l9 k8 d9} m g ⟨C,y,A,k,p⟩ b' r q=>by
 induction C with
 |cJ _=>exact k.elim|dd G k'=>
 refine bW k λh8 W=>gR A λe9 d' T=>?_;obtain⟨c,g',b9,d⟩:=e9;refine aW d.cu λl8 e=>aW (show∃j,z=j+1 from⟨z-1,by exact bo (ac 42823471152 aw)<|ac 10545038814<|ay<|ai 132202 @c⟩) λj M=>?_;clear A T c;subst M;refine bU CC [J (bS H e8 e' K),J (ae<|j+1),J (ae f),D,D,D,D,D,D,D,D] rfl rfl (aF<|b8 m b9 (by exact e.aH<|>ai 11639780460 (co g)) λa j8 h9 n c9=>?_);refine cl ?_;intro l E;refine bx (a9 (v:=.br a) ap n e.ee<|bc ?_);refine cI ?_;intro l;refine ft (vF<|pG λf8 j9 h' P t=>pG λf9 j' i8 S h=>?_);refine b3 ?_;intro m8 l E;refine gV (a' (v:=.br a) ((t.ak h).a4 _ _ n) e d' (co g) (d.ci rfl).1 (d.ci rfl).2 λk x i9 o i=>av o ?_);have s:=(c9.ak<|t.ak h).ak i;rw[p,fQ]at r;refine YQ @a8 (dm:=x) (cs:=y.length) (m.ar s) o g (~~~ai 0x45d77c529ff7fd02558 r) G d9 y [] 0 f8 f9 x D D W .cf (i.U _ _<|h.U _ _ P) (i.U _ _ S) (by show 0+_<=_;exact ai 0x524ec3ef08a1cc b') (~~~ai 1408) λd8 f' g8 c8 w8 l' c' Q R c Z=>cl ?_;intro l E;refine bH (vF<|gJ rfl<|gJ rfl ?_);refine q d8 f' g8 c8 (s.ak c') Q ?_ @c (by exact p<|>fQ<|>ac 42823368336 @Z);exact V (R ..)<|V (show f+1+b=f+(b+1)by exact bo (ac 440451987060)<|ac 108447732324)<|rfl
end
def xA (g:aJ):Prop:=∀{a:w} {e:O->w->Prop} {f:Nat},(∀c d b,c≠d->a.U c=D->a.U d=D->b.U c=J []->b.U d=J []->a.ar b->e (eG f c d) b)->g 4 [ae f] a e
def xB (h:aJ):Prop:=∀{c:w} {g:O->w->Prop} {a e f:Nat},(∀b d,c.aQ b=D->d.aQ b=J []->c.ar d->g (bS a e f b) d)->h 3 [eG a e f,eG a e f] c g
theorem U2 {a:Int×O}(b:a∈n)(g:(n.map (·.1)).Nodup):hv n a.1=J a.2:=by
 unfold hv;induction n with
 |nil=>nomatch b|cons x n h=>
  refine bW (iY.mp g) λe f=>?_;by_cases c:x.1=a.1
  ·refine Pk (p:=λd:Int×O=>d.1==a.1) (beq_iff_eq.mpr c)<|>?_;rcases dE.mp b with rfl|b
   ·rfl
   ·exact absurd (eS.mpr ⟨a,b,c.symm⟩) @e
  ·refine Fh (p:=λd:Int×O=>d.1==a.1) (λi=>c<|beq_iff_eq.mp i)<|>?_;rcases dE.mp b with rfl|b
   ·exact absurd rfl c
   ·exact h b @f
theorem SQ {a:List au}:∃x,sU (a.map nB)=J x:=by
 induction a with
 |nil=>exact⟨[],rfl⟩|cons c a d=>exact aW (d) λx b=>⟨(c.bI,c.cU)::x,by show(sU<|a.map nB).map _=_;refine b<|>?_;rfl⟩
theorem HH:io (dK g<|ae Q)=J (dK g (Q:Int)):=by
 induction g with
 |zero=>rfl|succ g a=>show(io<|dK g<|ae Q).map _=_;refine a<|>?_;rfl
section
variable {F N:aJ}
theorem Vl {C:cG}{x:Nat}(a:ao C p' f W λv W=>LI v W λd b=>pE (λv=>ao C o'<|f.set x<|J v) b d [] W λc W=>hc W c S):ao C (.jr o' x<|.fu p') f W S:=a
theorem Zh:xA (rn F N):=λ{j h i} q=>by
 refine aC rfl (aC (ct<|dB _) λe c=>aC (ct<|dB _) λf a=>?_);have d:=dS (x:=[]) c;have b:e≠f:=λg=>by rw[<-g]at a;exact absurd (a.symm.trans cg) (by nofun)
 exact q e f _ b c (d.hM a) ((iw b).trans cg) cg (d.ak<|dS a)
theorem Zi:xB (rn F N):=λ{e c d f g} q=>aC rfl λb a=>q b _ a zX (LP a)
theorem ae2 {f c a:Nat}(n:g=64\/g=128)(s:Q=a+1)(t:Q=1\/Q=2)(e:a<o.length)(k:o.length<=2)(r:∀x∈o,x.length=g)(h:c0 g (bT<|a+1) p [] [] [] g 0 [])(d:j9.length=g)(q:∀j,bT (a+1)<=j->j9[j]?=p[j]?)(i:bO W l f (o.set a j9) [])(m:W.aQ c=J []):iG g Q l f c 0 W []:=by subst s;have b:(o.set a j9).length=o.length:=nJ;refine⟨_,[],0,[],[a+1],i,⟨n,λx z=>(Fw z).elim (r x)<|λb=>b▸d,PD _ _,λA y=>?_,t,.head _⟩,⟨.cJ [],[],⟨by exact ai 93402,j9,[],[],g,0,rF e,h.kT q d⟩,⟨nofun,rfl,rfl⟩,rfl⟩,mK,rfl,cL _,by exact ac 0x5690d8d0f7e9a98 @k b,[],m,dB _,nofun⟩;cases uj.mp y;exact⟨ai 11300696,aj 437357610509 e b⟩
theorem YC (p:sx F){m f k h:Nat}(q:∀b a c d,a<=12->lu g Q l m f k h a b c->P .cO [z,J (.ah k),z8,J (bS g l m f),J (ae Q),J (.fB h),d,D,D,D,D] b):∀(e a i:Nat) (c:List au) (b:w) (d:Option O),a+e<=10->lu g Q l m f k h a b c->gK ap [6] (a6 (bn F N) yt.aP.aP.aP.aP.aP.aP.aP.aP.as) (λx=>True) ((gA (i:Int) e).map .I) [z,J (.ah k),z8,J (bS g l m f),J (ae Q),J (.fB h),d,D,D,D,D] b P:=by
 intro e;induction e with
 |zero=>intro a i c b d j n;exact aC trivial (q b a c d (~~~ai 135409566460 j) n)|succ e r=>intro a i c b d j n;refine aC trivial (bx<|p n (~~~ac 33047485692508 j) λs t o=>?_);exact bc (r (a+1) (i+1) t s _ (~~~ac 0x7f67b0942d53a5c j) o)
theorem YB (c':∀b,b<=12->ma b F){m:w}{n o f k h c8:Nat}(j:c8<=12)(b:lu g Q n o f k h c8 m G):a6 (bn F N) yt.aP.aP.aP.aP.aP.aP.aP.aP.aP [z,J (.ah k),z8,J (bS g n o f),J (ae Q),J (.fB h),A8,D,D,D,D] m (dI λv t=>v=.bs ag):=by
 refine aU b.iJ λp W r=>?_;have a8:=b.lP.eZ;have e9:(p.map (·.1)).Nodup:=(r.map _).nodup_iff.mpr (Mh a8);have d8:p.length<=60:=by refine r.length_eq<|>ax<|>?_;have:=b.aH;exact ac 32580377585784 j this
 refine b3 ?_;intro l9 h8 h9;refine aF (Vl<|NU rfl W d8 λl8 b' a9 i9 P e' f8 b8=>av P ?_);have d':a9=G.map au.bI:=by
  have g':a9.Perm (G.map au.bI):=by have:=e'.trans (r.map (·.1));rw[oO]at this;exact this
  refine afW (λa e t t q T=>dW @q @T) f8 ?_ g';exact Fx.mpr (a8.imp λ{a e} b=>kM b)
 subst d';refine oh (m:=b') (λb9 l=>l.U _ _ P) _ (G.map nB) [] b' .cf (by exact ax<|>ax<|>ax<|>rfl) (λi v k9 C A b9 h' l a'=>?_) λj8 f9=>?_
 ·rw[cv,cv]at C;rw[cv]at A;refine aU (fw.mp C) λx s y=>?_;subst y;refine aU (fw.mp s) λc Z y=>?_;clear s C;subst y;rw[Z]at A;cases A;have e8:jB c∈p:=r.mem_iff.mpr (eS.mpr ⟨c,dT Z,rfl⟩);have d9:hv p c.bI=J (.aA c.cU):=U2 e8 e9;refine vF (gJ rfl<|mm (l.aQ _ _<|b8.aQ _ _ W) ?_);exact d9<|>a' b9 .cf
 refine gW<|>hy (by refine ax<|>?_;have:=b.aH;exact ac 0x3c74510152878 j this) λE j9 i' c9 f'=>?_;refine tu b.lP λk8 k' H j' i8 d=>?_;refine ft (c' H (by have:=d.mo;exact ac 3214729881720 j this) (jk:=0) (d.ic.ar<|b8.ak<|f9.ak f') d.c2.eO d.jX (by exact d.lN<|>ac 533893934819448 j b.aH) (~~~aj 0x24482de613bd201edccadb0 d.c2.aH (d3.mr (eU:=0) j d.hL)) λg9 K M a' g8 R S q T=>?_);rw[d.lN]at R;refine cl ?_;intro h8 h9;refine bH (kB<|q5<|gJ rfl<|gJ rfl<|av R<|av (g8.U _ _ c9) ?_);have cont:el (λe m=>if e=ag then ao (bn F N) (.a7 .cX (.bt .vY<|.X 9)<|.bt .vX<|.X 9) [z,J (.ah k),z8,J (bS g n o f),J (ae Q),J (.fB h),A8,J (.ah E),J (.ah K),J (.ah M),D] m (el λe m=>(λv m=>(dI λv t=>v=.bs ag) (.aI v) [z,J (.ah k),z8,J (bS g n o f),J (ae Q),J (.fB h),A8,J (.ah E),J (.ah K),J (.ah M),D] m) (.bs e) m)else(λv m=>(dI λv t=>v=.bs ag) (.aI v) [z,J (.ah k),z8,J (bS g n o f),J (ae Q),J (.fB h),A8,J (.ah E),J (.ah K),J (.ah M),D] m) (.bs ap) m) (.bs ag) g9:=by refine q5 (s6<|gJ rfl<|av S ?_);refine gf HH<|gf (List.min?_replicate_of_pos @q)<|s6 (gJ rfl<|av S ?_);refine gf HH<|gf (List.max?_replicate_of_pos @q) ?_;show O.bs (dk _)=O.bs ag;exact decide_eq_true rfl<|>rfl
 induction G using cj with
 |nil=>exact cont|cons c G=>exact aW (@SQ<|c::G) λx s=>⟨rfl,by refine s<|>?_;rfl,cont⟩
end
section
variable {F N:aJ}
theorem cW.tN (d:ec g Q W A)(h:g6 W l)(f:¬(l=g\/l=Q)):g6 A l:=ia h λa b c e=>⟨a,b,d.U _ _ f c,e⟩
theorem LN (a9:pp F)(a':sx F)(b8:∀i,i<=12->ma i F)(b9:vh F)(b':ps F){d c e:Nat}(j:g=64\/g=128)(C:bO W Q l o [])(q:∀x∈o,x.length=g)(m:e<o.length)(G:o.length<=2)(d9:g6 W c)(k:¬(c=Q\/c=l))(c8:W.aQ d=J []):a6 (bn F N) yt.aP.aP.aP.aP.aP.aP [z,J (.ah c),J (eG g Q l),J (bS g Q l d),J (ae<|e+1),D,D,D,D,D,D] W (dI λv p=>v=.bs ag):=by
 refine cI ?_;intro e';refine cc (b9 C m q j λa g8 f8 f' S y s=>?_);refine b' (C.ar s) S m q y.cu.aH (~~~ai 21433431740 (ed j)) (co j) λh f9 c' c9 M E=>?_;have H:h.aQ d=J []:=E.aQ _ _ (s.aQ _ _ c8);have R:=ae2 j rfl (by(exact RG (λn=>bo (ai 0xa0bfe65667a1171f n)<|ai 0x7cd4980e67a1165b n) λn=>bo (ac 737567321065 m @G)<|ai 19147944579 n):e+1=1\/e+1=2) m @G q y c' c9 M H;have e9:g6 h c:=E.tN (d9.ar s) k;refine aF λb hb=>?_;have d8:b≠d:=λf=>by rw[f,H]at hb;cases hb
 have T:(h.ja b []).aQ b=J []:=zX;have t:=LP (x:=[]) hb;show a6 (bn F N) _ [z,J (.ah c),J (eG g Q l),J (bS g Q l d),J (ae<|e+1),J (.fB b),D,D,D,D,D] (h.ja b []) _;generalize h.ja b []=d' at*;have A:lu g (e+1) Q l d c b 0 d' []:=⟨R.ca (λp p p f=>t.U _ _ f)<|λp f=>t.aQ _ _ f,e9.ar t,k,d8,⟨[],T,iX _⟩,cL _⟩;refine b3 ?_;intro h9 e' h';refine gV<|a9 (kh:=6) A.tN (~~~_) (~~~_) λe8 r K P a8=>?_;have Z:(4:Int)+((r:Nat):Int)=((4+r:Nat):Int):=dW (ai 1053062272) (ai 26748522);refine aC ⟨⟨by decide,by decide⟩,by constructor<;>(first|exact ai 0x895da02107a0|exact ai 0x1c4d3c5a42a05a8e9 K)⟩ (.inl ⟨rfl,?_⟩);exact mJ<|>Z<|>fV<|>YC @a' (λW g9 g' h8 k i=>YB @b8 k i) (4+r) 0 0 [] e8 D (~~~ai 0xc7525d0cd69 K) (A.ds a8 P)
theorem abZ (h':xR F)(s:pp F)(a8:sx F)(a9:∀d,d<=12->ma d F)(a':vh F)(b8:ps F)(Z:u0 F)(i8:xA N)(i9:xB N)(z:List Int)(k9:w):bB F N 61 [.fP (z.map .I)] k9 (λv d'=>v=.bs ag):=by
 refine bU J0 [J (.fP<|z.map .I),D,D,D,D,D,D,D,D,D,D] rfl rfl (aF<|h' λq G i' K m'=>?_);refine b3 ?_;intro l k m;refine aF ?_;have l':∀h,h<3->∃f,[ae 64,ae 64,ae 128][h]?=J (ae f)/\(f=64\/f=128):=λh C=>by
  match h,C with
  |0,_=>exact⟨64,rfl,.inl rfl⟩|1,_=>exact⟨64,rfl,.inl rfl⟩|2,_=>exact⟨128,rfl,.inr rfl⟩
 refine aC (ct (show 3<=1000 by decide)) λr E=>?_;have g':(G.a1 r [ae 64,ae 64,ae 128]).U r=J [ae 64,ae 64,ae 128]:=cg;have k8:=dS (x:=[ae 64,ae 64,ae 128]) E;show ao (bn F N) (.aN 56<|.Y (.X 1)<|.Y (.ab<|.I 3) .L) [J (.fP<|z.map .I),J (.ah q),D,D,D,D,D,D,D,D,D] (G.a1 r [ae 64,ae 64,ae 128]) _;generalize G.a1 r [ae 64,ae 64,ae 128]=n8 at*;have c':r≠q:=λe=>by refine ia K λa f8 d d'=>?_;rw[e,d]at E;cases E
 refine s (kh:=3) (K.ar k8) (~~~_) (~~~_) λn9 h C d8 h8=>aU (l' h C) λf p A=>av (h8.U _ _ c' g') (fY p<|i8 λi j k' t j8 j9 f9 f' j'=>?_);have e8:bO k' i j [] []:=⟨f9,f',t⟩;have l9:=d8.ar j';have n:¬(q=i\/q=j):=λe=>by exact ia d8 λa f8 d d'=>e.elim (λe=>by rw[e,j8]at d;cases d) (λe=>by rw[e,j9]at d;cases d)
 have b9:=co A;have c8:∀x∈[dK f (0:UInt8)],x.length=f:=λx p=>by cases uj.mp p;exact hh
 refine b3 ?_;intro l k m;refine cc (Z e8 (~~~_) b9 λn' e9 h9=>?_);refine b3 ?_;intro l k m;refine aF (i9 λR l8 m9 g8 b'=>?_);have P:=e9.ar b';refine b3 ?_;intro l k m;refine aF (kX ?_);refine s (kh:=2) ((h9.tN l9 n).ar b') (~~~_) (~~~_) λH g o d9 T=>?_;have c9:∀{x y},(x=i\/x=j)->l8.U x=J y->H.U x=J y:=λ{x y} d e=>T.U _ _ (by clear i' K;rintro rfl;exact n d) e;have Q:bO H i j [dK f 0] []:=⟨c9 (.inl rfl) P.U,c9 (.inr rfl) P.eX,t⟩;have S:H.aQ R=J []:=T.aQ _ _ g8;have g9:(1:Int)+((g:Nat):Int)=((g+1:Nat):Int):=dW (ai 7170270390) (ai 7624802);refine b3 ?_;intro l k m;refine iy (bV:=[J (.fP<|z.map .I),J (.ah q),J (eG f i j),J (bS f i j R),J (ae<|g+1),D,D,D,D,D,D]) (by unfold ae;refine aY (g9 ..)<|?_;rfl) ?_;refine b3 ?_;intro l k m;refine bx (eh (λc=>?_)<|λc=>bc<|LN @s @a8 @a9 @a' @b8 A Q c8 (by show g<1;have:g+1≠2:=λe=>c<|congrArg jF e;exact(fo c').elim (λm8=>(fo t).elim (λM=>(fo this).elim (λb=>ai 159795035 b) λb=>ai 0xc0fbbde6ce0e767267a1171f o b) λM=>(fo this).elim (λb=>ai 159795035 b) λb=>ai 0xc0fbbde6ce0e767267a1171f o b) λm8=>(fo t).elim (λM=>(fo this).elim (λb=>ai 159795035 b) λb=>ai 0xc0fbbde6ce0e767267a1171f o b) λM=>(fo this).elim (λb=>ai 159795035 b) λb=>ai 0xc0fbbde6ce0e767267a1171f o b) (show 1<=2 by decide) d9 n S)
 ·have c:g+1=2:=iW.mp c;refine b3 ?_;intro l k m;refine cc (Z Q (show 1<100000 by decide) b9 λo8 e' W=>bc ?_);refine LN @s @a8 @a9 @a' @b8 A e' (λx p=>?_) (by show g<2;exact ai 1581427 o) (show 2<=2 by decide) (W.tN d9 n) n (W.aQ _ _ S);rcases hi.mp p with d|d<;>exact c8 x d
end
abbrev bC (a:Nat):aJ:=(kx cT a).gw
abbrev n5 (a:Nat):aJ:=(kx cT a).dP
abbrev bu (a:Nat):Nat:=a+1
abbrev ch (a:Nat):Nat:=a+2
abbrev dj (a:Nat):Nat:=a+3
abbrev ej (a:Nat):Nat:=a+4
abbrev he (a:Nat):Nat:=a+5
abbrev lM (a:Nat):Nat:=a+6
abbrev oy (a:Nat):Nat:=a+7
abbrev tE (a:Nat):Nat:=a+8
abbrev DY (a:Nat):Nat:=a+9
abbrev aay (a:Nat):Nat:=a+10
theorem bG {b:aJ->Prop}{a:Nat}(c:b (bB (bC a)<|n5 a)):b (bC<|a+1):=by unfold bC;exact K0<|>c
theorem vj {b:aJ->Prop}{a:Nat}(c:b (rn (bC a)<|n5 a)):b (n5<|a+1):=by unfold n5;exact Zo<|>c
theorem pz (a:Nat):jm (bC<|bu a):=@bG jm a (@abn _ _)
theorem sP (a:Nat):n0 (bC<|ch a):=@bG n0 (bu a) (@abA _ _<|@pz a)
theorem pA (a:Nat):il (bC<|bu a):=@bG il a (@abL _ _)
theorem Sr (a:Nat):xU (bC<|ch a):=@bG xU (bu a) (@abW _ _<|@pA a)
theorem vo (a:Nat):m7 (bC<|dj a):=@bG m7 (ch a) (@aca _ _<|@Sr a)
theorem ye (a:Nat):qJ (bC<|bu a):=@bG qJ a (@abc _ _)
theorem vn (a:Nat):pk (bC<|bu a):=@bG pk a (@aaS _ _)
theorem BL (a:Nat):pj (bC<|bu a):=@bG pj a (@aaR _ _)
theorem ly (a:Nat):im (bC<|bu a):=@bG im a (@acn _ _)
theorem BY (a:Nat):n4 (bC<|bu a):=@bG n4 a (@acx _ _)
theorem Hc (a:Nat):qG (bC<|ch a):=@bG qG (bu a) (@aaT _ _<|@ly a)
theorem RX (a:Nat):xD (bC<|bu a):=@bG xD a (@aa0 _ _)
theorem RY (a:Nat):xE (bC<|bu a):=@bG xE a (@aa1 _ _)
theorem Hf (a:Nat):u1 (bC<|ch a):=@bG u1 (bu a) (@aa2 _ _ (@RX a)<|@RY a)
theorem BJ (a:Nat):sk (n5<|bu a):=@vj sk a (@Ze _ _)
theorem Hs (a:Nat):vc (bC<|bu a):=@bG vc a (@ab0 _ _)
theorem Su (a:Nat):vd (bC<|ej a):=@bG vd (dj a) (@ab1 _ _ (@BL<|ch a) (@vo a)<|@ly<|ch a)
theorem RZ (a:Nat):qH (bC<|dj a):=@bG qH (ch a) (@aa4 _ _ (@vn<|bu a) (@ye<|bu a) (@sP a) (@ly<|bu a)<|@BJ<|bu a)
theorem BO (a:Nat):nY (bC<|dj a):=@bG nY (ch a) (@aa3 _ _ (@vn<|bu a) (@ye<|bu a) (@sP a) (@ly<|bu a) (@Hf a)<|@BJ<|bu a)
theorem qU (a:Nat):m6 (bC<|bu a):=@bG m6 a (@ab2 _ _)
theorem yj (a:Nat):pq (bC<|ch a):=@bG pq (bu a) (@ab3 _ _ (@ly a)<|@qU a)
theorem Sv (a:Nat):sy (bC<|ch a):=@bG sy (bu a) (@ab4 _ _ (@BY a)<|@qU a)
theorem lx (a:Nat):jn (bC<|ch a):=@bG jn (bu a) (@ab5 _ _<|@pz a)
theorem sQ (a:Nat):n1 (bC<|bu a):=@bG n1 a (@ab6 _ _)
theorem yk (a:Nat):mc (bC<|ch a):=@bG mc (bu a) (@ab7 _ _<|@pz a)
theorem BV (a:Nat):pr (bC<|bu a):=@bG pr a (@acb _ _)
theorem Sw (a:Nat):xV (bC<|dj a):=@bG xV (ch a) (@acc _ _<|@sP a)
theorem Sx (a:Nat):xW (bC<|bu a):=@bG xW a (@acd _ _)
theorem sR (a:Nat):n2 (bC<|dj a):=@bG n2 (ch a) (@ace _ _ (@pz<|bu a) (@lx a)<|@sQ<|bu a)
theorem BW (a:Nat):qN (bC<|ej a):=@bG qN (dj a) (@acf _ _ (@BO a) (@qU<|ch a)<|@sR a)
theorem Ht (a:Nat):ve (bC<|ej a):=@bG ve (dj a) (@acg _ _ (@BO a) (@qU<|ch a)<|@sR a)
theorem Hv (a:Nat):sA (bC<|ej a):=@bG sA (dj a) (@aci _ _ (@vn<|ch a) (@ye<|ch a) (@qU<|ch a)<|@sR a)
theorem Sy (a:Nat):xX (bC<|ej a):=@bG xX (dj a) (@acj _ _ (@vn<|ch a) (@ye<|ch a) (@qU<|ch a)<|@sR a)
theorem Hw (a:Nat):sB (bC<|ej a):=@bG sB (dj a) (@ack _ _ (@sP<|bu a) (@lx<|bu a)<|@sR a)
theorem Hx (a:Nat):sC (bC<|ej a):=@bG sC (dj a) (@acl _ _ (@lx<|bu a)<|@Sw a)
theorem BX (a:Nat):sD (bC<|dj a):=@bG sD (ch a) (@aco _ _ (@pz<|bu a)<|@yk a)
theorem HA (a:Nat):n3 (bC<|ch a):=@bG n3 (bu a) (@acs _ _<|@pA a)
theorem Hz (a:Nat):sE (bC<|dj a):=@bG sE (ch a) (@acr _ _ (@lx a) (@sQ<|bu a)<|@yk a)
theorem HB (a:Nat):vg (bC<|ej a):=@bG vg (dj a) (@act _ _ (@BV<|ch a) (@BX a)<|@Hz a)
theorem SB (a:Nat):x0 (bC<|he a):=@bG x0 (ej a) (@acu _ _ (@lx<|ch a) (@sQ<|dj a)<|@HB a)
theorem Hu (a:Nat):sz (bC<|he a):=@bG sz (ej a) (@ach _ _ (@lx<|ch a)<|@Ht a)
theorem Hy (a:Nat):vf (bC<|ch a):=@bG vf (bu a) (@acq _ _<|@pA a)
theorem HC (a:Nat):sF (bC<|dj a):=@bG sF (ch a) (@acy _ _ (@pA<|bu a) (@ly<|bu a) (@qU<|bu a) (@sQ<|bu a)<|@Hy a)
theorem SC (a:Nat):x1 (bC<|ej a):=@bG x1 (dj a) (@acv _ _ (@BV<|ch a) (@BX a)<|@HA<|bu a)
theorem SD (a:Nat):x2 (bC<|lM a):=@bG x2 (he a) (@acw _ _ (@pA<|ej a) (@yk<|dj a) (@Hu a) (@Hz<|ch a) (@SC<|bu a)<|@HC<|ch a)
theorem HD (a:Nat):qO (bC<|oy a):=@bG qO (lM a) (@acz _ _ (@pz<|he a) (@pA<|he a) (@lx<|ej a) (@sQ<|he a) (@HB<|ch a)<|@SD a)
theorem SE (a:Nat):x3 (bC<|ej a):=@bG x3 (dj a) (@acB _ _ (@pA<|ch a) (@yk<|bu a) (@BV<|ch a) (@BX a)<|@HA<|bu a)
theorem HE (a:Nat):sG (bC<|he a):=@bG sG (ej a) (@acA _ _ (@pz<|dj a) (@pA<|dj a) (@lx<|ch a) (@sQ<|dj a) (@sR<|bu a) (@Ht a) (@HC<|bu a)<|@SE a)
theorem Hd (a:Nat):uZ (bC<|bu a):=@bG uZ a (@aaU _ _)
theorem qT (a:Nat):m3 (bC<|bu a):=@bG m3 a (@aaV _ _)
theorem BM (a:Nat):sm (bC<|bu a):=@bG sm a (@aaW _ _)
theorem He (a:Nat):u0 (bC<|bu a):=@bG u0 a (@aaX _ _)
theorem yd (a:Nat):lw (bC<|ch a):=@bG lw (bu a) (@aaY _ _<|@He a)
theorem BN (a:Nat):pl (bC<|bu a):=@bG pl a (@aaZ _ _)
theorem G4 (a:Nat):uT (n5<|bu a):=@vj uT a (@Zg _ _)
theorem yl (a:Nat):qP (bC<|bu a):=@bG qP a (@acC _ _)
theorem vp (a:Nat):md (bC<|ch a):=@bG md (bu a) (@acD _ _ (@yl a) (@Hd a) (@qT a)<|@G4 a)
theorem BZ (a:Nat):ps (bC<|ch a):=@bG ps (bu a) (@acF _ _ (@Sx a) (@qT a)<|@BM a)
theorem HF (a:Nat):qQ (bC<|bu a):=@bG qQ a (@acG _ _)
theorem SG (a:Nat):sH (bC<|bu a):=@bG sH a (@acH _ _)
theorem vm (a:Nat):kt (n5<|bu a):=@vj kt a (@Zf _ _)
theorem Hg (a:Nat):u2 (bC<|bu a):=@bG u2 a (@aa5 _ _)
theorem Hh (a:Nat):u3 (bC<|ch a):=@bG u3 (bu a) (@aa6 _ _<|@Hg a)
theorem BP (a:Nat):sn (bC<|bu a):=@bG sn a (@aa7 _ _)
theorem BQ (a:Nat):qI (bC<|dj a):=@bG qI (ch a) (@aba _ _ (@Hc a)<|@BP<|bu a)
theorem BR (a:Nat):pm (bC<|dj a):=@bG pm (ch a) (@abb _ _<|@sP a)
theorem BS (a:Nat):m4 (bC<|ej a):=@bG m4 (dj a) (@abd _ _<|@vo a)
theorem Hi (a:Nat):qK (bC<|ch a):=@bG qK (bu a) (@abe _ _<|@vn a)
theorem yg (a:Nat):l7 (bC<|ej a):=@bG l7 (dj a) (@abg _ _ (@Hh<|bu a)<|@BQ a)
theorem Hj (a:Nat):qL (bC<|ej a):=@bG qL (dj a) (@abi _ _ (@Hh<|bu a)<|@BQ a)
theorem yf (a:Nat):m5 (bC<|ej a):=@bG m5 (dj a) (@abf _ _ (@pz<|ch a) (@sP<|bu a) (@ly<|ch a) (@Hc<|bu a) (@BO a) (@RZ a) (@BP<|ch a) (@qT<|ch a)<|@vm<|ch a)
theorem yh (a:Nat):ku (bC<|he a):=@bG ku (ej a) (@abh _ _ (@vo<|bu a) (@ly<|dj a) (@BP<|dj a) (@yg a) (@qT<|dj a)<|@BM<|dj a)
theorem R3 (a:Nat):xH (bC<|bu a):=@bG xH a (@abo _ _)
theorem SA (a:Nat):xZ (bC<|ej a):=@bG xZ (dj a) (@acp _ _<|@BR a)
theorem Sz (a:Nat):xY (bC<|he a):=@bG xY (ej a) (@acm _ _ (@yj<|ch a) (@lx<|ch a) (@Hw a)<|@Hx a)
theorem SF (a:Nat):vh (bC<|dj a):=@bG vh (ch a) (@acE _ _ (@Hy a) (@yl<|bu a) (@qT<|bu a)<|@G4<|bu a)
theorem Ho (a:Nat):u6 (bC<|bu a):=@bG u6 a (@abB _ _)
theorem Sd (a:Nat):xK (bC<|bu a):=@bG xK a (@abC _ _)
theorem Hp (a:Nat):u7 (bC<|bu a):=@bG u7 a (@abD _ _)
theorem Hq (a:Nat):va (bC<|ch a):=@bG va (bu a) (@abF _ _<|@Hd a)
theorem Se (a:Nat):xL (bC<|dj a):=@bG xL (ch a) (@abE _ _ (@Sd<|bu a) (@Hp<|bu a) (@BM<|bu a)<|@yd a)
theorem Sg (a:Nat):xN (bC<|dj a):=@bG xN (ch a) (@abH _ _ (@Ho<|bu a) (@Hp<|bu a) (@Hq a)<|@qT<|bu a)
theorem Sh (a:Nat):xO (bC<|ej a):=@bG xO (dj a) (@abI _ _ (@Sg a)<|@BN<|ch a)
theorem Sf (a:Nat):xM (bC<|dj a):=@bG xM (ch a) (@abG _ _ (@Ho<|bu a) (@Hq a)<|@qT<|bu a)
theorem Hr (a:Nat):ss (bC<|he a):=@bG ss (ej a) (@abJ _ _ (@Sh a)<|@Hs<|dj a)
theorem Si (a:Nat):vb (bC<|ej a):=@bG vb (dj a) (@abK _ _ (@Sf a)<|@Hs<|ch a)
theorem Sj (a:Nat):su (bC<|ej a):=@bG su (dj a) (@abM _ _ (@Hf<|bu a) (@Se a) (@yl<|ch a)<|@BJ<|ch a)
theorem R0 (a:Nat):xF (bC<|bu a):=@bG xF a (@abj _ _)
theorem Hk (a:Nat):nZ (bC<|bu a):=@bG nZ a (@abk _ _)
theorem R1 (a:Nat):xG (bC<|ch a):=@bG xG (bu a) (@abl _ _<|@Hk a)
theorem R2 (a:Nat):u4 (bC<|dj a):=@bG u4 (ch a) (@abm _ _ (@Hg<|bu a) (@R0<|bu a) (@Hk<|bu a)<|@R1 a)
theorem R4 (a:Nat):u5 (bC<|he a):=@bG u5 (ej a) (@abp _ _ (@ly<|dj a)<|@BS a)
theorem R5 (a:Nat):so (bC<|ej a):=@bG so (dj a) (@abq _ _ (@ly<|ch a) (@BR a)<|@vm<|ch a)
theorem R6 (a:Nat):sp (bC<|he a):=@bG sp (ej a) (@abr _ _ (@BL<|dj a) (@vo<|bu a) (@BS a)<|@Hi<|ch a)
theorem R7 (a:Nat):sq (bC<|dj a):=@bG sq (ch a) (@abt _ _ (@yd a)<|@BN<|bu a)
theorem Hl (a:Nat):pn (bC<|lM a):=@bG pn (he a) (@abu _ _ (@BL<|ej a) (@vo<|ch a) (@ly<|ej a) (@BQ<|ch a) (@BR<|ch a) (@BS<|bu a) (@Hi<|dj a) (@yf<|bu a) (@yh a) (@R2<|ch a) (@R3<|ej a) (@R4 a) (@R5<|bu a) (@R6 a) (@R7<|ch a) (@SA<|bu a)<|@vm<|ej a)
theorem Hm (a:Nat):po (bC<|lM a):=@bG po (he a) (@abv _ _ (@ly<|ej a) (@yf<|bu a) (@yg<|bu a) (@yh a)<|@BN<|ej a)
theorem Sa (a:Nat):xI (bC<|oy a):=@bG xI (lM a) (@abw _ _ (@BY<|he a) (@yf<|ch a) (@yg<|ch a) (@yh<|bu a) (@Hj<|ch a) (@Hl a) (@Hm a) (@yd<|ej a)<|@vm<|he a)
theorem Sb (a:Nat):xJ (bC<|oy a):=@bG xJ (lM a) (@abx _ _ (@BY<|he a) (@yf<|ch a) (@yg<|ch a) (@yh<|bu a) (@Hj<|ch a) (@Hl a) (@Hm a) (@yd<|ej a)<|@vm<|he a)
theorem Hn (a:Nat):qM (bC<|tE a):=@bG qM (oy a) (@abz _ _ (@Sb a) (@SB<|ch a)<|@BZ<|he a)
theorem Sc (a:Nat):sr (bC<|tE a):=@bG sr (oy a) (@aby _ _ (@Sa a) (@Hu<|ch a) (@HD a)<|@BZ<|he a)
theorem Sk (a:Nat):sv (bC<|he a):=@bG sv (ej a) (@abN _ _ (@lx<|ch a) (@Hv a)<|@Sy a)
theorem BU (a:Nat):sw (bC<|lM a):=@bG sw (he a) (@abO _ _ (@Sk a) (@yj<|dj a) (@Sv<|dj a) (@lx<|dj a) (@Hv<|bu a) (@Hw<|bu a) (@Hx<|bu a) (@vp<|dj a)<|@SG<|ej a)
theorem Sm (a:Nat):xQ (bC<|DY a):=@bG xQ (tE a) (@abQ _ _ (@HE<|dj a) (@Hn a) (@Hr<|dj a) (@BU<|ch a) (@BW<|ej a) (@vp<|lM a)<|@HF<|oy a)
theorem Sl (a:Nat):xP (bC<|DY a):=@bG xP (tE a) (@abP _ _ (@Sc a) (@Hn a) (@Hr<|dj a) (@Sj<|ej a) (@BU<|ch a) (@Su<|ej a) (@BW<|ej a) (@HD<|bu a) (@HE<|dj a) (@vp<|lM a)<|@HF<|oy a)
theorem Sn (a:Nat):xR (bC<|bu a):=@bG xR a (@abR _ _)
theorem yi (a:Nat):pp (bC<|bu a):=@bG pp a (@abS _ _)
theorem So (a:Nat):xS (bC<|ch a):=@bG xS (bu a) (@abT _ _<|@yi a)
theorem Sp (a:Nat):xT (bC<|ch a):=@bG xT (bu a) (@abU _ _<|@yi a)
theorem Sq (a:Nat):sx (bC<|aay a):=@bG sx (DY a) (@abV _ _ (@BU<|dj a) (@Sl a) (@Sm a) (@yi<|tE a) (@So<|oy a) (@Sp<|oy a)<|@yl<|tE a)
theorem RO (a:Nat):xA (n5<|bu a):=@vj xA a (@Zh _ _)
theorem RP (a:Nat):xB (n5<|bu a):=@vj xB a (@Zi _ _)
theorem Ss (b:Nat):∀a,ma b (bC<|lM<|b+a):=by
 refine gl (λa=>?_) (λb c a=>?_) b
 ·rw[jG];exact @bG (ma 0) (he a) (@abY _ _ (@Si<|bu a) (@yj<|dj a) (@lx<|dj a) (@BW<|bu a)<|@vp<|dj a)
 ·rw[Nat.succ_add];exact @bG (ma<|b+1) (lM<|b+a) (@abX _ _ b (@c a) (@yj<|ej<|b+a) (@Sz<|bu<|b+a)<|@vp<|ej<|b+a)
theorem agj (d:List Int):∃b,b<=300/\(kx cT b).gw 61 [.fP (d.map .I)] ⟨λc=>D,λc=>D,λc=>D⟩ (λv c=>v=.bs ag):=⟨19,by decide,by exact K0<|>@abZ _ _ (@Sn 17) (@yi 17) (@Sq 8) (λa e=>@Eq.mp _ _ (congrArg (λb=>ma a<|bC b) (congrArg (·+6) (mN e):lM (a+(12-a))=18))<|@Ss a<|12-a) (@SF 15) (@BZ 16) (@He 17) (@RO 17) (@RP 17) d _⟩
end
section
set_option tactic.hygienic true
open PySem PySem.W PyProof.Rows
def y5:j3->Bool
 |.builtin a _=>a=="claim.caller"|_=>ap
def pC (l:List (j3×a5)):Bool:=uo l.length 1&&l.all λx=>y5 x.1
def kw {a:Type}(d:cM a)(b:a):cM a:=do
 let c<-stack;if pC c then d else cr b
theorem RN {j:Type}{e:fx}{k:cn}{i:cM j}{g:j}{f:j->al->Prop}{l:af->al->Prop}{d:al}(n:∀b c,b.In k->pC ((b.code,c)::b.below)=ag->r0 e b i (λa q h=>f a h) (λm q h=>l m h) c d)(o:f g d):aS e k (kw i g) f l d:=λb c p=>by
 unfold kw;rw[r1];show r0 e b (if pC ((b.code,c)::b.below)=ag then i else cr g) _ _ c d;split
 ·exact n b c p ‹_›
 ·exact o
theorem RQ {n:Type}{i:fx}{o:cn}{l:cM n}{j:n}{f:n->al->Prop}{h:af->al->Prop}{g:al}(c:aS i o (kw l j) f h g)(b:Ctx)(e:a5)(q:b.In o):(pC ((b.code,e)::b.below)=ag->r0 i b l (λa m d=>f a d) (λk m d=>h k d) e g)/\(pC ((b.code,e)::b.below)=ap->f j g):=by have c:=c b e q;unfold kw at c;rw[r1]at c;have c:r0 i b (if pC ((b.code,e)::b.below)=ag then l else cr j) (λa m d=>f a d) (λk m d=>h k d) e g:=c;constructor<;>intro p<;>rw[p]at c<;>exact c
theorem N0 {cT:ln}{d:gC}{a:al}(b:cM qk)(c:qk):step (r5 iZ) cT d a ⟨kw b c,.builtin "claim.caller" {},lh,[]⟩=.go a ⟨b,.builtin "claim.caller" {},lh,[]⟩:=rfl
theorem Ub {c:ClaimW}{h:List af->cM qk}{i:qk}{d:gC}{b:al}{free:bm->Prop}{gens:Prop}{m:aT->Prop}(s:b.asleep)(o:c.CallFrom (λa=>⟨kw (h a) i,.builtin "claim.caller" {},lh,[]⟩) d free gens m b):c.CallFrom (λa=>⟨h a,.builtin "claim.caller" {},lh,[]⟩) d free gens m b:=by
 intro args p q t r;obtain⟨a,g,k,f,j,x,l,ew⟩:=o args p q t r;refine⟨a,g,k,?_⟩;have y:g.asleep:=FY (layAllW_rest _ _ _ k).2.2.2 s;cases f with
 |zero=>cases l
 |succ f=>
  refine⟨f,j,x,?_,ew⟩;rw[<-l];show _=(match sstep (r5 iZ) c.prog d (.single g ⟨kw (h a) i,.builtin "claim.caller" {},lh,[]⟩)with
   |.go n=>schedN (r5 iZ) c.prog d f n|.halt j b=>.halted j b)
  rcases sstep_single (r5 iZ) c.prog d g ⟨kw (h a) i,.builtin "claim.caller" {},lh,[]⟩ rfl y with e|e
  ·rw[e,N0];rfl
  ·rw[N0]at e;cases e
theorem XF {c:ClaimW}{j:List af->cM qk}{d:qk}{f keeps:List aq}{writes:Bool}(m:c.HoldsOpenBy (λb=>⟨kw (j b) d,.builtin "claim.caller" {},lh,[]⟩) f keeps writes):c.HoldsOpenBy (λb=>⟨j b,.builtin "claim.caller" {},lh,[]⟩) f keeps writes:=by obtain⟨n,o,g⟩:=m;refine⟨n,o,λk=>⟨(g k).1,λr h=>?_⟩⟩;obtain⟨s,a,l,i,e,x,y,t,q⟩:=(g k).2 r h;have p:i.asleep:=FY e.2.1 (FY (fence_lifeW a)<|AfterImport.life h);exact⟨s,a,l,i,e,x,y,t,Ub p q⟩
theorem XG {r:OpenRow}{q:ln}{loose:List aq}{xq:al->Bool}{uJ:(aq->Option af)->aT->Prop}{C:Type}{Bv:al->C}{Bu:gC->C}{uK:gC->aT->Prop}{d:DefRec}{xt:List (aq×am)}{N:Nat}(left:LeftO r.prog q loose xq Bv Bu N)(W:∀c b,Bv b=Bu c->uK c b.heap)(Z:∀c g l,uK c g->(∀k h,g.get? k=J h->l.get? k=J h)->uK c l)(S:∀b,xq b=ag->uJ (b.heap.nsMap kQ) b.heap)(T:∀i g l,uJ i g->(∀k h,g.get? k=J h->l.get? k=J h)->uJ i l)(x:defOf q r.name=J (d,xt))(b':r.prog.theDef r.name=J (d.params,d.body,d.scope))(a':kwWritten? d.params.kwonlyargs d.params.kw_defaults=J xt)(R:∀b,xq b=ag->RecFacts r.records b.heap)(c9:(!r.writes||r.records.isEmpty)=ag)(d8:r.wellSaid=ag)(e9:(chainsOk q&&opensWell r.prog&&(frees r.toRowW&&r.within.isEmpty))=ag)(a8:r.prog.bare)(A:r.toRowW.promised)(call:WalkO q loose uJ uK r.toRowW d xt λf e=>kw (dL f e)<|.bool ag):r.Holds:=by
 refine⟨d8,A,XF (d:=.done (.ret<|.bool ag)) (open_anyG (r:=r.toRowW) (run:=λf e=>kw (dL f e)<|.bool ag) (tree:=λe=>kw (do match<-nsGet mainNs r.name with
  |some f=>do ret (<-dL f e)
  |none=>Bp "claim.caller:no-such-global")<|.done (.ret<|.bool ag)) left W Z S T R c9 e9 a8 A (λe c b i f g8 f' y a9 g j n c'=>?_) (λc b y o e8 b9=>?_) λc f8 f9 i d' o E args e F c8 b8 p low=>?_)⟩
 ·have s:=RQ g j n c';unfold kw;rw[r1];show r0 (fh r.prog c) j (if pC ((j.code,n)::j.below)=ag then _ else cr _) _ _ n b;split
  ·rename_i t;have s:=s.1 t;rw[r1];refine(Sem.wp_nsGet (fh r.prog c) j _ n b (a:=mainNs) (m:=i) y r.name _).mpr ?_;rw[a9];show r0 (fh r.prog c) j (do ret (<-dL f e)) _ _ n b;rw[r1];exact s
  ·rename_i t;exact s.2 (by simpa using t)
 ·obtain rfl:e8=r.name:=by split at b9<;>simp_all
  exact pinned_of_view y o x b' a'
 ·obtain⟨a,h,e',G,doc,H,d9,z,K,M,P,Q⟩:=o.fn x;exact⟨.ref a,z,call c f8 f9 i d' o E a h e' G doc H d9 K M P Q (defOf_name x▸z) p.gens args e F c8 b8 p.reads p.well (p.low low)⟩
end
section
set_option tactic.hygienic true
open PySem PySem.W PyProof.Rows PySem.Calls
noncomputable abbrev eZ:ln:=c4.row.toRowW.prog
noncomputable def zS (e b:qm->Bool)(d:mR->qm->Option (mR×qm)):Nat->mR->qm->Option mR
 |0,_,_=>D|f+1,c,a=>match e a with
  |true=>J c|false=>match b a with
   |false=>D|true=>match d c a with
    |some (g,h)=>zS e b d f g h|none=>D
theorem Nw {j:String->Option ut}{h:ln}{k:gC}{g:Nat}{d:Option af}:∀{f:Nat} {c i:mR} {b:qm},zS Gm (stepOk g d) (stepT (r5 j) h k) f c b=J i->Bf j h k g d f c.abs b=J i.abs
 |0,_,_,_,a=>by cases a
 |f+1,c,i,b,a=>by
  unfold zS at a;unfold Bf;cases l:Gm b with
  |true=>rw[l]at a;cases a;rfl
  |false=>
   rw[l]at a;cases m:stepOk g d b with
   |false=>rw[m]at a;cases a
   |true=>
    rw[m]at a;cases e:stepT (r5 j) h k c b with
    |none=>rw[e]at a;cases a
    |some n=>obtain⟨o,p⟩:=n;rw[e]at a;rw[stepT_spec e];exact Nw a
noncomputable def TR (a:xb):BT:=.node (boot_o_0 a) (.node (boot_o_1 a) (.node (boot_o_3 a) (.node (boot_o_7 a) .nil .nil) .nil)<|.node (boot_o_5 a) (.node (boot_o_9 a) .nil .nil) .nil) (.node (boot_o_2 a) (.node (boot_o_4 a) (.node (boot_o_8 a) .nil .nil) .nil)<|.node (boot_o_6 a) (.node (boot_o_10 a) .nil .nil) .nil)
noncomputable def IB (a:xb)(b:oY):mR:=⟨TR a,11,{},#[],F6,F7,b⟩
theorem TQ (a:xb)(b:oY):(IB a b).abs=⟨qn a,E2 [],F6,F7,b⟩:=by kernel_rfl
noncomputable abbrev Og (a:gC):mR->qm->Option (mR×qm):=QC (agc agd) eZ a
noncomputable abbrev MT:qm->Bool:=QD 11 (J<|.ref 6)
theorem ae3 (a:gC):stepT (r5 uF) eZ a=Og a:=by show _=QC _ _ _;rw[<-af6,<-af7,<-aga]
theorem ZU:stepOk 11 (J<|.ref 6)=MT:=by show _=QD _ _;rw[<-agb]
noncomputable def tI (a:gC)(b:oY):Option mR:=zS Gm MT (Og a) 5800 (IB a.params b) (Go eZ)
noncomputable def mD:ln:=view eZ [98]
noncomputable def de:List aq:=eZ.boundNames.filter λa=>!(a==c4.row.toRowW.name)
noncomputable def LZ (b:gC)(a:al):Bool:=Gl (r6 eZ.main.body) (qn b.params) a.heap&&Gh eZ a.heap&&Gb a&&Ge (qn b.params) a.heap
noncomputable def Ar (a:al):Bool:=xlAt mD [] a&&recOk (RowW.records c4.row.toRowW) a
abbrev xz (b:Type)(c:al->b)(a:b):Prop:=∀(f:gC) (d:oY),(tI f d).map (λe=>c e.abs)=J a
noncomputable def MR (a:al):List (Option bq):=(kC.take 53).map (nl<|hs a.heap)
noncomputable def ZM (a:al):List (Option bq):=(kC.drop 53).map (nl<|hs a.heap)
noncomputable def ZN (a:al):List (Option jM)×Bool:=((ih 5).map<|re<|hs a.heap,ra (hs a.heap)&&tm (hs a.heap))
noncomputable def MS (a:al):Bool:=(ih 5).all (mh<|hs a.heap)
theorem WE:∀a,fenceModules? eZ a=J a:=λb=>by rfl
theorem Z3:opening eZ=plainProg eZ.main.scope.names:=by kernel_rfl
theorem TS (a:gC):((qn a.params).isNs kQ&&(E2 []:Array GenState).size==0,(qn a.params).objs.size,(qn a.params).nsMap kQ "__annotations__")=(ag,11,J (.ref 6)):=by kernel_rfl
theorem ae0 {b:gC}{c:oY}{d:mR}(a:tI b c=J d):Bf uF eZ b 11 (J<|.ref 6) 5800 ⟨qn b.params,E2 [],F6,F7,c⟩ (Go eZ)=J d.abs:=by unfold tI at a;rw[<-ae3,<-ZU]at a;have:=Nw a;rw[TQ]at this;exact this
theorem Ey {f c k:Type}{e:Option f}{d:f->c}{a:c}(b:c->k)(g:e.map d=J a):e.map (λj=>b<|d j)=J (b a):=aU (fw.mp g) λx h i=>fw.mpr ⟨x,h,congrArg b i⟩
theorem Ez:∀(b:gC) (c:oY),(tI b c).map (λa=>(λa=>((LZ b a,Gj mD de (r6 eZ.main.body) Ar ag a),MR a,MS a)) a.abs)=J ((ag,Gi mD de),(fX.take 53).map J,ag):=λb c=>by kernel_rfl
theorem aeG:∀(b:gC) (c:oY),(tI b c).map (λa=>(λa=>(LZ b a,Gj mD de (r6 eZ.main.body) Ar ag a)) a.abs)=J (ag,Gi mD de):=λb c=>Ey (λx=>x.1) (Ez b c)
theorem aeH:xz _ MR ((fX.take 53).map J):=λb a=>Ey (λx=>x.2.1) (Ez b a)
theorem aeI:xz _ ZM ((fX.drop 53).map J):=λb a=>by kernel_rfl
theorem aeJ:xz _ ZN (gu.map J,ag):=λb a=>by kernel_rfl
theorem aeK:xz _ MS ag:=λb a=>Ey (λx=>x.2.2) (Ez b a)
theorem ZO {e:gC}{d:oY}{a:mR}(j:tI e d=J a):wa a.abs.heap=wb:=by have f:=aeH e d;have c:=aeI e d;have b:=aeJ e d;have g:=aeK e d;rw[j]at f c b g;have f:(kC.take 53).map (nl<|hs a.abs.heap)=(fX.take 53).map J:=dr f;have c:(kC.drop 53).map (nl<|hs a.abs.heap)=(fX.drop 53).map J:=dr c;have b:=dr b;have g:(ih 5).all (mh<|hs a.abs.heap)=ag:=dr g;have i:(ih 5).map (re<|hs a.abs.heap)=gu.map J:=congrArg Prod.fst b;have h:(ra (hs a.abs.heap)&&tm (hs a.abs.heap))=ag:=congrArg Prod.snd b;rw[ek]at h;unfold wa wb;rw[i,h.1,h.2,g];refine Prod.ext ?_ rfl;show kC.map _=fX.map J;rw[<-j1 53 kC,cD,f,c,<-cD,j1]
theorem YE {c q:ln}{loose:List aq}{i:al->Bool}{r:Type}{k:al->r}{j:gC->r}{d:Nat}{lq:xb->aT}{e:Array GenState}{g:Drawn}{h:Nat}{p:Nat}{l:Option af}(C:∀a:gC,(fencedOpening uF c a d).map (λb=>(b.heap,b.gens,b.drawn,b.toks))=J (lq a.params,e,g,h))(size:∀a:gC,((lq a.params).isNs kQ&&e.size==0,(lq a.params).objs.size,(lq a.params).nsMap kQ "__annotations__")=(ag,p,l))(run:∀(a:gC) (f:oY),∃b,Bf uF c a p l d ⟨lq a.params,e,g,h,f⟩ (Go c)=J b/\(Gl (r6 c.main.body) (lq a.params) b.heap&&Gh c b.heap&&Gb b&&Ge (lq a.params) b.heap)=ag/\Gj q loose (r6 c.main.body) i ag b=Gi q loose/\k b=j a):LeftO c q loose i k j d:=λa=>by
 obtain⟨⟨x,n,m,o,f⟩,s,t⟩:=fw.mp (C a);obtain⟨rfl,rfl,rfl,rfl⟩:x=lq a.params/\n=e/\m=g/\o=h:=by simpa using t
 obtain⟨G,H,K⟩:_/\_/\_:=by simpa only[Prod.mk.injEq]using size a
 obtain⟨b,E,y,z,A⟩:=run a f;have F:Gn uF c a d ⟨lq a.params,n,m,o,f⟩=J b:=by unfold Gn;dsimp only;rw[G,H,K,E];show(match Gl (r6 c.main.body) (lq a.params) b.heap&&Gh c b.heap&&Gb b&&Ge (lq a.params) b.heap with|true=>_|false=>_)=_;rw[y]
 unfold openEnds;rw[s];show(Gn uF c a d _).map _=_;rw[F];exact congrArg J (Prod.ext z A)
theorem i5:LeftO eZ mD de Ar (λa=>wa a.heap) (λe=>wb) 5800:=YE (lq:=qn) (boot_open (p:=eZ) (N:=5800) Z3 rfl WE) TS λd c=>by obtain⟨a,b,l⟩:=fw.mp (aeG d c);exact⟨a.abs,ae0 b,congrArg Prod.fst l,congrArg Prod.snd l,ZO b⟩
theorem acX:sreFenced eZ.main=ag:=by kernel_rfl
theorem acY:((QX eZ.main.body).isEmpty||lookedIntoSs (QX eZ.main.body) eZ.main.body)=ag:=by kernel_rfl
theorem adb:namesResolve eZ=ag:=by kernel_rfl
theorem adm:(eZ.boundNames.all λa=>!worldNames.contains a)=ag:=by kernel_rfl
theorem adw:noRoadLSs {strict:=!(r6 eZ.main.body).all cThrough.contains,foot:=D,bare:=Ff (readsOut eZ eZ.main.body) [aR "vars",aR "dir",aR "locals"]} eZ.main.body=ag:=by kernel_rfl
theorem adx:(Be eZ eZ.main.body λx a=>attrL a)=ag:=by kernel_rfl
theorem ady:c4.row.loose.isEmpty=ag:=by kernel_rfl
theorem adz:c4.row.makers.isEmpty=ag:=by kernel_rfl
theorem adA:(Pt c4.row.records||c4.row.raises.all λa=>a.fst !=ExcName.builtin "AttributeError"&&a.fst !=ExcName.builtin "TypeError")=ag:=by kernel_rfl
theorem adB:(c4.row.raises.all λb=>
 match b.fst with
 |ExcName.builtin a=>!eZ.boundNames.contains (aR a)&&!ofTheWorld.contains a|ExcName.own name=>ag)=ag:=by kernel_rfl
theorem acZ:dk (lR (λx=>x.fst) c4.row.records).Nodup=ag:=by kernel_rfl
theorem ac0:(List.all c4.row.records λx=>!x.fst.opensWith (aR "__")&&!Ga x.fst&&eZ.boundNames.contains x.fst&&x.snd.all λa=>!a.fst.opensWith (aR "__"))=ag:=by kernel_rfl
theorem ac1:c4.row.solid=ag:=by kernel_rfl
theorem ac2:c4.row.pre.litsOk=ag:=by kernel_rfl
theorem ac3:c4.row.post.litsOk=ag:=by kernel_rfl
theorem ac4:(c4.row.raises.all λx=>x.snd.litsOk)=ag:=by kernel_rfl
theorem ac5:(c4.row.mutates.all λi=>
 match c4.row.args[i]? with
 |some a=>!a.arms.any WShape.isObj|none=>ap)=ag:=by kernel_rfl
theorem ac6:(c4.row.within.all λi=>dk (i<c4.row.args.length))=ag:=by kernel_rfl
theorem ac7:FF (λi=>dk (i<c4.row.args.length)) c4.row.same=ag:=by kernel_rfl
theorem ada:eZ.boundNames.contains c4.row.name=ag:=by kernel_rfl
theorem adc:(!startupNames.contains c4.row.name)=ag:=by kernel_rfl
theorem add:dk (c4.foot<=(behindTheImports c4.prog).length)=ag:=by kernel_rfl
theorem ade:c4.footing.all footLine=ag:=by kernel_rfl
theorem adf:noClassBlock c4.prog c4.footing=ag:=by kernel_rfl
theorem adg:FF (λa=>dk (63<=a)) c4.most=ag:=by kernel_rfl
theorem adh:FF (λa=>dk (2^63<=a)) c4.bound=ag:=by kernel_rfl
theorem adi:noRoadLSs {strict:=ag,foot:=J c4.bound',writes:=c4.writes,may:=c4.may} c4.footing=ag:=by kernel_rfl
theorem adj:defStands c4.about c4.above=ag:=by kernel_rfl
theorem adk:c4.namesIt=ag:=by kernel_rfl
theorem adl:([aR "type",aR "isinstance",aR "issubclass",aR "getattr",aR "hasattr"].all λa=>c4.about !=[a])=ag:=by kernel_rfl
theorem adn:(c4.bound'.all λa=>!Ga a||c4.about==[a]||!c4.reads a)=ag:=by kernel_rfl
theorem ado:(!c4.writes||(Pl QO c4.prog.main.body).all λa=>!c4.reads a)=ag:=by kernel_rfl
theorem adp:((Pl QO c4.prog.main.body).all λb=>!c4.reads b||(drawsOf b c4.prog.main.body).all λa=>a.snd !=aR "attrgetter"&&a.snd !=aR "methodcaller")=ag:=by kernel_rfl
theorem adq:(Be c4.prog c4.footing λb a=>(![aR "type",aR "isinstance",aR "issubclass",aR "getattr",aR "hasattr"].contains a||oN a b.names==J Qz)&&(c4.may !=J a||b.kind==ScopeKind.module||oN a b.names==J Qz))=ag:=by kernel_rfl
theorem adr:c4.own.contains c4.name=ag:=by kernel_rfl
theorem ads:(c4.own.eraseDups.length==c4.own.length)=ag:=by kernel_rfl
theorem adt:(c4.own.all λa=>!Ga a)=ag:=by kernel_rfl
theorem adu:(Be c4.prog c4.above λx a=>!c4.own.contains a)=ag:=by kernel_rfl
theorem adv:(Be c4.prog c4.footing λa b=>a.kind==ScopeKind.module||oN b a.names !=J af5)=ag:=by kernel_rfl
theorem YD:c4.wellSaid=ag:=by
 unfold OpenLaw.wellSaid OpenRow.wellSaid OpenRow.partSaid looksOpen;repeat' (with_reducible refine look_both ?_ ?_)
 ·exact acX
 ·exact acY
 ·exact adb
 ·exact adm
 ·exact adw
 ·exact adx
 ·exact ady
 ·exact adz
 ·exact adA
 ·exact adB
 ·exact acZ
 ·exact ac0
 ·exact ac1
 ·exact ac2
 ·exact ac3
 ·exact ac4
 ·exact ac5
 ·exact ac6
 ·exact ac7
 ·exact ada
 ·exact adc
 ·exact add
 ·exact ade
 ·exact adf
 ·exact adg
 ·exact adh
 ·exact adi
 ·exact adj
 ·exact adk
 ·exact adl
 ·exact adn
 ·exact ado
 ·exact adp
 ·exact adq
 ·exact adr
 ·exact ads
 ·exact adt
 ·exact adu
 ·exact adv
noncomputable def w.CK:w:=⟨λa=>D,λa=>D,λa=>D⟩
def GX:Prop:=∀a:List Int,a.length<=63->∃b,b<=300/\(kx cT b).gw 61 [.fP (a.map .I)] w.CK (λv c=>v=.bs ag)
noncomputable def vD:DefRec×List (aq×am):=(defOf mD c4.row.toRowW.name).getD (⟨lh,lh,lh,lh,lh⟩,[])
theorem U3:vD.1.name="law":=by kernel_rfl
theorem aeL:cd.fX.lookup ("law":aq)=J 61:=by kernel_rfl
theorem afC {c:bj}{g:bi}{d:aT}{b:List af}{a:List Int}(q:us b a):dc c g d b (a.map .I):=by
 induction q with
 |nil=>exact .L|cons f h i e=>exact .Y (.I f h) e
theorem XZ {b:List af}{a:List Int}(q:us b a):b.length=a.length:=by
 induction q with
 |nil=>rfl|cons d f e c=>exact congrArg oT c
theorem RT {Z:bj}{a:bm}{e:List af}{d:List Int}{i:xb}(k:Z.d1.IsList a e.toArray)(j:Well i Z.d1 (FZ a) (ofPy<|QB<|d.map QA))(f:us e d)(l:d.length<=63):dc Z (λp=>False) Z.d1 [.ref a] [.fP (d.map .I)]:=by
 cases j with
 |@list _ h _ g _=>obtain⟨o,c,_,m,b⟩:=k;have c:=g.symm.trans c;injection c with c;have b:Data.seq h.toArray 0=Data.seq e.toArray m:=(congrArg rY c).trans b;injection b with b _;have b:h=e:=congrArg OE b;subst b;exact .Y (.fP (n:=0) g (by rw[XZ f];exact ba l<|~~~_)<|afC f) .L
theorem aaN {b:Nat}(a:b<=300):gE b callerA:=⟨rfl,eo (rK (jc (rT 2 a) _) 4) (by decide:1+claimMargin+2*300+4<recursionLimit),eo (rK (jc (rT 12 a) _) 100) (by decide:4+12*300+100<cLine)⟩
theorem X5 {c:j3}(a:y5 c=ag):jq c=ap:=by cases c<;>first|exact absurd a rD|exact V (yv _ _)<|V (eq_of_beq a)<|by decide+kernel
theorem IJ {a:Ctx}{d:a5}(b:pC ((a.code,d)::a.below)=ag):jq a.code=ap/\mZ a.below:=by have b:=lg.mp b;have c:a.below=[]:=AL.mp (g0<|AV b.1);exact⟨X5 (lg.mp (show(y5 a.code&&a.below.all λx=>y5 x.1)=ag from b.2)).1,V c<|λx q=>nomatch q⟩
theorem XH (F:GX):WalkO mD de (XL mD []) (λc j=>sI j) c4.row.toRowW vD.1 vD.2 λS A=>kw (dL S A) (.bool ag):=by
 intro g' z e t e' i K W l k9 h9 doc h' j' j9 j8 i' i9 r b' args l8 h8 d9 c8 d' e8 c';wrow_args d9 c8 d' e8 c';rename_i k _ _ _ _ _ _ _ a A _ b9 _ G _ b8 _ c9 _;obtain⟨E,H,M,h,N,P,Q⟩:=K;rw[U3]at r;have s:k.length<=63:=eT λj=>c9 (cz.mpr j);have o:∀(v:af) (f:al),v=.bool ag->(∀n l,e.heap.get? n=J l->f.heap.get? n=J l)->f.os=e.os->f.gens=e.gens->GoodWG c4.row.claim (classAt z.heap) (ExcName.means z.heap) [ofPy (QB<|k.map QA)] e (.ok<|.ret v) f:=by rintro v f rfl a8 a9 a';refine GoodW.toG ⟨.inl ⟨_,.bool ag,[],rfl,λc=>rfl,.bool ag,by wrow_post,λc=>⟨.nil,λc q=>nomatch q⟩⟩,a8,a9,a'.trans b'⟩
 let Z:bj:=⟨c4.row.prog,g',e.heap,E,t,e',d4,lv.iK⟩;have m:BC Z:=aap (Z:=Z) rfl rfl H i.T.g i.T.b i.T.nolimit M h N P Q;have R:W=lv.iK 61:=by have:=m.fX ("law":aq) 61 aeL;rw[show Z.mu=t from rfl,r]at this;injection this with this;injection this
 obtain⟨f8,d8,run⟩:=F k s;refine RN (λC y e9 p=>?_) (o _ _ rfl (λc c d=>d) rfl rfl);have f9:a3 Z (λc=>False) w.CK e.heap:=⟨λc c d=>d,λc c d=>(nomatch d),λc c d=>(nomatch d),λc c d=>(nomatch d)⟩;have x:=(Uu m ad7 f8).gw callerA (λc=>False) 61 [.ref a] _ e w.CK _ (aaN d8) f9 ⟨λc q=>q.elim,λc q=>q.elim⟩ (RT (Z:=Z) b9 G b8 s) run;rw[R];refine uw _ C _ (λv c f q=>?_) (λc c c q=>q.elim) y e (x C y e9 (IJ p).1 (IJ p).2);exact fb q λk8 l9 g8 f' g9 d=>fZ g8.cX λi8 k' h=>o _ _ (t0<|d▸g9) f'.fs (by rw[h]) (by rw[h])
set_option maxHeartbeats 8000000 in
theorem agg (e:GX):c4.Holds:=by refine holds_law YD λh=>?_;refine XG (q:=mD) (loose:=de) (xq:=Ar) (uJ:=XL mD []) (Bv:=λc=>wa c.heap) (Bu:=λa=>wb) (uK:=λa f=>sI f) (d:=vD.1) (xt:=vD.2) (N:=5800) i5 (λa a b=>acQ b) (λa a a x g=>x.Ys g) (λc b=>xl_of c (lg.mp b).1) XL.keeps (by kernel_rfl) (by kernel_rfl) (by kernel_rfl) (λc b=>recFacts_of (lg.mp b).2) (by kernel_rfl) h (by decide+kernel) ⟨rfl,rfl,rfl,rfl,rfl,by decide+kernel⟩ ?hw (XH e);case hw=>w_witness2
end
end lv
theorem PySem.Challenge.cw_nt0141_01_holds : PySem.Challenge.rw_nt0141_01.Holds :=
 lv.agg fun d _=>lv.agj d
