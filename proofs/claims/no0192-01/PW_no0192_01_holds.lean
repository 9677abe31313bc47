import PyProof.Rows.All
import Wide.All
import OpenK.AllK
import Wide.FinOn
import PyProof.TableCode
import PyProof.Rows.GenSrcRange
import Lean
import PySem.Challenge.RW_no0192_01
set_option Elab.async false
set_option linter.all false
set_option tactic.hygienic false
set_option genCtorIdx false
set_option bootstrap.genMatcherCode false
set_option backward.match.sparseCases false
set_option genSizeOf false
set_option maxRecDepth 100000
set_option maxHeartbeats 8000000
open Array renaming any_toList->U_,getElem?_eq_getElem->JY,getElem?_eq_none->Cj,getElem?_eq_some_iff->Ck,getElem?_setIfInBounds_self_of_lt->Va,getElem?_toList->pH,length_toList->kw,mem_toList_iff->Vb,toList_push->Vc
open Bool renaming and_eq_true->JZ,and_eq_true_iff->nI,and_false->vH,and_true->nJ,decide_and->Cm,eq_false_iff->ov,eq_iff_iff->J0,false->aa,false_eq_true->Vd,false_ne_true->Ve,not->nK,not_eq_true'->Cn,or_eq_true_iff->Co,or_true->tn,true->ac
open Char renaming toNat->J1
open Classical renaming em->XR
open Decidable renaming byContradiction->Vf,decide->bj,not_not->J2
open Eq renaming symm->hB,trans->cJ
open Except renaming ok->mW
open Except.ok renaming inj->Vg
open False renaming elim->jU
open ForIn renaming forIn->to
open ForInStep renaming yield->tp
open Function renaming comp->XS
open HAdd renaming hAdd->yF
open HSub renaming hSub->Vh
open Iff renaming mpr->vI,rfl->J3
open Inhabited renaming default->cQ
open Int renaming add_assoc->Cp,add_comm->yG,add_le_add->Vi,add_nonneg->Vj,add_sub_cancel->ow,add_zero->vJ,eq_ofNat_of_zero_le->J4,le_antisymm->vK,le_of_eq->gL,le_of_lt->Cq,le_refl->J5,le_trans->nL,lt_irrefl->pI,lt_of_le_of_lt->Cr,lt_of_lt_of_le->vL,lt_or_eq_of_le->J6,lt_trans->Cs,mul_add->Ct,mul_comm->Vk,mul_nonpos_of_nonneg_of_nonpos->Vl,mul_zero->Vm,natAbs_ne_zero->Vn,natCast_mul->Vo,natCast_nonneg->lf,natCast_pos->Vp,neg_one_mul->Vq,neg_pos_of_neg->Vr,not_le->pJ,not_lt->iA,ofNat->ox,ofNat_inj->Cu,ofNat_le->jV,ofNat_lt->mX,one_mul->Vs,sub_nonpos_of_le->Vt,sub_zero->Vu,toNat->J7,toNat_lt->J8,toNat_of_nonneg->J9,zero_add->tq,zero_mul->Vv
open Int.ofNat renaming inj->eW
open LawfulBEq renaming eq_of_beq->cY
open List renaming all_eq_true->vM,any_cons->J_,append_assoc->bD,append_nil->dI,cons->Ka,cons_lt_cons_iff->Cv,contains_cons->Kb,contains_iff_mem->tr,dropLast_eq_take->Vw,drop_eq_getElem_cons->Kc,drop_eq_nil_iff->Kd,drop_eq_nil_of_le->Cw,drop_left'->Vx,ext_getElem->Vy,ext_getElem?->Vz,filterMap_cons->VA,filter_cons->VB,find?_cons->tu,foldl_cons->Ke,forall_mem_cons->tv,getD_eq_getElem?_getD->iB,getElem?_append_left->iW,getElem?_append_right->mY,getElem?_concat_length->dJ,getElem?_drop->VC,getElem?_eq_getElem->fd,getElem?_eq_none->VD,getElem?_eq_none_iff->Cx,getElem?_eq_some_iff->cK,getElem?_map->lg,getElem?_of_mem->VE,getElem?_set_ne->ge,getElem?_set_self->gX,getElem_idxOf->Kf,getElem_inj->Cy,getElem_mem->Kg,getElem_of_mem->VF,idxOf?->VG,idxOf?_cons->VH,idxOf_append->Kh,idxOf_lt_length_of_mem->Cz,isEmpty_iff->CA,length->hC,length_append->bH,length_cons->gY,length_drop->Ki,length_eq_zero_iff->Kj,length_map->bX,length_nil->VI,length_pos_iff->vN,length_range->Kk,length_set->lZ,length_singleton->gZ,length_take->vO,length_zipIdx->VJ,lookup->VK,lookup_cons->gt,lt_irrefl->VL,lt_trans->Kl,map_append->g_,map_congr_left->Km,map_cons->jW,map_eq_nil_iff->vP,map_map->q_,map_nil->VM,mem_append->fB,mem_append_left->vQ,mem_append_right->yH,mem_cons->bY,mem_cons_of_mem->ra,mem_cons_self->rb,mem_filterMap->VN,mem_map->rc,mem_of_getElem?->em,mem_of_mem_drop->VO,mem_range->CB,mem_range'_1->yI,mem_singleton->dk,nil_lt_cons->VP,nodup_append->CC,nodup_cons->mZ,nodup_nil->VQ,not_lt->VR,not_lt_nil->VS,not_mem_nil->VT,pairwise_append->VU,pairwise_cons->gu,pairwise_map->Kn,pairwise_singleton->VV,range->ic,range'->kx,range'_succ->Ko,range_eq_range'->Kp,range_succ->VW,set_append_right->vR,set_set->Kq,size_toArray->Kr,sum_cons->Ks,take_append_drop->VX,take_of_length_le->CD,toArray->CE,zipIdx_append->VY,zipIdx_cons->Kt
open List.cons renaming inj->oy,injEq->XT
open Max renaming max->oz
open Nat renaming add_add_add_comm->CF,add_assoc->iC,add_comm->l_,add_div_right->Ku,add_le_add->vS,add_le_add_left->hD,add_le_add_right->ha,add_left_cancel->CG,add_lt_add_left->Kv,add_lt_of_lt_sub'->VZ,add_mod_right->V0,add_right_comm->gv,add_sub_cancel'->CH,add_sub_cancel_left->pK,beq->hb,ble->ma,ble_eq->tw,blt->yJ,blt_eq->V1,cast->Kw,div->m_,div_eq_of_lt->V2,div_lt_of_lt_mul->V3,eq_add_of_sub_eq->Kx,eq_of_beq_eq_true->Ky,le_add_left->hE,le_add_right->ck,le_antisymm->iD,le_max_left->mc,le_max_right->na,le_mul_of_pos_right->CI,le_of_ble_eq_true->jm,le_of_eq->bp,le_of_lt->ky,le_of_lt_succ->vT,le_of_not_lt->aI,le_of_sub_eq_zero->Kz,le_of_succ_le->fn,le_of_succ_le_succ->jn,le_refl->bE,le_sub_one_of_lt->CJ,le_succ->ig,le_succ_of_le->lh,le_trans->aF,log2_lt->V4,lt_add_of_pos_right->li,lt_asymm->KA,lt_irrefl->lj,lt_of_le_of_lt->dK,lt_of_le_of_ne->CK,lt_of_lt_of_eq->V5,lt_of_lt_of_le->dL,lt_of_not_le->bo,lt_of_succ_lt->md,lt_of_succ_lt_succ->V6,lt_succ_iff_lt_or_eq->KC,lt_succ_of_le->jX,lt_succ_of_lt->tx,lt_succ_self->iE,lt_trans->iF,max_le->nM,min_eq_left->CL,min_le_left->V7,min_le_right->V8,mod->oA,mul_add_div->V9,mul_comm->V_,mul_le_mul_left->pL,mul_le_mul_right->Wa,mul_pos->Wb,mul_succ->Wc,ne_of_gt->me,ne_of_lt->dQ,not_lt->oB,not_lt_zero->KD,not_succ_le_zero->rd,pow_le_pow_right->CM,strongRecOn->Wd,sub_eq_zero_of_le->CN,sub_lt_left_of_lt_add->We,sub_self->re,succ_add->jo,succ_le_succ->dv,succ_lt_succ->Wf,succ_ne_self->Wg,succ_ne_zero->CO,succ_pos->hF,two_mul->Wh,zero_add->eb,zero_le->cr
open Nat.succ renaming inj->XU
open Ne renaming symm->vU
open Option renaming bind->Wi,bind_some->Wj,getD_some->Wk,isSome->vV,isSome_iff_exists->KE,isSome_map->Wl,map->hm,map_eq_some_iff->CP,map_some->Wm,none->Y,some->J
open Option.some renaming inj->aH
open Or renaming elim->gf
open Prod renaming ext->KG,fst->KH,snd->rf
open Prod.mk renaming inj->iX,injEq->Wn
open Pure renaming pure->gg
open PyProof.Rows renaming Call_->yK,IntsAre->nN,Subscript_->yL,assign_Tuple_tuple->Wo,getItem_tuple->XV,lt_str->XW,rangeSize_nat->XX,subscriptTail->rg,tail_any->vW
open PySem renaming Addr->aE,Arguments->ty,Around->en,CmpOp->vX,DictEntry->hG,Env->eE,ExcBaseFacts->WB,Expr->bn,Flow->oC,FuncBody->yN,FuncData->oD,Heap->aY,InCallC->yO,IsPart->CT,IsRangeIter->WP,KeyKind->yP,Model->tA,NameKind->fC,Obj->dw,Operator->nP,OsState->pM,Pos->cl,Program->cn,PyData->pN,Result->rh,Scope->eA,Sem->fo,Shared->aJ,Stmt->hH,Str->aG,Tok->mh,Value->ai,World->bQ,aRefKeyMayBeTheName_at->W4,allTrue->C0,assign->nR,assignInOrder->W5,atKey->nS,backTo->hJ,binaryOp->yU,bindC->yV,bindL->yW,boolOp->C1,bootBuiltins->KZ,builtinsNs->tE,call->gw,callEnvC->mi,callWith->C2,call_len_dict->W6,call_meets->yX,call_meetsIn->W7,cameBackBy->C3,cellsFrom->rj,codeAny->mj,codeAny_builtin->K0,codeAny_call_builtin->W8,codeAny_func->W9,codeAny_mono->C4,codeAny_of_tree->W_,compPost->K1,compareOp->oF,comprehension->Xa,eval->bz,evalEach->C5,evalPart_none->yY,excClassObj->K2,exec->ml,execs->nT,field->C6,foldedSetIterable->yZ,getAttr->C7,holding->wf,importedModules->y_,intKind->ll,intKind_is->rk,isInstance->K3,isTrue->jq,letOwnedTupleGo->K4,lookup_relabel_local->Xb,mainGlobals->js,mem_of_lookup->C8,methodCallForm->Xc,methodCallPos->C9,model->aR,newList->K5,noteFrame->za,pastItsLine_dict->Xd,plainId_quiet->Xe,plainObj_wpAny_Assign_Attribute->Xf,putAt->C_,pyNext->zb,rawInt->mm,setFlight->zc,setItem->Db,sizeLine->wg,sizeLine_eq->zd,slot_list_getitem->Dc,spliced->nU,standAt->wh,starEach->gM,storeName->Dd,stored->oG,storedH->tF,strKind->K6,strKind_is->De,swapsWith->ze,sysModules->lm,theTreesLotGoes->Xg,treeTable->wi,truthy->wj,tupleKind->Df,unaryOp->zf,unbindBehindTheSuite->Xh,valueAt->wk,wpAny->aV,wpAny_Constant_int->Xi,wpAny_Slice->zg,wpAny_UnaryOp->K7,wpAny_allTrue_And_cons->Xj,wpAny_allTrue_Or_cons->Xk,wpAny_askSetting->Xl,wpAny_assign_Name->tG,wpAny_attempt->Xm,wpAny_bind->bd,wpAny_bindName->Xn,wpAny_call->Dg,wpAny_call_entry->Xo,wpAny_execs_cons->Xp,wpAny_execs_nil->zh,wpAny_field->mn,wpAny_holding->ln,wpAny_isSubtype_exc->Xq,wpAny_is_plain->pQ,wpAny_listPart->K8,wpAny_loadPart->Dh,wpAny_loadPart_at->zi,wpAny_lookBehind->Xr,wpAny_mkText->K9,wpAny_mono->cE,wpAny_newObj_type->Di,wpAny_noRaise->K_,wpAny_noted->Xs,wpAny_of_eq->zj,wpAny_pure->cF,wpAny_pyIter_enum->Xt,wpAny_seqItems->Xu,wpAny_setField->zk,wpAny_standAt->oH,wpAny_storeName_local->Xv,wpAny_truthy_bool->tH,wpAny_typeOf->Xw,wpAny_updatePart->Xx
open PySem.Around renaming under_plainId->Wp
open PySem.AutoSeq1 renaming list_extend_list_list_0->XY,list_insert_list_int_val_1->XZ,sub_list_list->X0
open PySem.Builtin.Int renaming intBits->CQ
open PySem.Builtin.List renaming listItems->Wq,listSubscript?->Wr
open PySem.Builtin.ObjectAttr renaming storeInDict->Ws,storeTaker?->X1
open PySem.Builtin.Range renaming rangeFitsLong->Wt,rangeSize->tz,small->Wu
open PySem.Calls renaming Name_function_global->Wv,spliced_cons->KI,spliced_nil->Ww
open PySem.Challenge renaming pw_no0192_01->X2,rw_no0192_01->CR
open PySem.Code renaming call->Wx,quiet_builtin->Wy
open PySem.DictEntry renaming refKey->Wz
open PySem.EntryCells renaming newEntry->WA
open PySem.F renaming args_dict_get_3->WC,attr_Exception->WD,entry_dict_get->WE,plainAttrs_list->yM,slot_dict_get->KJ,slot_list_append->WF,slot_list_delitem->WG,slot_list_extend->WH,slot_list_index->WI,slot_list_insert->WJ,slot_list_pop->WK,slot_range_iterator_next->WL
open PySem.Heap renaming ExtBut->vY,SameBut->nb,get?_none_of_le->oE,get?_push_at->WN,get?_push_of_some->hn,get?_push_size->kz,get?_update_ne->WO,get?_update_other->CS,get?_update_self->v_,lt_size->nO,size_push->KL
open PySem.Heap.IsSliceOf renaming new->WM
open PySem.Heap.SameBut renaming refl->X3,update->vZ
open PySem.MeetsSeq renaming list_index->X4,list_pop_last->X5
open PySem.MeetsSeq3 renaming entry_eq_loop->WQ,plain_eq_loop->CU
open PySem.NameKind renaming cell->mf,free->kA
open PySem.Obj renaming data_mapFields->WR,mapFields->wa,mapSeq->WS,putName->tB
open PySem.P renaming lt_int->WT
open PySem.PyData renaming canLayAll0->WU,depthAll->WV,eqv->KN,eqvAll->WW,keyHash->kB
open PySem.Scope renaming kind->WX
open PySem.ScopeKind renaming function->wb
open PySem.SeqAt renaming shaped->KO
open PySem.SeqRoads2.EqGives renaming str->X6
open PySem.Str renaming ofString->eo
open PySem.UnaryOp renaming Not->WY
open PySem.Value renaming builtin->wc,none->lk,ref->ri
open PySem.Value.ref renaming inj->X7
open PySem.Value.type renaming inj->WZ
open PySem.W renaming Frag->eQ,Looks->yQ,alive->yR,any_some->KQ,boot_drawn->CV,boot_heap->CW,clsIn->wd,dictOf->jp,emptyDict->CX,findIn->hI,findObj_own->W0,getL->pO,hasDictIn->yS,instObj->pP,keepIn->tC,listOf->yT,lookIn_dict->KR,looks_clsIn->KS,looks_findIn->CY,looks_mroIn->W1,makesIn->KU,nsIn->we,openGood->KV,plainGet->KW,plainGet_of->W2,plainOver->CZ,putL->nQ,putName_dict->W3,takerIn->tD,topFrom->KX,topStub->KY
open PySem.W.Fast renaming te10110043849684766642->X8,te11892475500146522536->X9,te14364793385576792824->KP,te14374325043358763698->X_,te15667345088766844465->Ya,te4187177175401517315->Yb,te9446332074065402090->Yc,tw10110043849684766642->Yd,tw14364793385576792824->Ye,tw14374325043358763698->Yf,tw15667345088766844465->Yg,tw4187177175401517315->Yh
open String renaming toList_inj->Xy
namespace Mine.Internal
noncomputable section
section
section
variable {C:Prop} {g i j l m n:Prop}
def bx (h:g/\i) (k:g->i->C):C:=k h.1 h.2
def dq (h:g/\i/\j) (k:g->i->j->C):C:=k h.1 h.2.1 h.2.2
def bB (a:g) (b:i) (c:j):g/\i/\j:=⟨a,b,c⟩
def Xz (h:g/\i/\j/\l) (k:g->i->j->l->C):C:=k h.1 h.2.1 h.2.2.1 h.2.2.2
def mu (a:g) (b:i) (c:j) (d:l):g/\i/\j/\l:=⟨a,b,c,d⟩
def Dv (a:g) (b:i) (c:j) (d:l) (e:m):g/\i/\j/\l/\m:=⟨a,b,c,d,e⟩
def XC (a:g) (b:i) (c:j) (d:l) (e:m) (f:n):g/\i/\j/\l/\m/\n:=⟨a,b,c,d,e,f⟩
end
section
variable {C:Prop} {o:Sort _} {g i j l m:o->Prop}
def bw (h:∃a,g a) (k:∀a,g a->C):C:=h.elim λa h=>k a h
def ah (h:∃a,g a/\i a) (k:∀a,g a->i a->C):C:=h.elim λa h=>k a h.1 h.2
def ax (a:o) (b:g a) (c:i a):∃a,g a/\i a:=⟨a,b,c⟩
def bR (h:∃a,g a/\i a/\j a) (k:∀a,g a->i a->j a->C):C:=h.elim λa h=>k a h.1 h.2.1 h.2.2
def cM (a:o) (b:g a) (c:i a) (d:j a):∃a,g a/\i a/\j a:=⟨a,b,c,d⟩
def fT (h:∃a,g a/\i a/\j a/\l a) (k:∀a,g a->i a->j a->l a->C):C:=h.elim λa h=>k a h.1 h.2.1 h.2.2.1 h.2.2.2
def hM (a:o) (b:g a) (c:i a) (d:j a) (e:l a):∃a,g a/\i a/\j a/\l a:=⟨a,b,c,d,e⟩
def Do (h:∃a,g a/\i a/\j a/\l a/\m a) (k:∀a,g a->i a->j a->l a->m a->C):C:=h.elim λa h=>k a h.1 h.2.1 h.2.2.1 h.2.2.2.1 h.2.2.2.2
def Dw (a:o) (b:g a) (c:i a) (d:j a) (e:l a) (f:m a):∃a,g a/\i a/\j a/\l a/\m a:=⟨a,b,c,d,e,f⟩
end
section
variable {C:Prop} {o p:Sort _} {g i j l m n q:o->p->Prop}
def fq (h:∃a b,g a b) (k:∀a b,g a b->C):C:=h.elim λa h=>h.elim λb h=>k a b h
def dn (a:o) (b:p) (c:g a b):∃a b,g a b:=⟨a,b,c⟩
def bS (h:∃a b,g a b/\i a b) (k:∀a b,g a b->i a b->C):C:=h.elim λa h=>h.elim λb h=>k a b h.1 h.2
def cZ (a:o) (b:p) (c:g a b) (d:i a b):∃a b,g a b/\i a b:=⟨a,b,c,d⟩
def bF (h:∃a b,g a b/\i a b/\j a b) (k:∀a b,g a b->i a b->j a b->C):C:=h.elim λa h=>h.elim λb h=>k a b h.1 h.2.1 h.2.2
def dD (a:o) (b:p) (c:g a b) (d:i a b) (e:j a b):∃a b,g a b/\i a b/\j a b:=⟨a,b,c,d,e⟩
def dx (h:∃a b,g a b/\i a b/\j a b/\l a b) (k:∀a b,g a b->i a b->j a b->l a b->C):C:=h.elim λa h=>h.elim λb h=>k a b h.1 h.2.1 h.2.2.1 h.2.2.2
def fe (a:o) (b:p) (c:g a b) (d:i a b) (e:j a b) (f:l a b):∃a b,g a b/\i a b/\j a b/\l a b:=⟨a,b,c,d,e,f⟩
def gz (h:∃a b,g a b/\i a b/\j a b/\l a b/\m a b) (k:∀a b,g a b->i a b->j a b->l a b->m a b->C):C:=h.elim λa h=>h.elim λb h=>k a b h.1 h.2.1 h.2.2.1 h.2.2.2.1 h.2.2.2.2
def ft (a:o) (b:p) (c:g a b) (d:i a b) (e:j a b) (f:l a b) (h:m a b):∃a b,g a b/\i a b/\j a b/\l a b/\m a b:=⟨a,b,c,d,e,f,h⟩
def XA (h:∃a b,g a b/\i a b/\j a b/\l a b/\m a b/\n a b/\q a b) (k:∀a b,g a b->i a b->j a b->l a b->m a b->n a b->q a b->C):C:=h.elim λa h=>h.elim λb h=>k a b h.1 h.2.1 h.2.2.1 h.2.2.2.1 h.2.2.2.2.1 h.2.2.2.2.2.1 h.2.2.2.2.2.2
def Lr (a:o) (b:p) (c:g a b) (d:i a b) (e:j a b) (f:l a b) (h:m a b) (k:n a b) (z:q a b):∃a b,g a b/\i a b/\j a b/\l a b/\m a b/\n a b/\q a b:=⟨a,b,c,d,e,f,h,k,z⟩
end
section
variable {C:Prop} {o p r:Sort _} {g i j l m n q:o->p->r->Prop}
def oL (h:∃a b c,g a b c) (k:∀a b c,g a b c->C):C:=h.elim λa h=>h.elim λb h=>h.elim λc h=>k a b c h
def tQ (a:o) (b:p) (c:r) (d:g a b c):∃a b c,g a b c:=⟨a,b,c,d⟩
def oM (h:∃a b c,g a b c/\i a b c) (k:∀a b c,g a b c->i a b c->C):C:=h.elim λa h=>h.elim λb h=>h.elim λc h=>k a b c h.1 h.2
def rr (a:o) (b:p) (c:r) (d:g a b c) (e:i a b c):∃a b c,g a b c/\i a b c:=⟨a,b,c,d,e⟩
def eY (h:∃a b c,g a b c/\i a b c/\j a b c) (k:∀a b c,g a b c->i a b c->j a b c->C):C:=h.elim λa h=>h.elim λb h=>h.elim λc h=>k a b c h.1 h.2.1 h.2.2
def iY (a:o) (b:p) (c:r) (d:g a b c) (e:i a b c) (f:j a b c):∃a b c,g a b c/\i a b c/\j a b c:=⟨a,b,c,d,e,f⟩
def Dp (h:∃a b c,g a b c/\i a b c/\j a b c/\l a b c) (k:∀a b c,g a b c->i a b c->j a b c->l a b c->C):C:=h.elim λa h=>h.elim λb h=>h.elim λc h=>k a b c h.1 h.2.1 h.2.2.1 h.2.2.2
def zr (a:o) (b:p) (c:r) (d:g a b c) (e:i a b c) (f:j a b c) (h:l a b c):∃a b c,g a b c/\i a b c/\j a b c/\l a b c:=⟨a,b,c,d,e,f,h⟩
def kE (h:∃a b c,g a b c/\i a b c/\j a b c/\l a b c/\m a b c) (k:∀a b c,g a b c->i a b c->j a b c->l a b c->m a b c->C):C:=h.elim λa h=>h.elim λb h=>h.elim λc h=>k a b c h.1 h.2.1 h.2.2.1 h.2.2.2.1 h.2.2.2.2
def lr (a:o) (b:p) (c:r) (d:g a b c) (e:i a b c) (f:j a b c) (h:l a b c) (k:m a b c):∃a b c,g a b c/\i a b c/\j a b c/\l a b c/\m a b c:=⟨a,b,c,d,e,f,h,k⟩
def nV (h:∃a b c,g a b c/\i a b c/\j a b c/\l a b c/\m a b c/\n a b c) (k:∀a b c,g a b c->i a b c->j a b c->l a b c->m a b c->n a b c->C):C:=h.elim λa h=>h.elim λb h=>h.elim λc h=>k a b c h.1 h.2.1 h.2.2.1 h.2.2.2.1 h.2.2.2.2.1 h.2.2.2.2.2
def ls (a:o) (b:p) (c:r) (d:g a b c) (e:i a b c) (f:j a b c) (h:l a b c) (k:m a b c) (z:n a b c):∃a b c,g a b c/\i a b c/\j a b c/\l a b c/\m a b c/\n a b c:=⟨a,b,c,d,e,f,h,k,z⟩
def ro (h:∃a b c,g a b c/\i a b c/\j a b c/\l a b c/\m a b c/\n a b c/\q a b c) (k:∀a b c,g a b c->i a b c->j a b c->l a b c->m a b c->n a b c->q a b c->C):C:=h.elim λa h=>h.elim λb h=>h.elim λc h=>k a b c h.1 h.2.1 h.2.2.1 h.2.2.2.1 h.2.2.2.2.1 h.2.2.2.2.2.1 h.2.2.2.2.2.2
def wr (a:o) (b:p) (c:r) (d:g a b c) (e:i a b c) (f:j a b c) (h:l a b c) (k:m a b c) (z:n a b c) (A:q a b c):∃a b c,g a b c/\i a b c/\j a b c/\l a b c/\m a b c/\n a b c/\q a b c:=⟨a,b,c,d,e,f,h,k,z,A⟩
end
section
variable {C:Prop} {o p r s:Sort _} {g i j l m n q:o->p->r->s->Prop}
def Lg (h:∃a b c d,g a b c d) (k:∀a b c d,g a b c d->C):C:=h.elim λa h=>h.elim λb h=>h.elim λc h=>h.elim λd h=>k a b c d h
def XD (a:o) (b:p) (c:r) (d:s) (e:g a b c d):∃a b c d,g a b c d:=⟨a,b,c,d,e⟩
def zn (h:∃a b c d,g a b c d/\i a b c d/\j a b c d) (k:∀a b c d,g a b c d->i a b c d->j a b c d->C):C:=h.elim λa h=>h.elim λb h=>h.elim λc h=>h.elim λd h=>k a b c d h.1 h.2.1 h.2.2
def tR (a:o) (b:p) (c:r) (d:s) (e:g a b c d) (f:i a b c d) (h:j a b c d):∃a b c d,g a b c d/\i a b c d/\j a b c d:=⟨a,b,c,d,e,f,h⟩
def Lh (h:∃a b c d,g a b c d/\i a b c d/\j a b c d/\l a b c d) (k:∀a b c d,g a b c d->i a b c d->j a b c d->l a b c d->C):C:=h.elim λa h=>h.elim λb h=>h.elim λc h=>h.elim λd h=>k a b c d h.1 h.2.1 h.2.2.1 h.2.2.2
def Dx (a:o) (b:p) (c:r) (d:s) (e:g a b c d) (f:i a b c d) (h:j a b c d) (k:l a b c d):∃a b c d,g a b c d/\i a b c d/\j a b c d/\l a b c d:=⟨a,b,c,d,e,f,h,k⟩
def ju (h:∃a b c d,g a b c d/\i a b c d/\j a b c d/\l a b c d/\m a b c d) (k:∀a b c d,g a b c d->i a b c d->j a b c d->l a b c d->m a b c d->C):C:=h.elim λa h=>h.elim λb h=>h.elim λc h=>h.elim λd h=>k a b c d h.1 h.2.1 h.2.2.1 h.2.2.2.1 h.2.2.2.2
def j_ (a:o) (b:p) (c:r) (d:s) (e:g a b c d) (f:i a b c d) (h:j a b c d) (k:l a b c d) (z:m a b c d):∃a b c d,g a b c d/\i a b c d/\j a b c d/\l a b c d/\m a b c d:=⟨a,b,c,d,e,f,h,k,z⟩
def oN (h:∃a b c d,g a b c d/\i a b c d/\j a b c d/\l a b c d/\m a b c d/\n a b c d) (k:∀a b c d,g a b c d->i a b c d->j a b c d->l a b c d->m a b c d->n a b c d->C):C:=h.elim λa h=>h.elim λb h=>h.elim λc h=>h.elim λd h=>k a b c d h.1 h.2.1 h.2.2.1 h.2.2.2.1 h.2.2.2.2.1 h.2.2.2.2.2
def nd (a:o) (b:p) (c:r) (d:s) (e:g a b c d) (f:i a b c d) (h:j a b c d) (k:l a b c d) (z:m a b c d) (A:n a b c d):∃a b c d,g a b c d/\i a b c d/\j a b c d/\l a b c d/\m a b c d/\n a b c d:=⟨a,b,c,d,e,f,h,k,z,A⟩
def Dq (h:∃a b c d,g a b c d/\i a b c d/\j a b c d/\l a b c d/\m a b c d/\n a b c d/\q a b c d) (k:∀a b c d,g a b c d->i a b c d->j a b c d->l a b c d->m a b c d->n a b c d->q a b c d->C):C:=h.elim λa h=>h.elim λb h=>h.elim λc h=>h.elim λd h=>k a b c d h.1 h.2.1 h.2.2.1 h.2.2.2.1 h.2.2.2.2.1 h.2.2.2.2.2.1 h.2.2.2.2.2.2
def Dy (a:o) (b:p) (c:r) (d:s) (e:g a b c d) (f:i a b c d) (h:j a b c d) (k:l a b c d) (z:m a b c d) (A:n a b c d) (B:q a b c d):∃a b c d,g a b c d/\i a b c d/\j a b c d/\l a b c d/\m a b c d/\n a b c d/\q a b c d:=⟨a,b,c,d,e,f,h,k,z,A,B⟩
end
section
variable {C:Prop} {o p r s v:Sort _} {g i j l m n q t u w:o->p->r->s->v->Prop}
def Li (h:∃a b c d e,g a b c d e/\i a b c d e/\j a b c d e/\l a b c d e) (k:∀a b c d e,g a b c d e->i a b c d e->j a b c d e->l a b c d e->C):C:=h.elim λa h=>h.elim λb h=>h.elim λc h=>h.elim λd h=>h.elim λe h=>k a b c d e h.1 h.2.1 h.2.2.1 h.2.2.2
def DA (a:o) (b:p) (c:r) (d:s) (e:v) (f:g a b c d e) (h:i a b c d e) (k:j a b c d e) (z:l a b c d e):∃a b c d e,g a b c d e/\i a b c d e/\j a b c d e/\l a b c d e:=⟨a,b,c,d,e,f,h,k,z⟩
def Lj (h:∃a b c d e,g a b c d e/\i a b c d e/\j a b c d e/\l a b c d e/\m a b c d e) (k:∀a b c d e,g a b c d e->i a b c d e->j a b c d e->l a b c d e->m a b c d e->C):C:=h.elim λa h=>h.elim λb h=>h.elim λc h=>h.elim λd h=>h.elim λe h=>k a b c d e h.1 h.2.1 h.2.2.1 h.2.2.2.1 h.2.2.2.2
def Ls (a:o) (b:p) (c:r) (d:s) (e:v) (f:g a b c d e) (h:i a b c d e) (k:j a b c d e) (z:l a b c d e) (A:m a b c d e):∃a b c d e,g a b c d e/\i a b c d e/\j a b c d e/\l a b c d e/\m a b c d e:=⟨a,b,c,d,e,f,h,k,z,A⟩
def Lk (h:∃a b c d e,g a b c d e/\i a b c d e/\j a b c d e/\l a b c d e/\m a b c d e/\n a b c d e/\q a b c d e/\t a b c d e) (k:∀a b c d e,g a b c d e->i a b c d e->j a b c d e->l a b c d e->m a b c d e->n a b c d e->q a b c d e->t a b c d e->C):C:=h.elim λa h=>h.elim λb h=>h.elim λc h=>h.elim λd h=>h.elim λe h=>k a b c d e h.1 h.2.1 h.2.2.1 h.2.2.2.1 h.2.2.2.2.1 h.2.2.2.2.2.1 h.2.2.2.2.2.2.1 h.2.2.2.2.2.2.2
def DB (a:o) (b:p) (c:r) (d:s) (e:v) (f:g a b c d e) (h:i a b c d e) (k:j a b c d e) (z:l a b c d e) (A:m a b c d e) (B:n a b c d e) (C:q a b c d e) (D:t a b c d e):∃a b c d e,g a b c d e/\i a b c d e/\j a b c d e/\l a b c d e/\m a b c d e/\n a b c d e/\q a b c d e/\t a b c d e:=⟨a,b,c,d,e,f,h,k,z,A,B,C,D⟩
def Ll (h:∃a b c d e,g a b c d e/\i a b c d e/\j a b c d e/\l a b c d e/\m a b c d e/\n a b c d e/\q a b c d e/\t a b c d e/\u a b c d e) (k:∀a b c d e,g a b c d e->i a b c d e->j a b c d e->l a b c d e->m a b c d e->n a b c d e->q a b c d e->t a b c d e->u a b c d e->C):C:=h.elim λa h=>h.elim λb h=>h.elim λc h=>h.elim λd h=>h.elim λe h=>k a b c d e h.1 h.2.1 h.2.2.1 h.2.2.2.1 h.2.2.2.2.1 h.2.2.2.2.2.1 h.2.2.2.2.2.2.1 h.2.2.2.2.2.2.2.1 h.2.2.2.2.2.2.2.2
def DC (a:o) (b:p) (c:r) (d:s) (e:v) (f:g a b c d e) (h:i a b c d e) (k:j a b c d e) (z:l a b c d e) (A:m a b c d e) (B:n a b c d e) (C:q a b c d e) (D:t a b c d e) (E:u a b c d e):∃a b c d e,g a b c d e/\i a b c d e/\j a b c d e/\l a b c d e/\m a b c d e/\n a b c d e/\q a b c d e/\t a b c d e/\u a b c d e:=⟨a,b,c,d,e,f,h,k,z,A,B,C,D,E⟩
def Dr (h:∃a b c d e,g a b c d e/\i a b c d e/\j a b c d e/\l a b c d e/\m a b c d e/\n a b c d e/\q a b c d e/\t a b c d e/\u a b c d e/\w a b c d e) (k:∀a b c d e,g a b c d e->i a b c d e->j a b c d e->l a b c d e->m a b c d e->n a b c d e->q a b c d e->t a b c d e->u a b c d e->w a b c d e->C):C:=h.elim λa h=>h.elim λb h=>h.elim λc h=>h.elim λd h=>h.elim λe h=>k a b c d e h.1 h.2.1 h.2.2.1 h.2.2.2.1 h.2.2.2.2.1 h.2.2.2.2.2.1 h.2.2.2.2.2.2.1 h.2.2.2.2.2.2.2.1 h.2.2.2.2.2.2.2.2.1 h.2.2.2.2.2.2.2.2.2
def Dz (a:o) (b:p) (c:r) (d:s) (e:v) (f:g a b c d e) (h:i a b c d e) (k:j a b c d e) (z:l a b c d e) (A:m a b c d e) (B:n a b c d e) (C:q a b c d e) (D:t a b c d e) (E:u a b c d e) (F:w a b c d e):∃a b c d e,g a b c d e/\i a b c d e/\j a b c d e/\l a b c d e/\m a b c d e/\n a b c d e/\q a b c d e/\t a b c d e/\u a b c d e/\w a b c d e:=⟨a,b,c,d,e,f,h,k,z,A,B,C,D,E,F⟩
end
section
variable {C:Prop} {o p r s v y:Sort _} {g i j l m n q t u w x:o->p->r->s->v->y->Prop}
def XB (h:∃a b c d e f,g a b c d e f) (k:∀a b c d e f,g a b c d e f->C):C:=h.elim λa h=>h.elim λb h=>h.elim λc h=>h.elim λd h=>h.elim λe h=>h.elim λf h=>k a b c d e f h
def XE (a:o) (b:p) (c:r) (d:s) (e:v) (f:y) (h:g a b c d e f):∃a b c d e f,g a b c d e f:=⟨a,b,c,d,e,f,h⟩
def Lm (h:∃a b c d e f,g a b c d e f/\i a b c d e f/\j a b c d e f/\l a b c d e f/\m a b c d e f/\n a b c d e f/\q a b c d e f) (k:∀a b c d e f,g a b c d e f->i a b c d e f->j a b c d e f->l a b c d e f->m a b c d e f->n a b c d e f->q a b c d e f->C):C:=h.elim λa h=>h.elim λb h=>h.elim λc h=>h.elim λd h=>h.elim λe h=>h.elim λf h=>k a b c d e f h.1 h.2.1 h.2.2.1 h.2.2.2.1 h.2.2.2.2.1 h.2.2.2.2.2.1 h.2.2.2.2.2.2
def Lt (a:o) (b:p) (c:r) (d:s) (e:v) (f:y) (h:g a b c d e f) (k:i a b c d e f) (z:j a b c d e f) (A:l a b c d e f) (B:m a b c d e f) (C:n a b c d e f) (D:q a b c d e f):∃a b c d e f,g a b c d e f/\i a b c d e f/\j a b c d e f/\l a b c d e f/\m a b c d e f/\n a b c d e f/\q a b c d e f:=⟨a,b,c,d,e,f,h,k,z,A,B,C,D⟩
def tO (h:∃a b c d e f,g a b c d e f/\i a b c d e f/\j a b c d e f/\l a b c d e f/\m a b c d e f/\n a b c d e f/\q a b c d e f/\t a b c d e f/\u a b c d e f/\w a b c d e f/\x a b c d e f) (k:∀a b c d e f,g a b c d e f->i a b c d e f->j a b c d e f->l a b c d e f->m a b c d e f->n a b c d e f->q a b c d e f->t a b c d e f->u a b c d e f->w a b c d e f->x a b c d e f->C):C:=h.elim λa h=>h.elim λb h=>h.elim λc h=>h.elim λd h=>h.elim λe h=>h.elim λf h=>k a b c d e f h.1 h.2.1 h.2.2.1 h.2.2.2.1 h.2.2.2.2.1 h.2.2.2.2.2.1 h.2.2.2.2.2.2.1 h.2.2.2.2.2.2.2.1 h.2.2.2.2.2.2.2.2.1 h.2.2.2.2.2.2.2.2.2.1 h.2.2.2.2.2.2.2.2.2.2
def zs (a:o) (b:p) (c:r) (d:s) (e:v) (f:y) (k:g a b c d e f) (z:i a b c d e f) (A:j a b c d e f) (B:l a b c d e f) (C:m a b c d e f) (D:n a b c d e f) (E:q a b c d e f) (F:t a b c d e f) (H:u a b c d e f) (I:w a b c d e f) (h:x a b c d e f):∃a b c d e f,g a b c d e f/\i a b c d e f/\j a b c d e f/\l a b c d e f/\m a b c d e f/\n a b c d e f/\q a b c d e f/\t a b c d e f/\u a b c d e f/\w a b c d e f/\x a b c d e f:=⟨a,b,c,d,e,f,k,z,A,B,C,D,E,F,H,I,h⟩
end
end
section
def cps {P:Prop} (h:∀C:Prop,(P->C)->C):P:=h P id
theorem al{α:Sort u}{β:Sort v}{a b:α}(f:α->β)(h:a=b):f a=f b:=congrArg f h
theorem aK{c:Prop}{h:Decidable c}(k:c){α:Sort u}{t e:α}:ite c t e=t:=if_pos k
theorem aX{c:Prop}{h:Decidable c}(k:¬c){α:Sort u}{t e:α}:ite c t e=e:=if_neg k
theorem bt{a b:Prop}(h:a)(k:¬a):b:=(k h).elim
section
variable {w L Q:Type} {a:w} {e:L} {s t:Q} {C:Prop}
def aq (h:Y=J a):C:=by cases h
def G5 (h:u<2):u=0\/u=1:=(KC.mp h).imp Nat.lt_one_iff.mp id
def G6 (h:u<3):u=0\/u=1\/u=2:=(KC.mp h).elim (λh=>(G5 h).imp id .inl) λh=>.inr<|.inr h
def Gk (j n:Nat):min j n+(n-j+1)=n+1:=(Nat.le_total j n).elim (λh=>by rw[CL h, <-iC,CH h]) λh=>by rw[Nat.min_eq_right h,CN h]
def XF {i:Int} (e:(n:Int)=N) (h: -N<i) (k:i<N):i.natAbs<n:=by omega
def lN (h:J a=Y):C:=by cases h
def hv (h:ac=aa):C:=by cases h
def cW (h:aa=ac):C:=by cases h
def eG {l:List w} (h:a∈([]:List w)):C:=by cases h
def sI {l:List w} (h:[]=a::l):C:=by cases h
end
section
variable {w H:Type} {o:Option w} {C:Prop}
def el {f:w->Option H} {b:H} (h:o.bind f=J b) (k:∀a,o=J a->f a=J b->C):C:=by
 cases o with
 |none=>exact aq h|some a=>exact k a rfl h
@[elab_as_elim] def hu {f:w->H} {b:H} {D:H->Prop} (h:o.map f=J b) (k:∀a,o=J a->D (f a)):D b:=by
 cases o with
 |none=>exact aq h|some a=>exact aH h▸k a rfl
def eC [d:Decidable c] {a:w} (h:(if c then x else Y)=J a) (k:c->x=J a->C):C:=by
 cases d with
 |isTrue p=>exact k p h|isFalse p=>exact aq h
def HR {o:Option Bool} {x:Bool->Option H} {b:H} (h:(match o with|some a=>x a|none=>Y)=J b) (k:∀a,o=J a->x a=J b->C):C:=by
 cases o with
 |none=>exact aq h|some a=>exact k a rfl h
@[elab_as_elim] def jP {a b:w} {D:w->Prop} (h:J a=J b) (k:D a):D b:=aH h▸k
def pd {a:w} (h:(if b=ac then Y else x)=J a) (k:b=aa->x=J a->C):C:=by
 cases b with
 |true=>exact aq h|false=>exact k rfl h
def Qe [d:Decidable c] {a:w} (h:(if c then Y else J Y)=J (J a)):C:=by
 cases d with
 |isTrue p=>exact aq h|isFalse p=>exact aq<|aH h
def DX {a:Bool} (h:(a&&b)=ac) (k:a=ac->b=ac->C):C:=by
 cases a with
 |true=>exact k rfl h|false=>exact cW h
def dh {a:Bool} (h:(a&&b)=ac):a=ac:=DX h λx _=>x
def ed {a:Bool} (h:(a&&b)=ac):b=ac:=DX h λ_ x=>x
def mG [Decidable p] (h:bj p=ac):p:=of_decide_eq_true h
end
@[elab_as_elim] theorem U {w:Sort _} {a b:w} {c:w->Prop} (h:a=b) (e:c b):c a:=h▸e
@[elab_as_elim] def am {w:Sort _} {a b:w} {c:w->Prop} (h:b=a) (e:c b):c a:=h▸e
def aZ (p:Prop) {q:Prop} (h:p->q) (a:¬p->q):q:=(XR p).elim h a
def dC {w:Sort _} {P:w->Prop} {a b:w} (h:a=b) (p:P b):P a:=h▸p
class inductive ij where
 |v (i:Nat)|k (c:Nat)|a (x y:ij)|m (c:Nat) (x:ij)|r (x:ij) (c:Nat)
noncomputable def Z:ij:=.v 0
noncomputable def G:ij:=.v 1
noncomputable def v2:ij:=.v 2
noncomputable def v3:ij:=.v 3
noncomputable def v4:ij:=.v 4
noncomputable def v5:ij:=.v 5
noncomputable def u0:ij:=.k 0
noncomputable def W:ij:=.k 1
noncomputable def u2:ij:=.k 2
noncomputable def u3:ij:=.k 3
noncomputable def u7:ij:=.k 7
noncomputable def u8:ij:=.k 8
class inductive hf where
 |v (i:Nat)|k (c:Int)|e (x:ij)|a (x y:hf)|s (x y:hf)|n (x:hf)|m (c:Int) (x:hf)|r (x:hf) (c:Int)
class inductive jw where
 |n (c:Nat) (x y:ij)|z (c:Nat) (x y:hf)
noncomputable def ij.d (l:List Nat):ij->Nat|.v i=>l.getD i 0|.k c=>c|.a x y=>x.d l+y.d l|.m c x=>c*x.d l|.r x c=>x.d l*c
def hf.d (l:List Nat) (g:List Int):hf->Int|.v i=>g.getD i 0|.k c=>c|.e x=>(x.d l:Nat)|.a x y=>x.d l g+y.d l g|.s x y=>x.d l g-y.d l g|.n x=> -x.d l g|.m c x=>c*x.d l g|.r x c=>x.d l g*c
noncomputable def rI:List Int->List Int->List Int|[],q=>q|a::p,[]=>a::p|a::p,b::q=>(a+b)::rI p q
noncomputable def iN:List Int->List Int->Int|[],_=>0|_::_,[]=>0|a::p,x::l=>a*x+iN p l
noncomputable def tg:Nat->List Int|0=>[1]|i+1=>0::tg i
structure ei where
 k:Int
 p:List Int
 q:List Int
def ei.add (a b:ei):ei:=⟨a.k+b.k,rI a.p b.p,rI a.q b.q⟩
noncomputable def ei.mul (c:Int) (a:ei):ei:=⟨c*a.k,a.p.map (c*·),a.q.map (c*·)⟩
def ij.p:ij->ei|.v i=>⟨0,tg i,[]⟩|.k c=>⟨c,[],[]⟩|.a x y=>x.p.add y.p|.m c x=>x.p.mul c|.r x c=>x.p.mul c
def hf.p:hf->ei|.v i=>⟨0,[],tg i⟩|.k c=>⟨c,[],[]⟩|.e x=>x.p|.a x y=>x.p.add y.p|.s x y=>x.p.add<|y.p.mul<|-1|.n x=>x.p.mul<|-1|.m c x=>x.p.mul c|.r x c=>x.p.mul c
def jw.p:jw->ei|.n c x y=>(x.p.add<|y.p.mul<|-1).mul c|.z c x y=>(x.p.add<|y.p.mul<|-1).mul c
def jw.all:List jw->ei|[]=>⟨0,[],[]⟩|h::t=>h.p.add<|jw.all t
noncomputable def ei.ok (a:ei):Bool:=bj (0<a.k)&&(a.p.all (λc=>bj<|0<=c)&&a.q.all (λc=>bj<|c=0))
def jw.di (l:List Nat) (g:List Int):List jw->Prop|[]=>False|.n _ x y::t=>x.d l<=y.d l->jw.di l g t|.z _ x y::t=>x.d l g<=y.d l g->jw.di l g t
section
variable {l:List Nat} {g:List Int}
def zF (a b c d:Int):(a+b)+(c+d)=(a+c)+(b+d):=(Cp ..).trans ((congrArg (a+·)<|Int.add_left_comm ..).trans (Cp ..).symm)
theorem Aa:∀p q l:List Int,iN (rI p q) l=iN p l+iN q l|[],_,_=>(tq _).symm|_::_,[],_=>(vJ _).symm|_::_,_::_,[]=>rfl|a::p,b::q,x::l=>(congr (congrArg yF<|Int.add_mul a b x)<|Aa p q l).trans<|zF ..
theorem Ab (c:Int):∀p l:List Int,iN (p.map (c*·)) l=c*iN p l|[],_=>(Vm c).symm|_::_,[]=>(Vm c).symm|a::p,x::l=>(congr (congrArg yF<|Int.mul_assoc c a x)<|Ab c p l).trans (Ct c (a*x) _).symm
def E1 (i:Nat) (l:List Int):iN (tg i) l=l.getD i 0:=by
 induction i generalizing l with
 |zero=>cases l with|nil=>rfl|cons x l=>exact(vJ _).trans<|Vs x
 |succ i a=>cases l with|nil=>rfl|cons x l=>exact(congrArg (· +_)<|Vv x).trans<|(tq _).trans<|a l
def ei.d (l:List Nat) (g:List Int) (a:ei):Int:=a.k+(iN a.p (l.map ox)+iN a.q g)
def ei.ih (a b:ei):(a.add b).d l g=a.d l g+b.d l g:=by show(a.k+b.k)+(iN (rI a.p b.p) _+iN (rI a.q b.q) _)=(a.k+(_+_))+(b.k+(_+_));exact(congrArg (a.k+b.k+·)<|(congr (congrArg yF<|Aa ..)<|Aa ..).trans<|zF ..).trans<|zF ..
def ei.f5 (c:Int) (a:ei):(a.mul c).d l g=c*a.d l g:=by show c*a.k+(iN (a.p.map _) _+iN (a.q.map _) _)=c*(a.k+(_+_));exact(congrArg (c*a.k+·)<|(congr (congrArg yF<|Ab ..)<|Ab ..).trans (Ct ..).symm).trans (Ct ..).symm
def ei.j3 (a b:ei):(a.add<|b.mul<|-1).d l g=a.d l g-b.d l g:=(ei.ih ..).trans (congrArg (a.d l g+·)<|(ei.f5 ..).trans<|Vq _)
theorem ij.d8:∀x:ij,x.p.d l g=(x.d l:Nat)
 |.v i=>by show 0+(iN (tg i) (l.map ox)+0)=_;rw[tq,vJ,E1];show _=((l.getD i 0:Nat):Int);rw[iB,lg,iB];cases l[i]?<;>rfl
 |.k c=>vJ _|.a x y=>(ei.ih _ _).trans (by rw[ij.d8 x,ij.d8 y];rfl)|.m c x=>(ei.f5 _ _).trans (by rw[ij.d8 x];rfl)|.r x c=>(ei.f5 _ _).trans<|by rw[ij.d8 x,Vk];rfl
theorem hf.d8:∀x:hf,x.p.d l g=x.d l g
 |.v i=>by show 0+(0+iN (tg i) g)=_;rw[tq,tq,E1];rfl
 |.k c=>vJ _|.e x=>ij.d8 x|.a x y=>(ei.ih _ _).trans (by rw[hf.d8 x,hf.d8 y];rfl)|.s x y=>(ei.j3 _ _).trans (by rw[hf.d8 x,hf.d8 y];rfl)|.n x=>(ei.f5 _ _).trans (by rw[hf.d8 x];exact Vq _)|.m c x=>(ei.f5 _ _).trans (by rw[hf.d8 x];rfl)|.r x c=>(ei.f5 _ _).trans<|by rw[hf.d8 x,Vk];rfl
theorem E0:∀(p:List Int) (l:List Nat),p.all (λc=>bj<|0<=c)=ac->0<=iN p (l.map ox)|[],_,_=>J5 _|_::_,[],_=>J5 _|a::p,x::l,h=>Vj (Int.mul_nonneg (of_decide_eq_true (nI.mp h).1)<|lf x)<|E0 p l (nI.mp h).2
theorem E2:∀(p l:List Int),p.all (λc=>bj<|c=0)=ac->iN p l=0|[],_,_=>rfl|_::_,[],_=>rfl|a::p,x::l,h=>(congr (congrArg yF ((congrArg (· *x) (of_decide_eq_true (nI.mp h).1:a=0)).trans<|Vv x))<|E2 p l (nI.mp h).2).trans rfl
def GO {a b:ei} {C:Prop} (e:z<=0) (c:a.d l g=z) (h:v<=0) (f:0<(a.add b).d l g+v) (k:∀v,v<=0->0<b.d l g+v->C):C:=k (v+z) (Int.add_nonpos h e) (vL f (gL ((congrArg (· +v) ((ei.ih ..).trans ((congrArg (· +_) c).trans<|yG z _))).trans ((Cp ..).trans (congrArg (_+·)<|yG z v)))))
theorem A8:∀(b:List jw) (v:Int),v<=0->0<(jw.all b).d l g+v->jw.di l g b|[],v,h,a=>pI _<|vL a<|(tq v).symm▸h|.n c x y::t,v,h,a=>λe=>GO (Vl (lf c)<|Vt<|jV.mpr e) ((ei.f5 ..).trans<|congrArg _<|(ei.j3 ..).trans<|congr (congrArg Vh<|ij.d8 x)<|ij.d8 y) h a<|A8 t|.z c x y::t,v,h,a=>λe=>GO (Vl (lf c)<|Vt e) ((ei.f5 ..).trans<|congrArg _<|(ei.j3 ..).trans<|congr (congrArg Vh<|hf.d8 x)<|hf.d8 y) h a<|A8 t
def aj (l:List Nat) (g:List Int) (a:List jw) (h:(jw.all a).ok=ac):jw.di l g a:=
 have b:=nI.mp h;have c:=nI.mp b.2
 A8 a 0 (J5 _)<|vL (of_decide_eq_true b.1)<|U (vJ _)<|Int.le_add_of_nonneg_right<|Vj (E0 _ l c.1)<|gL (E2 _ g c.2).symm
end
end
section
set_option genInjectivity false
open PySem
set_option genCtorIdx true in
class inductive V where
 |a6|ad (b:Bool)|I (i:Int)|Z (s:List Nat)|av (l:List V)|ref (n:Nat)|aA (k:Nat)|c2 (k:Nat)|df (l:List Int)
 deriving Inhabited
set_option genCtorIdx true in
class inductive mo where
 |bb|isStr|hS|e6|X|set|sum|f8
 deriving DecidableEq
class inductive a_ where
 |W (v:V)|loc (i:Nat)|attr (o:a_) (a:Nat)|ao (o i:a_)|f1 (o a:a_)|f9 (o a:a_)|f2 (o:a_)|g0 (o:a_)|av (es:List a_)|X (es:List a_)|fZ|au (op:vX) (a b:a_)|dM (a b:a_)|or (a b:a_)|gd (a:a_)|gq (a:a_)|cH (op:nP) (a b:a_)|aQ (c a b:a_)|bi (f:a_) (es:List a_)|bZ (b:mo) (es:List a_)|aS (o:a_) (m:Nat) (es:List a_)|fh (elt:a_) (xs:List Nat) (kind:Nat) (src:List a_) (cond:List a_)
class inductive cA where
 |aN (x:Nat) (e:a_)|jO (o:a_) (a:Nat) (e:a_)|eu (o i e:a_)|jS (xs:List Nat) (e:a_)|ik (x:Nat) (op:nP) (e:a_)|aQ (c:a_) (a b:List cA)|while (c:a_) (b:List cA)|for (x:Nat) (kind:Nat) (src:List a_) (b:List cA)|aO (e:a_)|hW (e:a_)|try (b:List cA) (x:Nat) (h:List cA)
 |cu (e:a_)|jM|gm|g9 (o a:a_)
structure dR where
 loc:aG->Option Nat
 gl:aG->Bool
 glob:aG->Option V
 attr:aG->Option Nat
 jK:aG->Option Nat
 exc:aG->Bool
 xO:eA->Bool
 of:aG->Bool
noncomputable def ip:List (aG×fC)->Nat->aG->Option (Nat×fC)|[],_,_=>Y|(y,k)::r,n,x=>if y==x then J (n,k)else ip r (n+1) x
noncomputable def xl:fC->Bool|.local|.cell|.free=>ac|_=>aa
def sz (a:eA) (x:aG):Option Nat:=match ip a.names 0 x with|some (n,k)=>if xl k&&bj (n<100)then J n else Y|none=>Y
def AR (a:eA) (x:aG):Bool:=match ip a.names 0 x with|some (_,.globalImplicit)=>ac|_=>aa
def gp (c:dR) (a:eA):dR:={c with
 loc:=λx=>match ip a.names 100 x with|some (n,.local)=>J n|some (_,.free)=>c.loc x|_=>Y
 gl:=AR a
 xO:=λ_=>aa
 of:=λ_=>aa}
noncomputable def qD:List (aG×fC)->Bool|[]=>ac|(x,_)::r=> !(r.any λy=>y.1==x)&&qD r
def IJ (o a:eA):Bool:=(match a.kind with
 |.function=>ac|_=>aa)&&qD a.names&&a.names.all λy=>y.2 != .cell&&(y.2 != .free||o.names.lookup y.1==J .cell||o.names.lookup y.1==J .free)&&y.1 !=("__debug__":aG)&&y.1 !=("__classdict__":aG)
noncomputable def nH {a:Type}:List (String×a)->aG->Option a|[],_=>Y|(y,v)::r,x=>if eo y==x then J v else nH r x
noncomputable def My:List<|String×mo:=[("len",.bb),("tuple",.e6),("list",.X),("set",.set),("sum",.sum),("ord",.f8)]
def zP:aG->Option mo:=nH My
noncomputable def nq (f:a_->a_->a_):List a_->Option a_|[]=>Y|[a]=>J a|a::r=>(nq f r).map<|f a
noncomputable def pf (e:bn):Bool:=hb e.ctorIdx 23||hb e.ctorIdx 20
noncomputable def Gr (e:bn):Bool:=hb e.ctorIdx 23
noncomputable def xn (e:bn):Bool:=hb e.ctorIdx 25
noncomputable def AZ (e:bn):Bool:=ma 8 e.ctorIdx&&ma e.ctorIdx 10
noncomputable def so (e:bn):Bool:=hb e.ctorIdx 26
noncomputable def zY (c:dR):bn->Option (List Nat)|.Name x _=>(c.loc x).map λi=>[i]|.Tuple [.Name x _,.Name y _] _ _=>(c.loc x).bind λi=>(c.loc y).map λj=>[i,j]|_=>Y
noncomputable def zW:Const->Option V|.none=>J .a6|.bool b=>J<|.ad b|.int i=>J<|.I i|.str s=>J<|.Z s.cps.toList|_=>Y
noncomputable def lL (c:dR) (f:aG) (s:String):Bool:=c.gl f&&f==eo s
structure zl where
 xe:a_
 xs:List Nat
 k:Nat
 ol:List a_
 oX:List a_
structure DE where
 E:dR->bn->a_->Prop
 L:dR->List bn->List a_->Prop
 R:dR->bn->Nat->List a_->Prop
 M:dR->bn->bn->bn->List bn->eA->zl->Prop
structure tL (D:DE):Prop where
 EK {c k kk p v}:zW k=J v->D.E c (.Constant k kk p) (.W v)
 loc {c x p i}:c.loc x=J i->D.E c (.Name x p) (.loc i)
 glob {c x p v}:c.gl x=ac->c.glob x=J v->D.E c (.Name x p) (.W v)
 attr {c o a p i n}:pf o=ac->c.attr a=J n->D.E c o i->D.E c (.Attribute o a p) (.attr i n)
 ao {c o x p i j}:so x=aa->D.E c o i->D.E c x j->D.E c (.Subscript o x p) (.ao i j)
 ID {c o a p q i j}:D.E c o i->D.E c a j->D.E c (.Subscript o (.Slice (J a) Y Y q) p) (.f1 i j)
 IF {c o a p q i j}:D.E c o i->D.E c a j->D.E c (.Subscript o (.Slice Y (J a) Y q) p) (.f9 i j)
 IC {c o p q i}:D.E c o i->D.E c (.Subscript o (.Slice Y Y Y q) p) (.f2 i)
 IE {c o p q k p1 p2 i}:D.E c o i->D.E c (.Subscript o (.Slice Y Y (J<|.UnaryOp .USub (.Constant (.int 1) k p1) p2) q) p) (.g0 i)
 av {c es k p is}:ma es.length 1000=ac->D.L c es is->D.E c (.Tuple es k p) (.av is)
 X {c es p is}:D.L c es is->D.E c (.List es p) (.X is)
 fZ {c p}:D.E c (.Dict [] [] p) .fZ
 au {c l op r p i j}:D.E c l i->D.E c r j->D.E c (.Compare l [op] [r] p) (.au op i j)
 dM {c vs p is i}:D.L c vs is->nq .dM is=J i->D.E c (.BoolOp .And vs p) i
 or {c vs p is i}:D.L c vs is->nq .or is=J i->D.E c (.BoolOp .Or vs p) i
 gd {c e p i}:D.E c e i->D.E c (.UnaryOp .Not e p) (.gd i)
 gq {c e p i}:D.E c e i->D.E c (.UnaryOp .USub e p) (.gq i)
 cH {c l op r p i j}:D.E c l i->D.E c r j->D.E c (.BinOp l op r p) (.cH op i j)
 aQ {c t a b p i j k}:D.E c t i->D.E c a j->D.E c b k->D.E c (.IfExp t a b p) (.aQ i j k)
 bi {c f fp as p g is}:D.E c (.Name f fp) g->D.L c as is->D.E c (.Call (.Name f fp) as [] p) (.bi g is)
 isStr {c f fp a t tp p j}:lL c f "isinstance"=ac->lL c t "str"=ac->D.E c a j->D.E c (.Call (.Name f fp) [a,.Name t tp] [] p) (.bZ .isStr [j])
 hS {c f fp a t tp p j}:lL c f "isinstance"=ac->lL c t "bool"=ac->D.E c a j->D.E c (.Call (.Name f fp) [a,.Name t tp] [] p) (.bZ .hS [j])
 bZ {c f fp as p b is}:c.gl f=ac->zP f=J b->D.L c as is->D.E c (.Call (.Name f fp) as [] p) (.bZ b is)
 aS {c o m ap as p i k is}:(ap.endLine==p.line)=ac->yJ as.length 20=ac->pf o=ac->c.jK m=J k->D.E c o i->D.L c as is->D.E c (.Call (.Attribute o m ap) as [] p) (.aS i k is)
 fh {c elt t it ifs sc p q}:D.M c elt t it ifs sc q->D.E c (.ListComp elt [⟨t,it,ifs,0⟩] sc p) (.fh q.xe q.xs q.k q.ol q.oX)
 b_ {c}:D.L c [] []
 cons {c e l i m}:D.E c e i->D.L c l m->D.L c (e::l) (i::m)
 lX {c e i}:D.E c e i->D.R c e 0 [i]
 Ip {c f fp as p is}:lL c f "range"=ac->D.L c as is->D.R c (.Call (.Name f fp) as [] p) 1 is
 fi {c f fp as p is}:lL c f "enumerate"=ac->D.L c as is->D.R c (.Call (.Name f fp) as [] p) 2 is
 EI {c elt t it ifs sc q}:c.xO sc=ac->zY (gp c sc) t=J q.xs->(q.xs.all λx=>bj<|100<=x)=ac->(if q.k==2 then q.xs.length==2 else q.xs.length==1)=ac->D.R c it q.k q.ol->
   D.L (gp c sc) ifs q.oX->D.E (gp c sc) elt q.xe->D.M c elt t it ifs sc q
def ii (c:dR) (e:bn) (i:a_):Prop:=∀D,tL D->D.E c e i
def La (c:dR) (e:List bn) (i:List a_):Prop:=∀D,tL D->D.L c e i
def Dl (c:dR) (e:bn) (k:Nat) (i:List a_):Prop:=∀D,tL D->D.R c e k i
def Dk (c:dR) (a t d:bn) (b:List bn) (e:eA) (q:zl):Prop:=∀D,tL D->D.M c a t d b e q
noncomputable def fw {c b:Type}:(o:Option c)->(∀a,o=J a->Option b)->Option b|none,_=>Y|some a,k=>k a rfl
noncomputable def dP {a:Type}:(b:Bool)->(b=ac->Option a)->Option a|false,_=>Y|true,k=>k rfl
noncomputable def xf {a:Type}:(b:Bool)->(b=ac->Option a)->(b=aa->Option a)->Option a|true,k,_=>k rfl|false,_,k=>k rfl
noncomputable def pp {c:Type}:Option c->Option c->Option c|some a,_=>J a|none,b=>b
noncomputable def bO {c b:Type} {P:c->Prop}:Option {a//P a}->(∀a,P a->Option b)->Option b|none,_=>Y|some ⟨a,h⟩,k=>k a h
abbrev ry (c:dR) (e:bn):Type:=Option {i//ii c e i}
abbrev wz (c:dR) (e:bn):Type:=Option {q:Nat×List a_//Dl c e q.1 q.2}
abbrev DI (c:dR) (l:List bn):Type:=Option {m//La c l m}
abbrev LB (c:dR) (a t d:bn) (b:List bn) (e:eA):Type:=Option {q:zl//Dk c a t d b e q}
def H5 (c:dR) (x:aG) (p:cl):ry c<|.Name x p:=pp (fw (c.loc x) λi h=>J ⟨.loc i,λD K=>K.loc h⟩)<|dP (c.gl x) λh=>fw (c.glob x) λv a=>J ⟨.W v,λD K=>K.glob h a⟩
def BU {c:dR} {e:bn} (a:wz c e) (b:ry c e):wz c e:=pp a<|bO b λi d=>J ⟨(0,[i]),λD K=>K.lX<|d D K⟩
def Hs {c:dR} {e t j:bn} {f:List bn} {g:eA} (a:wz c j) (b:DI (gp c g) f) (d:ry (gp c g) e):LB c e t j f g:=dP (c.xO g) λk=>fw (zY (gp c g) t) λh m=>dP (h.all λx=>bj<|100<=x) λn=>bO a λs o=>dP (if s.1==2 then h.length==2 else h.length==1) λp=>bO b λl q=>bO d λi r=>J ⟨⟨i,h,s.1,s.2,l⟩,λD K=>K.EI k m n p (o D K) (q D K)<|r D K⟩
set_option smartUnfolding false in
mutual
def ef (c:dR):(e:bn)->ry c e
 |.Constant k _ _=>fw (zW k) λv h=>J ⟨.W v,λD K=>K.EK h⟩|.Name x p=>H5 c x p|.Attribute o a _=>dP (pf o) λh=>fw (c.attr a) λn b=>bO (ef c o) λi q=>J ⟨.attr i n,λD K=>K.attr h b<|q D K⟩|.Subscript o x p=>bO (ef c o) λi q=>xf (so x) (λ_=>Sg c o ⟨i,q⟩ p x) λh=>bO (ef c x) λj f=>J ⟨.ao i j,λD K=>K.ao h (q D K)<|f D K⟩|.Tuple b _ _=>dP (ma b.length 1000) λh=>bO (mQ c b) λl n=>J ⟨.av l,λD K=>K.av h<|n D K⟩|.List b _=>bO (mQ c b) λl n=>J ⟨.X l,λD K=>K.X<|n D K⟩|.Dict [] [] _=>J ⟨.fZ,λD K=>K.fZ⟩|.Compare l [b] [r] _=>bO (ef c l) λi q=>bO (ef c r) λj f=>J ⟨.au b i j,λD K=>K.au (q D K)<|f D K⟩|.BoolOp .And d _=>bO (mQ c d) λl n=>fw (nq .dM l) λi h=>J ⟨i,λD K=>K.dM (n D K) h⟩|.BoolOp .Or d _=>bO (mQ c d) λl n=>fw (nq .or l) λi h=>J ⟨i,λD K=>K.or (n D K) h⟩|.UnaryOp .Not e _=>bO (ef c e) λi q=>J ⟨.gd i,λD K=>K.gd<|q D K⟩|.UnaryOp .USub e _=>bO (ef c e) λi q=>J ⟨.gq i,λD K=>K.gq<|q D K⟩|.BinOp l b r _=>bO (ef c l) λi q=>bO (ef c r) λj f=>J ⟨.cH b i j,λD K=>K.cH (q D K)<|f D K⟩|.IfExp d a b _=>bO (ef c d) λi q=>bO (ef c a) λj f=>bO (ef c b) λk r=>J ⟨.aQ i j k,λD K=>K.aQ (q D K) (f D K)<|r D K⟩|.Call (.Name f j) a [] p=>pp (bO (H5 c f j) λg m=>bO (mQ c a) λl n=>J ⟨.bi g l,λD K=>K.bi (m D K)<|n D K⟩)<|pp (Sf c f j p a)
   (dP (c.gl f) λh=>fw (zP f) λb g=>bO (mQ c a) λl n=>J ⟨.bZ b l,λD K=>K.bZ h g<|n D K⟩)
 |.Call (.Attribute o m b) a [] p=>dP (b.endLine==p.line) λf=>dP (yJ a.length 20) λg=>dP (pf o) λh=>fw (c.jK m) λk r=>bO (ef c o) λi q=>bO (mQ c a) λl n=>
   J ⟨.aS i k l,λD K=>K.aS f g h r (q D K)<|n D K⟩
 |.ListComp a [⟨d,f,b,0⟩] g _=>bO (Hs (t:=d) (BU (Bp c f)<|ef c f) (mQ (gp c g) b)<|ef (gp c g) a) λq h=>J ⟨_,λD K=>K.fh<|h D K⟩|_=>Y
def mQ (c:dR):(l:List bn)->DI c l|[]=>J ⟨[],λD K=>K.b_⟩|e::r=>bO (ef c e) λi a=>bO (mQ c r) λm b=>J ⟨i::m,λD K=>K.cons (a D K)<|b D K⟩
def Sg (c:dR) (o:bn) (i:{i//ii c o i}) (p:cl):(x:bn)->ry c (.Subscript o x p)|.Slice Y Y Y _=>J ⟨.f2 i.1,λD K=>K.IC<|i.2 D K⟩|.Slice (J a) Y Y _=>bO (ef c a) λj b=>J ⟨.f1 i.1 j,λD K=>K.ID (i.2 D K)<|b D K⟩|.Slice Y (J a) Y _=>bO (ef c a) λj b=>J ⟨.f9 i.1 j,λD K=>K.IF (i.2 D K)<|b D K⟩|.Slice Y Y (J<|.UnaryOp .USub (.Constant (.int 1) _ _) _) _=>J ⟨.g0 i.1,λD K=>K.IE<|i.2 D K⟩|_=>Y
def Sf (c:dR) (f:aG) (e p:cl):(g:List bn)->ry c (.Call (.Name f e) g [] p)|[a,.Name t _]=>dP (lL c f "isinstance") λh=>bO (ef c a) λj d=>pp (dP (lL c t "str") λb=>J ⟨.bZ .isStr [j],λD K=>K.isStr h b<|d D K⟩)<|dP (lL c t "bool") λb=>J ⟨.bZ .hS [j],λD K=>K.hS h b<|d D K⟩|_=>Y
def Bp (c:dR):(e:bn)->wz c e|.Call (.Name f _) b [] _=>bO (mQ c b) λl a=>pp (dP (lL c f "range") λh=>J ⟨(1,l),λD K=>K.Ip h<|a D K⟩)<|dP (lL c f "enumerate") λh=>J ⟨(2,l),λD K=>K.fi h<|a D K⟩|_=>Y
end
structure zv where
 S:dR->hH->cA->Prop
 T:dR->List hH->List cA->Prop
structure wp (D:zv):Prop where
 aN {c x px e p n i}:AZ e=aa->c.loc x=J n->ii c e i->D.S c (.Assign [.Name x px] e p) (.aN n i)
 D0 {c x px elt t it ifs sc r p n q}:c.loc x=J n->Dk c elt t it ifs sc q->D.S c (.Assign [.Name x px] (.ListComp elt [⟨t,it,ifs,0⟩] sc r) p) (.aN n<|.fh q.xe q.xs q.k q.ol q.oX)
 jO {c o a pa e p n i j}:c.attr a=J n->ii c o i->ii c e j->D.S c (.Assign [.Attribute o a pa] e p) (.jO i n j)
 eu {c o x px e p i k j}:ii c o i->ii c x k->ii c e j->D.S c (.Assign [.Subscript o x px] e p) (.eu i k j)
 jS {c x px y py k pt e p n m i}:c.loc x=J n->c.loc y=J m->xn e=aa->ii c e i->D.S c (.Assign [.Tuple [.Name x px,.Name y py] k pt] e p) (.jS [n,m] i)
 ik {c x px op e p n i}:c.loc x=J n->ii c e i->D.S c (.AugAssign (.Name x px) op e p) (.ik n op i)
 aQ {c t a b p i j k}:ii c t i->D.T c a j->D.T c b k->D.S c (.If t a b p) (.aQ i j k)
 JU {c t a p i j}:ii c t i->D.T c a j->D.S c (.While t a [] p) (.while i j)
 FW {c x px it b p n k src j}:c.loc x=J n->(k==2)=aa->Dl c it k src->D.T c b j->D.S c (.For (.Name x px) it b [] p) (.for n k src j)
 Iy {c p}:D.S c (.Return Y p) (.aO<|.W .a6)
 aO {c e p i}:ii c e i->D.S c (.Return (J e) p) (.aO i)
 hW {c e p i}:ii c e i->D.S c (.Raise (J e) Y p) (.hW i)
 JE {c b t pt x s hs ph p n i j}:c.exc t=ac->c.gl t=ac->c.of x=ac->c.loc x=J n->D.T c b i->D.T c (s::hs) j->D.S c (.Try b [.ExceptHandler (J<|.Name t pt) (J x) (s::hs) ph] [] [] p) (.try i n j)
 cu {c f as ks q p i}:ii c (.Call f as ks q) i->D.S c (.Expr (.Call f as ks q) p) (.cu i)
 jM {c p}:D.S c (.Pass p) .jM
 gm {c p}:D.S c (.Continue p) .gm
 ET {c o po a ps q p i j}:ii c (.Name o po) i->ii c a j->D.S c (.Delete [.Subscript (.Name o po) (.Slice (J a) Y Y ps) q] p) (.g9 i j)
 b_ {c}:D.T c [] []
 cons {c s l i m}:D.S c s i->D.T c l m->D.T c (s::l) (i::m)
abbrev zA (c:dR) (x:hH):Type:=Option {i//∀D,wp D->D.S c x i}
def Se (c:dR) (x:aG) (i p:cl) (n:Nat) (h:c.loc x=J n):(e:bn)->zA c (.Assign [.Name x i] e p)|.ListComp b [⟨a,f,d,0⟩] g _=>bO (Hs (t:=a) (BU (Bp c f)<|ef c f) (mQ (gp c g) d)<|ef (gp c g) b) λq j=>J ⟨_,λD K=>K.D0 h j⟩|_=>Y
def Sd (c:dR) (e:bn) (p:cl):(f:List bn)->zA c (.Assign f e p)|[.Name x a]=>fw (c.loc x) λn h=>xf (AZ e) (λ_=>Se c x a p n h e) λd=>bO (ef c e) λi b=>J ⟨.aN n i,λD K=>K.aN d h b⟩|[.Attribute o a _]=>fw (c.attr a) λn h=>bO (ef c o) λi b=>bO (ef c e) λj d=>J ⟨.jO i n j,λD K=>K.jO h b d⟩|[.Subscript o x _]=>bO (ef c o) λi b=>bO (ef c x) λk a=>bO (ef c e) λj d=>J ⟨.eu i k j,λD K=>K.eu b a d⟩|[.Tuple [.Name x _,.Name y _] _ _]=>fw (c.loc x) λn a=>fw (c.loc y) λm d=>xf (xn e) (λ_=>Y) λh=>bO (ef c e) λi b=>J ⟨.jS [n,m] i,λD K=>K.jS a d h b⟩|_=>Y
set_option smartUnfolding false in
mutual
def H6 (c:dR):(x:hH)->zA c x
 |.Assign a e p=>Sd c e p a|.AugAssign (.Name x _) a e _=>fw (c.loc x) λn h=>bO (ef c e) λi d=>J ⟨.ik n a i,λD K=>K.ik h d⟩|.If t a b _=>bO (ef c t) λi d=>bO (pr c a) λj g=>bO (pr c b) λk f=>J ⟨.aQ i j k,λD K=>K.aQ d (g D K)<|f D K⟩|.While t a [] _=>bO (ef c t) λi d=>bO (pr c a) λj g=>J ⟨.while i j,λD K=>K.JU d<|g D K⟩|.For (.Name x _) o b [] _=>fw (c.loc x) λn h=>bO (BU (Bp c o)<|ef c o) λs l=>xf (s.1==2) (λ_=>Y) λm=>bO (pr c b) λj g=>J ⟨.for n s.1 s.2 j,λD K=>K.FW h m l<|g D K⟩|.Return Y _=>J ⟨.aO<|.W .a6,λD K=>K.Iy⟩|.Return (J e) _=>bO (ef c e) λi d=>J ⟨.aO i,λD K=>K.aO d⟩|.Raise (J e) Y _=>bO (ef c e) λi d=>J ⟨.hW i,λD K=>K.hW d⟩|.Try b [.ExceptHandler (J<|.Name t _) (J x) (s::l) _] [] [] _=>dP (c.exc t) λe=>dP (c.gl t) λm=>dP (c.of x) λh=>fw (c.loc x) λn o=>bO (pr c b) λi d=>bO (H6 c s) λk f=>bO (pr c l) λj g=>
   J ⟨.try i n<|k::j,λD K=>K.JE e m h o (d D K)<|K.cons (f D K)<|g D K⟩
 |.Expr (.Call f b e q) _=>bO (ef c<|.Call f b e q) λi d=>J ⟨.cu i,λD K=>K.cu d⟩|.Pass _=>J ⟨.jM,λD K=>K.jM⟩|.Continue _=>J ⟨.gm,λD K=>K.gm⟩|.Delete [.Subscript (.Name o b) (.Slice (J a) Y Y _) _] _=>bO (ef c<|.Name o b) λi d=>bO (ef c a) λj g=>J ⟨.g9 i j,λD K=>K.ET d g⟩|_=>Y
def pr (c:dR):(l:List hH)->Option {m//∀D,wp D->D.T c l m}|[]=>J ⟨[],λD K=>K.b_⟩|e::r=>bO (H6 c e) λi a=>bO (pr c r) λm b=>J ⟨i::m,λD K=>K.cons (a D K)<|b D K⟩
end
def rT (c:dR) (l:List hH):Option<|List cA:=(pr c l).bind λm=>J m.1
def MV (h:rT c l=J m) {D:zv} (K:wp D):D.T c l m:=el h λx _ e=>am (aH e)<|x.2 D K
structure he where
 XQ:aG
 args:ty
 body:List hH
 scope:eA
noncomputable def EQ (c:aG):hH->List he|.FunctionDef n a b _ _ _ d _ _ _=>[⟨c++n,a,b,d⟩]|_=>[]
def z7:List hH->List he|[]=>[]|.ClassDef n _ _ b _ _ _ _ _ _ _::r=>b.flatMap (EQ<|n++".")++z7 r|s::r=>EQ Str.empty s++z7 r
abbrev P:=X2
def kQ:List he:=z7 P.main.body
noncomputable def qz:List<|String×V:=[("_wall",.aA 0),("ClausemillError",.c2 0),("PrologError",.c2 1),("A_NIL",.I 0),("A_SYSTEM",.I 25),("F_DOT",.I 0),("F_MINUS",.I 13),("F_ERROR",.I 16),("fixed_atoms",.aA 2),("fixed_functors",.aA 3),("Symbols",.c2 2),("system_error",.aA 15),("formal_of",.aA 16),("instantiation_error",.aA 17),("type_error",.aA 18),("resource_error",.aA 19),("REF",.I 0),("SRF",.I 1),("STR",.I 2),("LIS",.I 3),("CON",.I 4),("INT",.I 5),("FUN",.I 6),("VOID",.av [.I 5,.I 0]),("VISIT",.I 0),("BUILD",.I 1),("Cells",.c2 3),("Store",.c2 4),("PairSet",.c2 5),("push_arguments",.aA 46),("push_pairs",.aA 47),("same_shape",.aA 48),("is_variable",.aA 49),("unify",.aA 50),("unify_unify",.aA 50),("bind_checked",.aA 51),("occurs_in",.aA 52),("rank",.aA 53),("order",.aA 54),("compare_shapes",.aA 55),("compare_tops",.aA 56),("compare",.aA 57),("merge",.aA 58),("merge_sort",.aA 59),("NIL_CELL",.av [.I 4,.I 0]),("partial_list",.aA 60),("proper_list",.aA 61),("is_pair",.aA 62),("pred_sort",.aA 63),("pred_msort",.aA 64),("pred_keysort",.aA 65),("READ",.Z [114,101,97,100]),("EXTRA",.I 8),("Areas",.c2 6),("_law_pick",.aA 87),("_law_end",.aA 88),("_law_inside",.aA 89),("_law_meet",.aA 90),("_law_full",.aA 91),("_law_match",.aA 92),("_law_error",.aA 93),("_law_agrees",.aA 94),("_law_row",.aA 95),("_law_leaf",.aA 96),("_law_item",.aA 97),("_law_before",.aA 98),("_law_ordered",.aA 99),("_law_due",.aA 100),("_law_sorted_by_key",.aA 101),("law",.aA 102)]
noncomputable def fu:List String:=["ball","atom_numbers","functor_numbers","functors","texts","bb","hb","heap","max_heap","stack","symbols","trail","met","span","b","b0","bags","code","collect_wanted","cp","e","guard","max_bits","mode","occurs","p","roots","s","store","x"]
noncomputable def qI:List String:=["append","extend","insert","pop","index","get","add","__init__","atom","text","functor","func","name","arity","push","new_var","reserve","deref","bind","bind_pair","globalise","is_compound","functor_of","width","base","arg","new_block","build_list","list_cells","put_term","take_term","reset","set_x","set_arguments","unify","take"]
noncomputable def qM:List String->Nat->aG->Option Nat|[],_,_=>Y|y::r,n,x=>if eo y==x then J n else qM r (n+1) x
def uw (a:eA):dR:=⟨sz a,AR a,nH qz,qM fu 0,qM qI 0,λx=>x=="PrologError",IJ a,λx=>a.names.lookup x==J .local⟩
structure bL where
 params:List Nat
 np:List V
 body:List cA
noncomputable def iy {c d:Type} (f:c->Option d):List c->Option (List d)|[]=>J []|a::r=>match f a,iy f r with|some b,J l=>J<|b::l|_,_=>Y
noncomputable def nA:bn->Option V|.Constant .none _ _=>J .a6|.Constant (.bool b) _ _=>J<|.ad b|.Constant (.int i) _ _=>J<|.I i|_=>Y
def En (d:he):Option bL:=match iy (λa=>sz d.scope a.arg) d.args.args,iy nA d.args.defaults,rT (uw d.scope) d.body with|some a,J c,J b=>J ⟨a,c,b⟩|_,_,_=>Y
def bN (k:Nat):Option bL:=kQ[k]?.bind En
noncomputable def S (s:String):List Nat:=s.toList.map J1
def Nr (s:String):(eo s).cps.toList=S s:=by rw[Str.ofString_eq_toList];rfl
def Jw {l m:List Char} (h:l.map J1=m.map J1):l=m:=by
 induction l generalizing m with
 |nil=>cases m<;>simp_all
 |cons a l c=>
  cases m with
  |nil=>simp at h|cons b m=>simp only[jW,XT]at h;rw[c h.2,Char.ext<|UInt32.toNat_inj.mp h.1]
def Bj (a b:String):(eo a=eo b)=(a=b):=by
 apply propext
 constructor
 ·intro h
  have h:=al (λs=>s.cps.toList) h;simp only[Nr,S]at h;exact Xy.mp<|Jw h
 ·rintro rfl;rfl
end
section
open PySem
set_option genCtorIdx true in
class inductive O where
 |X (l:List V)|dE|dS (l:List<|List Nat×V)|dI (l:List<|Int×V)|dT (l:List<|List Int×V)|set (l:List Int)|a3 (c:Nat) (fs:List<|Nat×V)
 deriving Inhabited
abbrev ae:=List O
abbrev ap:=Nat->Option V
abbrev R (a:Type):=Option<|Except Nat a×ae
set_option genCtorIdx true in
class inductive zp where
 |a1|gm|aO (v:V)
set_option genCtorIdx true in
class inductive bM where
 |ok (f:zp) (ρ:ap) (σ:ae)|a4 (n:Nat) (ρ:ap) (σ:ae)
abbrev cx:=Option bM
noncomputable def aB (a:ap) (i:Nat) (v:V):ap:=λj=>bif j==i then J v else a j
def qX (a:ap) (i j:Nat) (v:V):aB a i v j=if j=i then J v else a j:=by
 unfold aB
 by_cases h:j=i
 ·rw[aK h,h,beq_self_eq_true];rfl
 ·rw[aX h,beq_eq_false_iff_ne.mpr h];rfl
noncomputable def br {c d:Type} (r:R c) (f:c->ae->R d):R d:=match r with|none=>Y|some (.ok a,b)=>f a b|some (.error e,b)=>J (.error e,b)
noncomputable def ok {b:Type} (a:b) (c:ae):R b:=J (.ok a,c)
noncomputable def ir {b:Type} (o:Option b) (c:ae):R b:=match o with|some a=>J (.ok a,c)|none=>Y
noncomputable def fg (r:R V) (c:ap) (f:V->ae->cx):cx:=match r with|none=>Y|some (.ok a,b)=>f a b|some (.error e,b)=>J<|.a4 e c b
noncomputable def ar:Nat:=1000000
noncomputable def gC:Nat:=4090
mutual
noncomputable def gQ:Nat->V->Bool|_,.I _=>ac|_,.Z l=>l.all λc=>bj<|c<0x110000|n+1,.av l=>hP n l|_,_=>aa
noncomputable def hP:Nat->List V->Bool|_,[]=>ac|n,v::r=>gQ n v&&hP n r
end
mutual
noncomputable def kR:V->V->Bool|.I a,.I b=>bj<|a=b|.Z a,.Z b=>bj<|a=b|.av a,.av b=>mI a b|_,_=>aa
noncomputable def mI:List V->List V->Bool|[],[]=>ac|a::c,b::d=>kR a b&&mI c d|_,_=>aa
end
noncomputable def kh:Nat:=60
def pa (a b:V) (c:ae):Option Bool:=match a,b with
 |.ref m,.ref n=>match c[m]?,c[n]?with|some (.X l),J (.X k)=>if hP 59 l&&hP 59 k then J<|mI l k else Y|_,_=>Y
 |a,b=>if gQ kh a&&gQ kh b then J<|kR a b else Y
noncomputable def hs:List V->Option (List Int)|[]=>J []|.I i::r=>(hs r).map (i::·)|_=>Y
noncomputable def wJ:List V->Option (List Bool)|[]=>J []|.ad i::r=>(wJ r).map (i::·)|_=>Y
noncomputable def yj:List V->Option (List<|List Nat)|[]=>J []|.Z i::r=>(yj r).map (i::·)|_=>Y
def Bb (a b:V) (c:ae):Option Bool:=match a,b with
 |.I a,.I b=>J<|bj<|a<b|.Z a,.Z b=>J<|bj<|a<b|.ref m,.ref n=>match c[m]?,c[n]?with
  |some (.X l),J (.X k)=>match hs l,hs k with|some l,J k=>J<|bj<|l<k|_,_=>Y
  |_,_=>Y
 |_,_=>Y
noncomputable def F4 (a b:V):Option Bool:=match a,b with|.I a,.I b=>J<|bj<|b<a|.Z a,.Z b=>J<|bj<|b<a|_,_=>Y
noncomputable def A6 (a b:V):Option Bool:=match a,b with|.I a,.I b=>J<|bj<|a<=b|_,_=>Y
noncomputable def qA:V->Bool|.a6=>ac|_=>aa
noncomputable def pj:O->Option (List<|Int×V)|.dE=>J []|.dI l=>J l|_=>Y
noncomputable def qE:O->Option (List<|List Nat×V)|.dE=>J []|.dS l=>J l|_=>Y
noncomputable def pk:O->Option (List<|List Int×V)|.dE=>J []|.dT l=>J l|_=>Y
def qF (i:Int) (o:O):Option<|Option V:=(pj o).map λl=>l.lookup i
def uX (x:List Nat) (o:O):Option<|Option V:=(qE o).map λl=>l.lookup x
def GW (t:List Int) (o:O):Option<|Option V:=(pk o).map λl=>l.lookup t
noncomputable def D1 (a:ae):V->Option O|.ref n=>a[n]?|_=>Y
def Gg (i:Int):O->Option Bool|.set l=>J<|l.contains i|o=>(qF i o).map vV
def Gf (c:Bool):O->Option Bool|.X l=>(wJ l).map λl=>l.contains c|_=>Y
def xg (o:O):V->Option Bool|.I i=>Gg i o|.Z x=>(uX x o).map vV|.ad c=>Gf c o|_=>Y
def xh (a b:V) (c:ae):Option Bool:=(D1 c b).bind λo=>xg o a
def ex (d:vX) (a b:V) (c:ae):Option Bool:=match d with
 |.Eq=>pa a b c|.NotEq=>(pa a b c).map (!·)|.Lt=>Bb a b c|.Gt=>F4 a b|.LtE=>A6 a b|.GtE=>A6 b a|.Is=>match b with|.a6=>J<|qA a|_=>Y
 |.In=>xh a b c|.NotIn=>(xh a b c).map (!·)|.IsNot=>Y
noncomputable def small (i:Int):Bool:=bj (-(2^62)<i)&&bj (i<2^62)
def hO (c:nP) (a b:V):Option V:=match a,b with
 |.I a,.I b=>match c with|.Add=>J<|.I<|a+b|.Sub=>J<|.I<|a-b|.Mult=>if small a&&small b then J<|.I<|a*b else Y|.FloorDiv=>if 0<b/\b<2^100 then J<|.I<|a/b else Y|.Mod=>if 0<b then J<|.I<|a %b else Y|.Pow=>if 0<=b&&b<=100&&0<a&&a<=100 then J<|.I<|a^b.toNat else Y|_=>Y
 |_,_=>Y
noncomputable def eM {K:Type} [DecidableEq K]:List (K×V)->K->V->List (K×V)|[],k,v=>[(k,v)]|(x,u)::r,k,v=>if x=k then(x,v)::r else(x,u)::eM r k v
def uz {K:Type} [DecidableEq K] {x k:K} {u v:V} {r:List<|K×V} (q:x=k):eM ((x,u)::r) k v=(x,v)::r:=aK q
def rY {K:Type} [DecidableEq K] {x k:K} {u v:V} {r:List<|K×V} (q:¬x=k):eM ((x,u)::r) k v=(x,u)::eM r k v:=aX q
noncomputable def rN (o:V) (a:Nat) (b:ae):Option V:=match o with
 |.ref n=>match b[n]?with|some (.a3 _ c)=>c.lookup a|_=>Y
 |_=>Y
def sU (o:V) (a:Nat) (v:V) (b:ae):Option ae:=match o with
 |.ref n=>match b[n]?with|some (.a3 c d)=>if d.length<=100/\(c≠1/\c≠7)/\a<fu.length then J<|b.set n<|.a3 c<|eM d a v else Y|_=>Y
 |_=>Y
noncomputable def QJ (l:List V) (i:Int):Option V:=if 0<=i then l[i.toNat]?else if 0<=(l.length:Int)+i then l[((l.length:Int)+i).toNat]?else Y
def QI (i:Int):O->Option V|.X l=>QJ l i|o=>(qF i o).bind id
def xo (o:O):V->Option V|.I i=>QI i o|.Z x=>(uX x o).bind id|_=>Y
noncomputable def QK (l:List V):V->Option V|.I i=>if 0<=i then l[i.toNat]?else Y|_=>Y
def go (o i:V) (a:ae):Option V:=match o with|.av l=>QK l i|.ref n=>(a[n]?).bind λo=>xo o i|_=>Y
def vq (i:Int) (v:V):O->Option O|.X l=>if 0<=i/\i<l.length then J<|.X<|l.set i.toNat v else Y|o=>(pj o).bind λl=>if l.length<=ar then J<|.dI<|eM l i v else Y
def I3 (x:List Nat) (v:V) (o:O):Option O:=(qE o).bind λl=>if l.length<=ar then J<|.dS<|eM l x v else Y
def I4 (t:List Int) (v:V) (o:O):Option O:=(pk o).bind λl=>if l.length<=ar then J<|.dT<|eM l t v else Y
def I2 (i v:V) (o:O):Option O:=match i with|.I i=>vq i v o|.Z x=>I3 x v o|.av t=>(hs t).bind λt=>I4 t v o|_=>Y
def jh (o i v:V) (a:ae):Option ae:=match o with|.ref n=>(a[n]?).bind λo=>(I2 i v o).map λb=>a.set n b|_=>Y
noncomputable def kW (o:V) (a:ae):Option<|List V:=match o with
 |.ref n=>match a[n]?with|some (.X l)=>J l|_=>Y
 |.df l=>J<|l.map .I|_=>Y
noncomputable def iJ (o:O) (a:ae):R V:=J (.ok<|.ref a.length,a++[o])
def ew (l:List V) (a:ae):R V:=if l.length<=ar then iJ (.X l) a else Y
def rO (b:List V) (a:ae):R V:=match b with
 |[.av l]=>ok (.I l.length) a|[.ref n]=>match a[n]?with|some (.X l)=>ok (.I l.length) a|some .dE=>ok (.I 0) a|some (.dI l)=>if l.length<=ar then ok (.I l.length) a else Y|_=>Y
 |_=>Y
def Eb (b:List V) (a:ae):R V:=match b with|[.Z _]=>ok (.ad ac) a|[.av _]=>ok (.ad aa) a|_=>Y
def D8 (a:List V) (b:ae):R V:=match a with|[.I _]=>ok (.ad aa) b|_=>Y
def Mt (b:List V) (a:ae):R V:=match b with
 |[o]=>match kW o a with|some l=>ok (.av l) a|none=>Y
 |_=>Y
def D_ (b:List V) (a:ae):R V:=match b with
 |[.ref n]=>match a[n]?with|some .dE=>ew [] a|some (.dI l)=>ew (l.map λp=>.I p.1) a|_=>Y
 |_=>Y
def Ec (b:List V) (a:ae):R V:=match b with
 |[o]=>match kW o a with
  |some l=>match hs l with|some c=>ok (.I c.sum) a|none=>Y
  |none=>Y
 |_=>Y
def Ea (a:List V) (b:ae):R V:=match a with|[.Z [c]]=>ok (.I c) b|_=>Y
def e_ (d:Bool) (b:mo) (a:List V) (c:ae):R V:=match b with
 |.bb=>rO a c|.isStr=>Eb a c|.hS=>D8 a c|.e6=>Mt a c|.X=>if d then Y else D_ a c|.set=>match a with|[]=>iJ (.set []) c|_=>Y
 |.sum=>if d then Y else Ec a c|.f8=>Ea a c
noncomputable def kX:List<|(Nat×Nat)×Nat:=[((2,8),5),((2,9),6),((2,10),7),((2,11),8),((2,12),9),((2,13),10),((4,14),21),((4,15),22),((4,16),23),((4,17),25),((4,18),27),((4,19),28),((4,20),29),((4,21),33),((4,22),34),((4,23),35),((4,24),36),((4,25),37),((4,26),38),((4,27),40),((4,28),41),((4,29),42),((4,30),43),((5,6),45),((6,31),67),((6,32),68),((6,33),69),((6,25),70),((6,34),71),((6,35),72)]
noncomputable def pe:List<|Nat×Nat:=[(2,4),(4,20),(5,44),(6,66)]
noncomputable def dm:O->Nat|.X _=>0|.dE=>1|.dS _=>1|.dI _=>1|.dT _=>1|.set _=>2|.a3 c _=>3+c
noncomputable def oV:Nat->Nat->Option (String×String)|0,0=>J ("list","list.append")|0,1=>J ("list","list.extend")|0,2=>J ("list","list.insert")|0,3=>J ("list","list.pop")|0,4=>J ("list","list.index")|1,5=>J ("dict","dict.get")|2,6=>J ("set","set.add")|_,_=>Y
def mO (o:O) (m:Nat):Bool:=match o with|.a3 c _=>(kX.lookup (c,m)).isSome|o=>(oV (dm o) m).isSome
noncomputable def xx:O->Option (List V)|.X l=>J l|_=>Y
def lI (a:ae) (n:Nat):Option<|List V:=(a[n]?).bind xx
def Ri (n:Nat) (b:List V) (a:ae):R V:=match b with|[v]=>(lI a n).bind λl=>if l.length<ar then ok .a6<|a.set n<|.X<|l++[v]else Y|_=>Y
def G8 (n:Nat) (b:List V) (a:ae):R V:=match b with|[.ref k]=>(lI a n).bind λl=>(lI a k).bind λr=>if k≠n/\l.length+r.length<=ar then ok .a6<|a.set n<|.X<|l++r else Y|_=>Y
def G9 (n:Nat) (b:List V) (a:ae):R V:=match b with|[.I i,v]=>(lI a n).bind λl=>if 0<=i/\i<=l.length/\l.length<ar then ok .a6<|a.set n<|.X<|l.take i.toNat++v::l.drop i.toNat else Y|_=>Y
def G_ (n:Nat) (b:List V) (a:ae):R V:=match b with|[]=>(lI a n).bind λl=>l.getLast?.bind λv=>ok v<|a.set n<|.X l.dropLast|_=>Y
def Ha (n:Nat) (c:List V) (a:ae):R V:=match c with|[.Z v]=>(lI a n).bind λl=>(yj l).bind λb=>if b.contains v/\l.length<=ar then ok (.I<|b.idxOf v) a else Y|_=>Y
def Rn (o:O) (k d:V):Option V:=match k with|.I i=>(qF i o).map λx=>x.getD d|.Z x=>(uX x o).map λx=>x.getD d|.av t=>(hs t).bind λt=>(GW t o).map λx=>x.getD d|_=>Y
def Hd (n:Nat) (b:List V) (a:ae):R V:=match b with|[k,d]=>ir ((a[n]?).bind λo=>Rn o k d) a|_=>Y
noncomputable def BK:O->Option (List Int)|.set l=>J l|_=>Y
def Hb (n:Nat) (b:List V) (a:ae):R V:=match b with|[.I i]=>((a[n]?).bind BK).bind λl=>if l.length<gC then ok .a6<|a.set n<|.set<|if l.contains i then l else l++[i]else Y|_=>Y
def iu (n:Nat) (m:Nat) (a:List V) (b:ae):R V:=match m with|0=>Ri n a b|1=>G8 n a b|2=>G9 n a b|3=>G_ n a b|4=>Ha n a b|5=>Hd n a b|6=>Hb n a b|_=>Y
class inductive cB where
 |b8 (l:List V)|b5 (n i:Nat)|fi (n i:Nat)
noncomputable def eO (b:cB) (a:ae):Option<|Option<|V×cB:=match b with
 |.b8 []=>J Y|.b8 (v::l)=>J<|J (v,.b8 l)|.b5 n i=>match a[n]?with
  |some (.X l)=>match l[i]?with|some v=>J<|J (v,.b5 n<|i+1)|none=>J Y
  |_=>Y
 |.fi n i=>match a[n]?with
  |some (.X l)=>match l[i]?with|some v=>J<|J (.av [.I i,v],.fi n<|i+1)|none=>J Y
  |_=>Y
noncomputable def qN (a c b:Int):List Int:=(ic (tz a c b).toNat).map λ(k:Nat)=>a+b*(k:Int)
noncomputable def Qw (a:List V):Option cB:=match a with|[.av l]=>J<|.b8 l|[.Z l]=>J<|.b8<|l.map λc=>.Z [c]|[.ref n]=>J<|.b5 n 0|_=>Y
def Qx (d:List V):Option cB:=match d with|[.I a]=>if-(ar:Int)<=a/\a<=ar then J<|.b8<|(qN 0 a 1).map .I else Y|[.I a,.I b,.I c]=>if-(ar:Int)<=a/\a<=ar/\ -(ar:Int)<=b/\b<=ar/\(c=1\/c=2\/c= -1)then J<|.b8<|(qN a b c).map .I else Y|_=>Y
noncomputable def Qy (a:List V):Option cB:=match a with|[.ref n]=>J<|.fi n 0|_=>Y
def qB (a:Nat) (b:List V):Option cB:=match a with|0=>Qw b|1=>Qx b|2=>Qy b|_=>Y
def kg (b:List Nat) (v:V) (a:ap):Option ap:=match b,v with|[x],v=>J<|aB a x v|[x,y],.av [u,w]=>J<|aB (aB a x u) y w|_,_=>Y
noncomputable def op:V->Option Bool|.ad c=>J c|_=>Y
noncomputable def kn {b:Type} (r:R b):Option<|b×ae:=r.bind λp=>match p.1 with|.ok a=>J (a,p.2)|.error _=>Y
noncomputable def sL:bM->Option (ap×ae)|.ok .a1 a b=>J (a,b)|.ok .gm a b=>J (a,b)|_=>Y
section
open Lean.Order
noncomputable def pm {a b:Type} (F:(a->Option b)->a->Option b) (h:monotone F):a->Option b:=fix F h
def xv:pm F h a=F (pm F h) a:=congrFun (fix_eq h) a
def Ba {c b:Type} {F:(c->Option b)->c->Option b} {h:monotone F} {M:c->b->Prop} (d:∀K,(∀a r,K a=J r->M a r)->∀a r,F K a=J r->M a r):∀a r,pm F h a=J r->M a r:=fix_induct (f:=F) h (motive:=λK=>∀a r,K a=J r->M a r) (admissible_pi_apply (λa x=>∀r,x=J r->M a r) λa=>admissible_pi (λ(x:Option b) r=>x=J r->M a r) λr=>Option.admissible_eq_some (M a r) r) d
def wM (f:List Nat) (a d:ap->ae->R V) (g:cB) (h:ap) (i:ae) (e:List V):Option<|Except Nat (List V)×ae:=
 pm (λK (q:cB×ae×List V)=>eO q.1 q.2.1>>=λo=>match o with
 |none=>ok q.2.2 q.2.1|some y=>kg f y.1 h>>=λb=>kn (a b q.2.1)>>=λp=>op p.1>>=λc=>if c=ac then kn (d b p.2)>>=λu=>if q.2.2.length<ar then K (y.2,u.2,q.2.2++[u.1])else Y
  else K (y.2,p.2,q.2.2)) (by repeat' monotonicity) (g,i,e)
end
noncomputable def gK (a:ap):ap:=λj=>if j<100 then a j else Y
def gb (b:Bool) (a:Nat) (c:List V):Option cB:=if b&&a !=1 then Y else qB a c
mutual
def aU (g:Nat->List V->ae->R V) (h:Bool):a_->ap->ae->R V
 |.W v,_,d=>ok v d|.loc i,e,d=>ir (e i) d|.attr o a,e,d=>br (aU g h o e d) λv d=>ir (rN v a d) d|.ao o i,e,d=>br (aU g h o e d) λv d=>br (aU g h i e d) λj d=>ir (go v j d) d|.f1 o a,e,d=>br (aU g h o e d) λv d=>br (aU g h a e d) λj d=>match kW v d,j with|some l,.I i=>if 0<=i/\i<=ar then ew (l.drop i.toNat) d else Y|_,_=>Y
 |.f9 o a,e,d=>br (aU g h o e d) λv d=>br (aU g h a e d) λj d=>match kW v d,j with|some l,.I i=>if 0<=i/\i<=ar then ew (l.take i.toNat) d else Y|_,_=>Y
 |.f2 o,e,d=>br (aU g h o e d) λv d=>match kW v d with|some l=>ew l d|none=>Y
 |.g0 o,e,d=>br (aU g h o e d) λv d=>match kW v d with|some l=>ew l.reverse d|none=>Y
 |.av p,e,d=>br (gn g h p e d) λj d=>ok (.av j) d|.X p,e,d=>br (gn g h p e d) λj d=>ew j d|.fZ,_,d=>iJ .dE d|.au f a b,e,d=>br (aU g h a e d) λv d=>br (aU g h b e d) λu d=>match ex f v u d with|some c=>ok (.ad c) d|none=>Y
 |.dM a b,e,d=>br (aU g h a e d) λv d=>match v with|.ad ac=>aU g h b e d|.ad aa=>ok (.ad aa) d|_=>Y
 |.or a b,e,d=>br (aU g h a e d) λv d=>match v with|.ad ac=>ok (.ad ac) d|.ad aa=>aU g h b e d|_=>Y
 |.gd a,e,d=>br (aU g h a e d) λv d=>match v with|.ad c=>ok (.ad<|!c) d|_=>Y
 |.gq a,e,d=>br (aU g h a e d) λv d=>match v with|.I i=>ok (.I<|-i) d|_=>Y
 |.cH f a b,e,d=>br (aU g h a e d) λv d=>br (aU g h b e d) λu d=>ir (hO f v u) d|.aQ c a b,e,d=>br (aU g h c e d) λv d=>match v with|.ad ac=>aU g h a e d|.ad aa=>aU g h b e d|_=>Y
 |.bi f p,e,d=>br (aU g h f e d) λv d=>br (gn g h p e d) λj d=>match v with
  |.aA k=>g k j d|.c2 1=>match j with|[x]=>iJ (.a3 1 [(0,x)]) d|_=>Y
  |.c2 c=>match pe.lookup c with|some k=>br (g k (.ref d.length::j)<|d++[.a3 c []]) λr a=>if qA r then ok (.ref d.length) a else Y|none=>Y
  |_=>Y
 |.bZ b p,e,d=>br (gn g h p e d) λj d=>e_ h b j d|.aS o m p,e,d=>br (aU g h o e d) λv d=>match v with
  |.ref n=>match d[n]?with
   |some o=>if mO o m then br (gn g h p e d) λj d=>(match d[n]?with
    |some (.a3 c _)=>match kX.lookup (c,m)with|some k=>g k (.ref n::j) d|none=>Y
    |_=>iu n m j d)else Y
   |none=>Y
  |_=>Y
 |.fh c i a f b,e,d=>br (gn g h f e d) λj d=>match gb h a j with|some k=>br (wM i (λe d=>hq g h b e d) (λe d=>aU g h c e d) k (gK e) d []) λl d=>ew l d|none=>Y
def gn (b:Nat->List V->ae->R V) (c:Bool):List a_->ap->ae->R (List V)|[],_,a=>ok [] a|e::r,d,a=>br (aU b c e d a) λv a=>br (gn b c r d a) λf a=>ok (v::f) a
def hq (b:Nat->List V->ae->R V) (c:Bool):List a_->ap->ae->R V|[],_,a=>ok (.ad ac) a|[e],d,a=>aU b c e d a|_::_::_,_,_=>Y
end
section
open Lean.Order
def Ch (t:ap->ae->R V) (b:ap->ae->cx) (d:ap) (f:ae):Option bM:=
 pm (λK (a:ap×ae)=>(t a.1 a.2:Option<|Except Nat V×ae)>>=λp=>match p.1 with
 |.error e=>J<|.a4 e a.1 p.2|.ok v=>op v>>=λc=>if c=ac then(b a.1 p.2:Option bM)>>=λs=>match sL s with
   |some q=>K q|none=>J s
  else J<|.ok .a1 a.1 p.2) (by repeat' monotonicity) (d,f)
def mJ (x:Nat) (b:ap->ae->cx) (c:cB) (d:ap) (e:ae):Option bM:=
 pm (λK (a:cB×ap×ae)=>eO a.1 a.2.2>>=λo=>match o with
 |none=>J<|.ok .a1 a.2.1 a.2.2|some y=>(b (aB a.2.1 x y.1) a.2.2:Option bM)>>=λs=>match sL s with|some q=>K (y.2,q)|none=>J s) (by repeat' monotonicity) (c,d,e)
end
mutual
def fj (m:Bool->Nat->List V->ae->R V):cA->Bool->ap->ae->cx
 |.aN x e,k,g,d=>fg (aU (m k) k e g d) g λv d=>J<|.ok .a1 (aB g x v) d|.jO o a e,k,g,d=>fg (aU (m k) k e g d) g λv d=>fg (aU (m k) k o g d) g λu d=>match sU u a v d with|some d=>J<|.ok .a1 g d|none=>Y
 |.eu o i e,k,g,d=>fg (aU (m k) k e g d) g λv d=>fg (aU (m k) k o g d) g λu d=>fg (aU (m k) k i g d) g λj d=>match jh u j v d with|some d=>J<|.ok .a1 g d|none=>Y
 |.jS b e,k,g,d=>if k then Y else fg (aU (m k) k e g d) g λv d=>match b with
  |[_,_]=>match kg b v g with|some g=>J<|.ok .a1 g d|none=>Y
  |_=>Y
 |.ik x b e,k,g,d=>match g x with
  |some u=>fg (aU (m k) k e g d) g λv d=>match b,hO b u v with|.Add,J r=>J<|.ok .a1 (aB g x r) d|.Sub,J r=>J<|.ok .a1 (aB g x r) d|_,_=>Y
  |none=>Y
 |.aQ c a b,k,g,d=>fg (aU (m k) k c g d) g λv d=>match v with|.ad ac=>bG m a k g d|.ad aa=>bG m b k g d|_=>Y
 |.while c b,k,g,d=>Ch (λg d=>aU (m k) k c g d) (λg d=>bG m b k g d) g d|.for x c f b,k,g,d=>match gn (m k) k f g d with
  |some (.ok h,d)=>match gb k c h with|some l=>mJ x (λg d=>bG m b k g d) l g d|none=>Y
  |some (.error e,d)=>J<|.a4 e g d|none=>Y
 |.aO e,k,g,d=>fg (aU (m k) k e g d) g λv d=>J<|.ok (.aO v) g d|.hW e,k,g,d=>if k then Y else fg (aU (m k) k e g d) g λv d=>match v with
  |.ref n=>match d[n]?with|some (.a3 1 c)=>J<|.a4 n g<|d.set n<|.a3 7 c|_=>Y
  |_=>Y
 |.try b x h,k,g,d=>if k then Y else match bG m b k g d with
  |some (.a4 n g d)=>match bG m h ac (aB g x<|.ref n) d with|some (.ok f g d)=>J<|.ok f (λj=>if j=x then Y else g j) d|_=>Y
  |r=>r
 |.cu e,k,g,d=>fg (aU (m k) k e g d) g λ_ d=>J<|.ok .a1 g d|.jM,_,g,d=>J<|.ok .a1 g d|.gm,_,g,d=>J<|.ok .gm g d|.g9 o a,k,g,d=>fg (aU (m k) k o g d) g λu d=>fg (aU (m k) k a g d) g λj d=>match u,j with
  |.ref n,.I i=>match d[n]?with|some (.X l)=>if 0<=i/\i<=l.length then J<|.ok .a1 g<|d.set n<|.X<|l.take i.toNat else Y|_=>Y
  |_,_=>Y
def bG (c:Bool->Nat->List V->ae->R V):List cA->Bool->ap->ae->cx|[],_,a,b=>J<|.ok .a1 a b|s::r,d,a,b=>match fj c s d a b with|some (.ok .a1 a b)=>bG c r d a b|x=>x
end
def kM:List Nat->List V->List V->Option ap|[],_,[]=>J λ_=>Y|[],_,_::_=>Y|p::b,a,v::d=>(kM b (if a.length<=b.length then a else a.drop 1) d).map λc=>aB c p v|p::b,d::a,[]=>if a.length=b.length then(kM b a []).map λc=>aB c p d else Y|_::_,[],[]=>Y
noncomputable def lE:cx->R V|some (.ok (.aO v) _ a)=>J (.ok v,a)|some (.ok .a1 _ a)=>J (.ok .a6,a)|some (.a4 n _ a)=>J (.error n,a)|_=>Y
def dT:Nat->Bool->Nat->List V->ae->R V
 |0,_,_,_,_=>Y|n+1,b,k,a,c=>match bN k with
  |some f=>match kM f.params f.np a with|some d=>lE<|bG (dT n) f.body b d c|none=>Y
  |none=>Y
end
section
open PySem PySem.W PySem.Calls PyProof.Rows
abbrev bq:=List<|aE×aE
def fb (H:bq) (b:aE):Prop:=∃p∈H,b=p.1\/b=p.2
structure bT where
 dg:Nat->aE
 ca:Nat->aE
 x5:aE
 yc:List Int
mutual
def aT (L:bT) (h:aY) (H:bq):ai->V->Prop|u,.a6=>u=.none|u,.ad b=>u=.bool b|u,.I i=>∃t,u=.int i t|u,.Z y=>∃x t,x.cps.toList=y/\u=.str x t|u,.av l=>∃(a:aE) (o:dw) (b:Array ai) (n:Nat),h.get? a=J o/\o.cls=.type "tuple"/\o.data=.seq b n/\bg L h H b.toList l/\l.length<=ar/\u=.ref a|u,.ref n=>∃p:aE×aE,H[n]?=J p/\u=.ref p.1|u,.aA k=>u=.ref (L.dg k)|u,.c2 k=>u=.ref (L.ca k)|u,.df l=>l=L.yc/\u=.ref L.x5
def bg (L:bT) (h:aY) (H:bq):List ai->List V->Prop|us,[]=>us=[]|us,v::b=>∃u a,aT L h H u v/\bg L h H a b/\us=u::a
end
variable {L:bT} {h Q j:aY} {H B:bq}
section
variable {u:ai} {us:List ai} {C:ai->Prop} {d:List ai->Prop}
theorem aT.a6:aT L h H .none .a6:=rfl
theorem aT.ad (b:Bool):aT L h H (.bool b)<|.ad b:=rfl
theorem aT.I (i:Int) (t:mh):aT L h H (.int i t)<|.I i:=⟨t,rfl⟩
theorem aT.Z (x:aG) (t:mh):aT L h H (.str x t)<|.Z x.cps.toList:=⟨x,t,rfl,rfl⟩
theorem aT.av {o:dw} {b:Array ai} {l:List V} (x:h.get? a=J o) (y:o.cls=.type "tuple") (z:o.data=.seq b n) (r:bg L h H b.toList l) (k:l.length<=ar):aT L h H (.ref a)<|.av l:=nd a o b n x y z r k rfl
theorem aT.ref {p:aE×aE} (e:H[n]?=J p):aT L h H (.ref p.1)<|.ref n:=⟨p,e,rfl⟩
theorem bg.b_:bg L h H [] []:=rfl
def bg.cons {v:V} {c:List V} (a:aT L h H u v) (b:bg L h H us c):bg L h H (u::us)<|v::c:=⟨u,us,a,b,rfl⟩
@[elab_as_elim] def aT.j4 (a:aT L h H u .a6) (k:C .none):C u:=a.symm.subst k
@[elab_as_elim] def aT.jA (a:aT L h H u<|.ad b) (k:C<|.bool b):C u:=a.symm.subst k
@[elab_as_elim] def aT.b9 (a:aT L h H u<|.I i) (k:∀t,C<|.int i t):C u:=a.elim λt e=>e.symm.subst<|k t
@[elab_as_elim] def aT.d0 (a:aT L h H u<|.Z y) (k:∀x t,x.cps.toList=y->C (.str x t)):C u:=bS a λx t e z=>z.symm.subst<|k x t e
@[elab_as_elim] def aT.e0 {l:List V} (a:aT L h H u<|.av l) (k:∀(a:aE) (o:dw) (b:Array ai) (n:Nat),h.get? a=J o->o.cls=.type "tuple"->o.data=.seq b n->bg L h H b.toList l->l.length<=ar->C (.ref a)):C u:=oN a λa o b n x y z r m e=>e.symm.subst<|k a o b n x y z r m
@[elab_as_elim] def aT.c7 (a:aT L h H u<|.ref n) (k:∀p:aE×aE,H[n]?=J p->C (.ref p.1)):C u:=ah a λp x e=>e.symm.subst<|k p x
@[elab_as_elim] def aT.j5 (a:aT L h H u<|.aA k) (q:C<|.ref<|L.dg k):C u:=a.symm.subst q
@[elab_as_elim] def aT.h4 (a:aT L h H u<|.c2 k) (q:C<|.ref<|L.ca k):C u:=a.symm.subst q
@[elab_as_elim] def aT.j6 (a:aT L h H u<|.df l) (q:l=L.yc->C (.ref L.x5)):C u:=a.2.symm.subst<|q a.1
@[elab_as_elim] def bg.c0 (a:bg L h H us []) (k:d []):d us:=a.symm.subst k
@[elab_as_elim] def bg.b7 (a:bg L h H us<|v::c) (k:∀u b,aT L h H u v->bg L h H b c->d (u::b)):d us:=bF a λu b x y e=>e.symm.subst<|k u b x y
@[elab_as_elim] def bg.e4 (r:bg L h H us [v]) (k:∀u,aT L h H u v->d [u]):d us:=r.b7 λu _ a b=>b.c0 (d:=λus=>d<|u::us)<|k u a
@[elab_as_elim] def bg.i0 (r:bg L h H us [v,x]) (k:∀u y,aT L h H u v->aT L h H y x->d [u,y]):d us:=r.b7 λu _ a b=>b.e4 (d:=λus=>d<|u::us) λy c=>k u y a c
def bg.l7 {P:Prop} (r:bg L h H us [v,x]) (k:∀u y,us=[u,y]->aT L h H u v->aT L h H y x->P):P:=r.i0 (d:=λus=>(∀u y,us=[u,y]->aT L h H u v->aT L h H y x->P)->P) (λu y a b k=>k u y rfl a b) k
end
theorem bg.length {us:List ai} {a:List V}:bg L h H us a->us.length=a.length:=by
 induction a generalizing us with
 |nil=>exactλx=>x.c0 (d:=λus=>us.length=0) rfl|cons v a b=>exactλx=>x.b7 (d:=λus=>us.length=a.length+1) λu us _ y=>al (· +1)<|b y
def bg.d6 {us:List ai} {c:List V} {i:Nat} {v:V}:bg L h H us c->c[i]?=J v->∃u,us[i]?=J u/\aT L h H u v:=by
 induction c generalizing us i with
 |nil=>exactλ_=>aq|cons w c k=>
  refineλx e=>x.b7 (d:=λus=>∃u,us[i]?=J u/\aT L h H u v) λu us a b=> ?_;cases i with
  |zero=>exact⟨u,rfl,am (aH e) a⟩|succ i=>exact k (us:=us) (i:=i) b e
def bg.j7 {us:List ai}:bg L h H us c->bg L h H e i->bg L h H (us++e) (c++i):=by
 induction c generalizing us with
 |nil=>exactλx y=>x.c0 (d:=λus=>bg L h H (us++e) i) y|cons v c k=>exactλx y=>x.b7 (d:=λus=>bg L h H (us++e)<|v::(c++i)) λu us a b=>.cons a<|k b y
theorem bg.drop {us:List ai} {a:List V} (i:Nat):bg L h H us a->bg L h H (us.drop i) (a.drop i):=by
 induction i generalizing us a with
 |zero=>exact id|succ i c=>cases a with|nil=>exactλx=>x.c0 (d:=λus=>bg L h H (us.drop<|i+1) []) .b_|cons v a=>exactλx=>x.b7 (d:=λus=>bg L h H (us.drop<|i+1)<|a.drop i) λu us _ b=>c (us:=us) b
theorem bg.take {us:List ai} {c:List V} (i:Nat):bg L h H us c->bg L h H (us.take i) (c.take i):=by
 induction i generalizing us c with
 |zero=>exactλ_=>.b_|succ i e=>cases c with|nil=>exactλx=>x.c0 (d:=λus=>bg L h H (us.take<|i+1) []) .b_|cons v c=>exactλx=>x.b7 (d:=λus=>bg L h H (us.take<|i+1)<|v::c.take i) λu us a b=>.cons a<|e b
theorem bg.set {us:List ai} {u:ai} {v:V} {c:List V} (i:Nat) (y:aT L h H u v):bg L h H us c->bg L h H (us.set i u) (c.set i v):=by
 induction c generalizing us i with
 |nil=>exactλx=>x.c0 (d:=λus=>bg L h H (us.set i u) []) .b_|cons w c e=>cases i with|zero=>exactλx=>x.b7 (d:=λus=>bg L h H (us.set 0 u)<|v::c) λ_ us _ b=>.cons y b|succ i=>exactλx=>x.b7 (d:=λus=>bg L h H (us.set (i+1) u)<|w::c.set i v) λ_ us a b=>.cons a<|e i b
def bg.j8 {us:List ai} {a:List V} {u:ai} {v:V} (x:bg L h H us a) (y:aT L h H u v):bg L h H (us++[u])<|a++[v]:=x.j7<|.cons y .b_
theorem bg.reverse {us:List ai} {c:List V}:bg L h H us c->bg L h H us.reverse c.reverse:=by
 induction c generalizing us with
 |nil=>exactλx=>x.c0 (d:=λus=>bg L h H us.reverse []) .b_|cons v c e=>exactλx=>x.b7 (d:=λus=>bg L h H us.reverse (v::c).reverse) λu us a b=>(by simp only[List.reverse_cons];exact(e b).j8 a)
def wv (H:bq) (h Q:aY):Prop:=∀b o,h.get? b=J o->¬fb H b->∃a,Q.get? b=J {o with slots:=a}/\((∀c e,o.data≠.dict c e)->a=o.slots)
def eZ (h Q:aY):Prop:=∀b o,h.get? b=J o->(o.cls=.type "tuple"/\∃a n,o.data=.seq a n)->Q.get? b=J o
def nn (H B:bq):Prop:=∀(n:Nat) p,H[n]?=J p->B[n]?=J p
def aT.a2 {u:ai} (k:eZ h Q) (m:nn H B):aT L h H u v->aT L Q B u v:=
 V.rec (motive_1:=λv=>∀u,aT L h H u v->aT L Q B u v) (motive_2:=λl=>∀us,bg L h H us l->bg L Q B us l)
  (λ_ a=>a) (λ_ _ a=>a) (λ_ _ a=>a) (λ_ _ a=>a)
  (λl t u a=>a.e0 (C:=λu=>aT L Q B u<|.av l) λc o i n e b z r q=>.av (k c o e<|.intro b ⟨i,n,z⟩) b z (t _ r) q)
  (λn u a=>a.c7 (C:=λu=>aT L Q B u<|.ref n) λp e=>.ref<|m n p e) (λ_ _ a=>a) (λ_ _ a=>a) (λ_ _ a=>a)
  (λ_ a=>a) (λv c i b us a=>a.b7 (d:=λus=>bg L Q B us<|v::c) λu us x y=>.cons (i u x)<|b us y) v u
theorem bg.a2 {us:List ai} (k:eZ h Q) (m:nn H B):bg L h H us b->bg L Q B us b:=by
 induction b generalizing us with
 |nil=>exact id|cons v b c=>exactλa=>a.b7 (d:=λus=>bg L Q B us<|v::b) λu us x y=>.cons (x.a2 k m)<|c y
def nn.b1 (H:bq):nn H H:=λ_ _ e=>e
def aT.c3 {u:ai} {v:V} (k:eZ h Q) (r:aT L h H u v):aT L Q H u v:=r.a2 k<|.b1 H
def bg.c3 {us:List ai} {a:List V} (k:eZ h Q) (r:bg L h H us a):bg L Q H us a:=r.a2 k<|.b1 H
def F2 {b:Type} {l m:List b} {n:Nat} {a:b} (e:l[n]?=J a):(l++m)[n]?=J a:=(iW (cK.mp e).1).trans e
def nn.iw (H a:bq):nn H<|H++a:=λ_ _ e=>F2 e
def eZ.b1 (h:aY):eZ h h:=λ_ _ e _=>e
theorem aT.iw {u:ai} (a:bq) (r:aT L h H u v):aT L h (H++a) u v:=r.a2 (.b1 h)<|.iw H a
def cO (a:Nat):aG:=eo<|fu.getD a ""
def gx (L:bT) (h:aY) (H:bq):List hG->List (Nat×V)->Prop|b,[]=>b=[]|b,x::c=>∃e a,x.1<fu.length/\(∃t,e.key=.str (cO x.1) t)/\aT L h H e.val x.2/\gx L h H a c/\b=e::a
theorem gx.b_:gx L h H [] []:=rfl
def gx.cons {e:hG} (x:a<fu.length) (y:∃t,e.key=.str (cO a) t) (r:aT L h H e.val v) (z:gx L h H b c):gx L h H (e::b)<|(a,v)::c:=ft e b x y r z rfl
@[elab_as_elim] def gx.c0 {d:List hG->Prop} (a:gx L h H b []) (k:d []):d b:=a.symm.subst k
@[elab_as_elim] def gx.b7 {x:Nat×V} {d:List hG->Prop} (a:gx L h H c<|x::i) (k:∀e b,x.1<fu.length->(∃t,e.key=.str (cO x.1) t)->aT L h H e.val x.2->gx L h H b i->d (e::b)):d c:=gz a λe b x y r z q=>q.symm.subst<|k e b x y r z
theorem gx.a2 (k:eZ h Q) (m:nn H B):gx L h H b c->gx L Q B b c:=by
 induction c generalizing b with
 |nil=>exact id|cons x c i=>exactλa=>a.b7 (d:=λb=>gx L Q B b<|x::c) λe b p q r z=>.cons p q (r.a2 k m)<|i z
noncomputable def oc:List Nat:=[1,2,4,5,6,7]
def ej (A:cn) (w:bQ) (L:bT) (h:aY) (H:bq) (p:aE×aE):O->Prop
 |.X l=>p.2=p.1/\∃a n,h.get? p.1=J (yT a n)/\bg L h H a.toList l/\l.length<=ar|.dE=>p.2=p.1/\∃o a,h.get? p.1=J o/\o.ExactDict/\o.data=.dict #[] a|.dI l=>p.2=p.1/\∃a:List<|Int×ai,h.DictOf (ll A w) p.1 a/\a.map (·.1)=l.map (·.1)/\bg L h H (a.map (·.2)) (l.map (·.2))|.dS l=>p.2=p.1/\∃a:List<|aG×ai,h.DictOf (K6 A w) p.1 a/\a.map (λx=>x.1.cps.toList)=l.map (·.1)/\bg L h H (a.map (·.2)) (l.map (·.2))|.dT l=>p.2=p.1/\∃a:List<|List Int×aE×ai,h.DictOfH (Df<|ll A w) p.1 a/\a.map (·.1)=l.map (·.1)/\bg L h H (a.map (·.2.2)) (l.map (·.2))|.set l=>p.2=p.1/\l.Nodup/\h.SetOf (ll A w) p.1 (λi=>l.contains i) l.length|.a3 c e=>c∈oc/\(if c=1\/c=7 then∃a:Array ai,h.get? p.1=J {cls:=.ref<|L.ca c,dict:=J p.2,data:=.fields a}/\a.size=6/\a[2]?=J .none/\(c=1->a[1]?=J .none)
   else h.get? p.1=J (pP (L.ca c) p.2))/\p.1≠p.2/\∃b n,h.get? p.2=J (jp b n)/\gx L h H b e
variable {A:cn} {w:bQ} {p:aE×aE} {o:O}
def n_ (h:aY) (a:aE):Prop:=∃b,h.get? a=J b/\b.cls≠.type "tuple"/\b.cls≠.type "frame"
def n_.g1 {c:dw} (e:h.get? a=J c) (t:c.cls=.type b) (n:(b !="tuple"&&b !="frame")=ac):n_ h a:=by have n:=nI.mp n;exact cM c e (λz=>bne_iff_ne.mp n.1<|WZ<|t.symm.trans z) λz=>bne_iff_ne.mp n.2<|WZ<|t.symm.trans z
def ej.e7 (x:ej A w L h H p o):n_ h p.1/\n_ h p.2:=by
 have i:p.2=p.1->n_ h p.1->n_ h p.1/\n_ h p.2:=λe a=>⟨a,U e a⟩;cases o with
 |X l=>exact i x.1<|bF x.2 λ_ _ a _ _=>.g1 a rfl rfl|dE=>exact i x.1<|bF x.2 λ_ _ a b _=>.g1 a b.1 rfl|dI l=>exact i x.1<|ah x.2 λ_ a _=>a.elim λ_ a=>a.elim λ_ a=>a.elim λ_ a=>.g1 a.1 a.2.1.1 rfl|dS l=>exact i x.1<|ah x.2 λ_ a _=>a.elim λ_ a=>a.elim λ_ a=>a.elim λ_ a=>.g1 a.1 a.2.1.1 rfl|dT l=>exact i x.1<|ah x.2 λ_ a _=>a.elim λ_ a=>a.elim λ_ a=>a.elim λ_ a=>.g1 a.1 a.2.1.1 rfl|set l=>exact i x.1<|x.2.2.elim λ_ a=>a.elim λ_ a=>a.elim λ_ a=>a.elim λ_ a=>.g1 a.1 a.2.1.1 rfl|a3 c m=>
  refine⟨?_,bS x.2.2.2 λ_ _ b _=>.g1 b rfl rfl⟩;have l:∀{k:dw},h.get? p.1=J k->k.cls=.ref (L.ca c)->n_ h p.1:=λ{k} e t=>cM k e (λz=>nomatch t.symm.trans z) λz=>nomatch t.symm.trans z;have a:=x.2.1;refine aZ (c=1\/c=7) (λq=> ?_)<|λq=> ?_
  ·exact((aK q).mp a).elim λ_ b=>l b.1 rfl
  ·exact l ((aX q).mp a) rfl
theorem ej.a2 (x:ej A w L h H p o) (r:∀t,h.get? p.1=J t->Q.get? p.1=J t) (v:∀t,h.get? p.2=J t->Q.get? p.2=J t) (k:eZ h Q) (m:nn H B):ej A w L Q B p o:=by
 cases o with
 |X l=>exact⟨x.1,bF x.2 λi n a b z=>dD i n (r _ a) (b.a2 k m) z⟩|dE=>exact⟨x.1,bF x.2 λo n a b z=>dD o n (r _ a) b z⟩|dI l=>exact⟨x.1,bR x.2 λl a b c=>cM l (a.at r) b<|c.a2 k m⟩|dS l=>exact⟨x.1,bR x.2 λl a b c=>cM l (a.at r) b<|c.a2 k m⟩|dT l=>exact⟨x.1,bR x.2 λl a c e=>cM l (nV a λt z C a D E F I K=>ls t z C (r _ a) D E F (λy M=>eY (I y M) λN i n O q u=>iY N i n (k _ _ O ⟨q,_,_,u.1⟩) q u) K) c<|e.a2 k m⟩|set l=>exact⟨x.1,x.2.1,x.2.2.imp λ_ a=>a.imp λ_ a=>a.imp λ_ a=>a.imp λ_ a=>⟨r _ a.1,a.2⟩⟩|a3 c i=>
  refine⟨x.1,?_,x.2.2.1,bS x.2.2.2 λe n b c=>cZ e n (v _ b)<|c.a2 k m⟩;have a:=x.2.1;refine aZ (c=1\/c=7) (λq=> ?_)<|λq=> ?_
  ·exact(aK q).mpr<|((aK q).mp a).imp λ_ b=>⟨r _ b.1,b.2⟩
  ·exact(aX q).mpr<|r _<|(aX q).mp a
def ej.keep (x:ej A w L h H p o) (b:∀a,h.get? p.1=J a->Q.get? p.1=J a) (c:∀a,h.get? p.2=J a->Q.get? p.2=J a) (k:eZ h Q):ej A w L Q H p o:=x.a2 b c k<|.b1 H
theorem ej.iw (a:bq) (x:ej A w L h H p o):ej A w L h (H++a) p o:=x.a2 (λ_ e=>e) (λ_ e=>e) (.b1 h)<|.iw H a
structure dy (A:cn) (w:bQ) (L:bT) (g:aY) (H:bq) (s:ae) (h:aY):Prop where
 bb:H.length=s.length
 objs:∀(n:Nat) (o:O) (p:aE×aE),s[n]?=J o->H[n]?=J p->ej A w L h H p o
 gO:∀(i j:Nat) (p q:aE×aE),H[i]?=J p->H[j]?=J q->i≠j->p.1≠q.1/\p.1≠q.2/\p.2≠q.1/\p.2≠q.2
 gJ:∀p∈H,g.get? p.1=Y/\g.get? p.2=Y/\lm<p.1
variable {g:aY} {s f:ae}
def P2 {c h:Type} {l:List c} {m:List h} {n:Nat} {a:c} (e:l[n]?=J a) (z:l.length=m.length):∃b,m[n]?=J b:=⟨_,fd<|am z<|(cK.mp e).1⟩
def dy.q5 (S:dy A w L g H s h) {n:Nat} {p:aE×aE} (e:H[n]?=J p):∃o,s[n]?=J o/\ej A w L h H p o:=(P2 e S.bb).imp λo q=>⟨q,S.objs n o p q e⟩
theorem dy.e7 (S:dy A w L g H s h) {b:aE} (x:fb H b):n_ h b:=x.elim λp x=>(VE x.1).elim λi e=>(S.q5 e).elim λo y=>x.2.elim (λz=>U z y.2.e7.1) λz=>U z y.2.e7.2
def dy.j9 (S:dy A w L g H s h) {a:dw} (e:h.get? b=J a) (c:a.cls=.type "tuple"):¬fb H b:=λx=>(λc=>bR (S.e7 x) λk i n _=>n<|U (aH<|i.symm.trans e) c) c
def lB {o:dw} (x:h.get? a=Y) (y:h.get? b=J o):b≠a:=λe=>aq<|x.symm.trans<|am e y
def dy.q6 (S:dy A w L g H s h) {o:dw} (e:g.get? b=J o):¬fb H b:=λx=>x.elim λp x=>have l:=S.gJ p x.1;x.2.elim (lB l.1 e) (lB l.2.1 e)
theorem dy.keep (S:dy A w L g H s h) (k:∀b o,h.get? b=J o->Q.get? b=J o):dy A w L g H s Q:=⟨S.bb,λn o p a b=>(S.objs n o p a b).keep (k _) (k _) λb o e _=>k b o e,S.gO,S.gJ⟩
def dy.aB (S:dy A w L g H s h) {o:O} (k:H[n]?=J p) (l:b=p.1\/b=p.2) (t:nb b h Q) (r:ej A w L Q H p o) (u:eZ h Q):
  dy A w L g H (s.set n o) Q:=by
 refine⟨S.bb.trans lZ.symm,λm v q a c=> ?_,S.gO,S.gJ⟩;refine aZ (n=m) (λe=> ?_)<|λe=> ?_
 ·subst e
  have a:=(gX<|am S.bb<|(cK.mp k).1).symm.trans a;exact am (aH<|k.symm.trans c)<|am (aH a) r
 ·have i:=S.gO n m p q k c e
  exact(S.objs m v q ((ge e).symm.trans a) c).keep (λy e=>(t.2 _<|l.elim (λz x=>i.1<|z.symm.trans x.symm) λz x=>i.2.2.1<|z.symm.trans x.symm).trans e)
   (λy e=>(t.2 _<|l.elim (λz x=>i.2.1<|z.symm.trans x.symm) λz x=>i.2.2.2<|z.symm.trans x.symm).trans e) u
def dy.e8 (S:dy A w L g H s h) (a:fb H b) (i:nb b h Q):eZ h Q:=λc k e q=>(i.2 c λx=>S.j9 e q.1<|U x a).trans e
def pi {c:Type} {l:List c} {a b:c} {n:Nat} (e:(l++[a])[n]?=J b):l[n]?=J b\/n=l.length/\b=a:=by
 refine gf (Nat.lt_or_ge n l.length) (λz=> ?_)<|λz=> ?_
 ·exact .inl<|(iW z).symm.trans e
 ·have e:=(mY z).symm.trans e;cases q:n-l.length with
  |zero=>exact .inr ⟨iD (Nat.sub_eq_zero_iff_le.mp q) z,(aH (q▸e:[a][0]?=J b)).symm⟩|succ k=>exact aq (q▸e:[a][k+1]?=J b)
def qx {l:List b}:(l++[a])[l.length]?=J a:=dJ
def qR {l:List b} (e:l[n]?=J a):n<l.length:=(cK.mp e).1
def dy.iJ (S:dy A w L g H s h) (k:∀b o,h.get? b=J o->Q.get? b=J o) (r:ej A w L Q (H++[p]) p o) (v:h.get? p.1=Y) (x:h.get? p.2=Y)
  (C:g.get? p.1=Y) (D:g.get? p.2=Y) (E:lm<p.1):dy A w L g (H++[p]) (s++[o]) Q:=by
 have u:∀{t:Nat} {q:aE×aE},H[t]?=J q->(q.1≠p.1/\q.1≠p.2)/\q.2≠p.1/\q.2≠p.2:=λ{t q} e=>
  have m:=em e
  ah (S.e7 ⟨q,m,.inl rfl⟩) λ_ a _=>ah (S.e7 ⟨q,m,.inr rfl⟩) λ_ b _=>⟨⟨lB v a,lB x a⟩,lB v b,lB x b⟩
 refine⟨?_,λn m q a c=> ?_,λi t q F a c e=> ?_,λq I=> ?_⟩
 ·refine U bH<|U bH<|U S.bb ?_;rfl
 ·refine(pi c).elim (λy=> ?_) λy=> ?_
  ·exact((S.keep k).objs n m q ((iW<|am S.bb<|qR y).symm.trans a) y).iw _
  ·exact have a:(s++[o])[s.length]?=J m:=am S.bb<|am y.1 a;(U y.2<|am (aH<|qx.symm.trans a) r)
 ·refine(pi a).elim (λy=>(pi c).elim (λz=>S.gO i t q F y z e) λz=> ?_) λy=>(pi c).elim (λz=> ?_) λz=>(e<|y.1.trans z.1.symm).elim
  ·exact have l:=u y;(U z.2 ⟨l.1.1,l.1.2,l.2.1,l.2.2⟩)
  ·exact have l:=u z;(U y.2 ⟨l.1.1.symm,l.2.1.symm,l.1.2.symm,l.2.2.symm⟩)
 ·exact(fB.mp I).elim (S.gJ q) λa=>by refine U (dk.mp a) ?_;exact⟨C,D,E⟩
def dy.b_ (h:aY):dy A w L g [] [] h:=⟨rfl,λ_ _ _=>aq,λ_ _ _ _=>aq,λ_=>eG (l:=[])⟩
def ye {a:dw} {h:aY} (q:c=a.slots) (e:h.get? b=J {a with slots:=c}):h.get? b=J a:=by subst q;exact e
structure dr (H:bq) (h:aY) (B:bq) (Q:aY):Prop where
 df:∃ν,B=H++ν/\∀p∈ν,h.get? p.1=Y/\h.get? p.2=Y
 gI:wv H h Q
def wv.h0 (k:∀b o,h.get? b=J o->Q.get? b=J o):wv H h Q:=λb o e _=>⟨o.slots,k b o e,λ_=>rfl⟩
def dr.i1 (k:wv H h Q):dr H h H Q:=⟨⟨[],(dI H).symm,λ_=>eG (l:=[])⟩,k⟩
theorem dr.h0 (k:∀b o,h.get? b=J o->Q.get? b=J o):dr H h H Q:=.i1<|.h0 k
def dr.b1 (H:bq) (h:aY):dr H h H h:=.i1<|.h0 λ_ _ e=>e
def dr.q7 (a:fb H b) (i:nb b h Q):dr H h H Q:=.i1<|λc o e n=>⟨o.slots,(i.2 c λx=>n<|U x a).trans e,λ_=>rfl⟩
def dr.l8 (k:∀b o,h.get? b=J o->Q.get? b=J o) (a:h.get? p.1=Y) (c:h.get? p.2=Y):dr H h (H++[p]) Q:=⟨⟨[p],rfl,λq e=>by refine U (dk.mp e) ?_;exact⟨a,c⟩⟩,.h0 k⟩
def w8 {o:dw} (x:fb (H++a) c) (e:h.get? c=J o) (q:∀p∈a,h.get? p.1=Y/\h.get? p.2=Y):fb H c:=x.elim λp x=>(fB.mp x.1).elim (λm=>⟨p,m,x.2⟩) λm=>have:=q p m;x.2.elim (λz=>(lB this.1 e z).elim) λz=>(lB this.2 e z).elim
def dr.b5 {h:aY} (S:dy A w L g B s Q) (a:dr i h B Q) (e:Q.get? c=Y):h.get? c=Y:=by
 cases q:h.get? c with
 |none=>rfl|some k=>
  refine ah a.df λl z _=> ?_;refine aZ (fb i c) (λm=> ?_)<|λm=> ?_
  ·exact m.elim λp m=>ah (S.e7 (b:=c) ⟨p,U z<|vQ _ m.1,m.2⟩) λ_ y _=>aq<|e.symm.trans y
  ·exact ah (a.gI c k q m) λ_ y _=>aq<|e.symm.trans y
theorem dr.trans {h i k:bq} {m l o:aY} (S:dy A w L g i s l) (a:dr h m i l) (b:dr i l k o):dr h m k o:=ah a.df λE z t=>ah b.df λu I r=>⟨⟨E++u,I.trans<|U z<|bD h E u,λp J=>(fB.mp J).elim (t p) λq=>⟨a.b5 S (r p q).1,a.b5 S (r p q).2⟩⟩,λc K e n=>ah (a.gI c K e n) λN M y=>ah (b.gI c _ M λx=>n<|w8 (am z x) e t) λC D v=>⟨C,D,λF=>(v F).trans<|y F⟩⟩
def dr.e8 (S:dy A w L g H s h) (a:dr H h B Q):eZ h Q:=λb o e c=>ah (a.gI b o e<|S.j9 e c.1) λm l q=>fq c.2 λi n k=>ye (q λ_ _ z=>nomatch k.symm.trans z) l
def dr.sub (a:dr H h B Q):nn H B:=ah a.df λb z _=>U z<|.iw H b
def dr.d2 {u:ai} {v:V} (S:dy A w L g H s h) (a:dr H h B Q) (r:aT L h H u v):aT L Q B u v:=r.a2 (a.e8 S) a.sub
def dr.h1 {us:List ai} (S:dy A w L g H s h) (a:dr H h B Q) (r:bg L h H us b):bg L Q B us b:=r.a2 (a.e8 S) a.sub
def dr.eg (a:dr H h B Q) {c:dw} (e:h.get? b=J c) (n:¬fb H b) (i:∀k l,c.data≠.dict k l):Q.get? b=J c:=ah (a.gI b c e n) λo m q=>ye (q i) m
def dr.mu (a:dr H h B Q) {n:Nat} (e:H[n]?=J p):B[n]?=J p:=a.sub n p e
end
section
set_option genInjectivity false
open PySem PySem.W PySem.Calls PyProof.Rows
noncomputable def uf:List<|String×ai:=[("len",.builtin "len"),("isinstance",.builtin "isinstance"),("tuple",.type "tuple"),("list",.type "list"),("set",.type "set"),("sum",.builtin "sum"),("ord",.builtin "ord"),("range",.type "range"),("enumerate",.type "enumerate"),("str",.type "str"),("bool",.type "bool")]
def lz:aG->Option ai:=nH uf
def BY {a:Type} {x:aG} {v:a} {l:List<|String×a}:nH l x=J v->∃p∈l,eo p.1=x/\p.2=v:=by
 induction l with
 |nil=>exact aq
 |cons p l b=>
  refineλh=> ?_
  have h:(if eo p.1==x then J p.2 else nH l x)=J v:=h
  cases e:eo p.1==x with
  |true=>rw[e]at h;exact cM p (.head _) (cY e)<|aH h
  |false=>rw[e]at h;exact(b h).imp λq z=>⟨.tail _ z.1,z.2⟩
def wH (K:eQ) (C:aE) (a:Nat):Bool:=match hI K (.ref C) (cO a)with
 |some x=>noGet K x
 |none=>aa
def nD (a:Nat):aG:=eo<|qI.getD a ""
noncomputable def mP:List ai->Bool|.ref _::a=>mP a|l=>l==[.type "Exception",.type "BaseException",.type "object"]
structure DD (K:eQ) (Q:bT):Prop where
 eg:Q.ca 7=Q.ca 1
 Ai:hI K (.ref<|Q.ca 1) "__setattr__"=J (J<|.builtin "object.__setattr__")
 Aj:tD K (Q.ca 1) (cO 0)=J Y
 wV:((wd K<|Q.ca 1).any λcd=>mP cd.mro)=ac
 sN:∀c∈oc,yS K (Q.ca c)=ac/\(¬(c=1\/c=7)->KW K (Q.ca c) ("":aG)=ac)
 wU:hI K (.ref<|Q.ca 1) "__getattribute__"=J (J<|.builtin "BaseException.__getattribute__")/\hI K (.ref<|Q.ca 1) "__getattr__"=J Y
 attr:∀c∈oc,∀a<fu.length,wH K (Q.ca c) a=ac
 BO:∀c∈oc,¬(c=1\/c=7)->CZ K (Q.ca c)=ac/\hI K (.ref<|Q.ca c) "__setattr__"=J (J<|.builtin "object.__setattr__")/\∀a<fu.length,tD K (Q.ca c) (cO a)=J Y
 init:∀c k,pe.lookup c=J k->KU K (Q.ca c)=ac/\hI K (.ref<|Q.ca c) "__init__"=J (J<|.ref<|Q.dg k)/\typeIn K (.ref<|Q.dg k)=J (.type "function")/\tC K (.ref<|Q.ca c)=ac
 jK:∀c m k,kX.lookup (c,m)=J k->hI K (.ref<|Q.ca c) (nD m)=J (J<|.ref<|Q.dg k)/\typeIn K (.ref<|Q.dg k)=J (.type "function")
class inductive zo (Q:bT) (j:aY):Prop
 |mk (nm q:aG) (N:aE) (bs bm bmB:List ai) (hdct:Bool) (sn:List aG) (sub:List ai) (ab:Bool) (col:Option Bool) (dd:Option aE) (k0 k1 k2 k3 k5:Option ai) (newId initId:String) (mN:aG->Option ai) (oI:dw):
  j.get? (Q.ca 1)=J (K2 nm q (Q.ca 1) N bs bm hdct sn sub ab col dd k0 k1 k2 k3 k5 newId)->WB "Exception" newId initId bmB->OwnTail j bmB bm->j.Ns N mN->mN "__init__"=J (.ref<|Q.dg 1)->
  j.get? (Q.dg 1)=J oI->oI.cls=.type "function"->zo Q j
class inductive zq (Q:bT) (j:aY) (k:Nat) (d:he):Prop
 |mk (o:dw) (fd:oD):j.get? (Q.dg k)=J o->o.data=.func fd->fd.params=d.args->fd.body=.stmts d.body->fd.scope=d.scope->fd.globals=js->fd.builtins=tE->fd.closure=[]->j.CodeRec fd.code fd.qualname->
  ((fd.defaults=.none/\d.args.defaults=[])\/∃(T:aE) (oT:dw) (items:Array ai) (n:Nat) (ds:List V),fd.defaults=.ref T/\j.get? T=J oT/\oT.data=.seq items n/\iy nA d.args.defaults=J ds/\bg Q j [] items.toList ds)->zq Q j k d
structure de (L:cn) (w:bQ) (Q:bT) (j:aY) where
 K:eQ
 qc:K.In j
 xB:aG->Option ai
 Bc:aG->Option ai
 g:j.Ns js xB
 b:j.Ns tE Bc
 HE:j.NoLimit
 glob:∀x v,nH qz x=J v->∃u,xB x=J u/\aT Q j [] u v
 bZ:∀x u,lz x=J u->xB x=Y/\Bc x=J u
 IK:∃items,j.IsList Q.x5 items/\nN items.toList Q.yc/\Q.yc.length<=ar
 hk:DD K Q
 dN:zo Q j
 FQ:∀(k:Nat) d,kQ[k]?=J d->zq Q j k d
 Gy:∀(k:Nat) d,kQ[k]?=J d->tC K (.ref<|Q.dg k)=ac
def qb (j:aY) (B:bq) (h:aY) (c:List eE):Prop:=∀b∈c,b.scope.kind=.function/\∃a o e f,b.frame=J a/\j.get? a=Y/\h.get? a=J o/\o.data=.dict e f/\¬fb B a
structure cj where
 env:eE
 A:en
 c:dR
 az:Bool
 fr:List eE
def zB (A:en) (n:Nat):Prop:=A.depth+3*n<=990/\A.units+20*n<=8000
def HA (b:eE) (x:aG):Prop:=b.kindOf x=J .local\/((b.kindOf x=J .cell\/b.kindOf x=J .free)/\∃a,b.cells.lookup x=J a)
structure nl (f:cj) (sc:eA):Prop where
 kind:sc.kind=.function
 Bk:qD sc.names=ac
 cell:∀x∈sc.names,x.2≠.cell
 sj:∀x,(x,kA)∈sc.names->(f.env.kindOf x=J .cell\/f.env.kindOf x=J .free)/\∃a,f.env.cells.lookup x=J a
 EO:∀x∈sc.names,(x.1==("__debug__":aG))=aa/\(x.1==("__classdict__":aG))=aa
 gJ:∀x i,f.c.loc x=J i->i<100
structure cL (f:cj):Prop where
 kind:f.env.scope.kind=.function
 sm:f.env.globals=js
 uj:f.env.builtins=tE
 loc:∀x i,f.c.loc x=J i->HA f.env x/\(x==("__debug__":aG))=aa/\(x==("__classdict__":aG))=aa
 inj:∀x y i,f.c.loc x=J i->f.c.loc y=J i->x=y
 gl:∀x,f.c.gl x=ac->f.env.kindOf x=J .globalImplicit
 glob:f.c.glob=nH qz
 attr:f.c.attr=qM fu 0
 jK:f.c.jK=qM qI 0
 exc:f.c.exc=λx=>x==("PrologError":aG)
 fv:f.A.frames=J f.fr
 un:∀x y a,f.env.cells.lookup x=J a->f.env.cells.lookup y=J a->x=y
 pF:f.A.units<=8000
 wQ:f.A.depth<=990
 fh:∀sc,f.c.xO sc=ac->nl f sc
 of:∀x,f.c.of x=ac->f.env.kindOf x=J .local
structure oO (Q:bT) (f:cj) (d:ap) (B:bq) (h:aY):Prop where
 fy:∃m,h.Ns f.env.locals m/\∀x i v,f.c.loc x=J i->d i=J v->f.env.kindOf x=J .local->∃u,m x=J u/\aT Q h B u v
 cell:∀x a,f.env.cells.lookup x=J a->∃o,h.IsCell a o/\∀i v,f.c.loc x=J i->d i=J v->f.env.kindOf x≠J .local->∃u,o=J u/\aT Q h B u v
 oh:¬fb B f.env.locals
 jf:∀x a,f.env.cells.lookup x=J a->¬fb B a/\(∃o v,h.get? a=J o/\o.data=.cell v)
 gO:∀x a,f.env.cells.lookup x=J a->a≠f.env.locals
def kG (A:en) (a:Bool) (B:bq) (H:ae):Prop:=if a=ac then∃(n:Nat) (p:aE×aE) (b:List<|Nat×V),A.handled=J (.ref p.1)/\B[n]?=J p/\H[n]?=J (O.a3 7 b)else A.handled=Y
def gA (H m:ae):Prop:=∀(n:Nat) (o:O),H[n]?=J o->∃a,m[n]?=J a/\(dm a=dm o\/(dm o=4/\dm a=10))
def gA.b1 (H:ae):gA H H:=λn o e=>ax o e<|.inl rfl
theorem gA.trans {c f g:ae} (a:gA c f) (b:gA f g):gA c g:=λn o e=>ah (a n o e) λ_ p k=>ah (b n _ p) λi l q=>(ax i l<|(
  q.elim (λe=>U e k) λz=>k.elim (λe=>.inr ⟨e▸z.1,z.2⟩) λh=>bt (h.2.symm.trans z.1)<|by decide))
def gA.c4 (H:ae) (o:O):gA H<|H++[o]:=λn a e=>ax a (F2 e)<|.inl rfl
theorem gA.set {H:ae} {n:Nat} {o b:O} (e:H[n]?=J o) (h:dm b=dm o\/(dm o=4/\dm b=10)):gA H<|H.set n b:=λa q c=>by
 refine aZ (n=a) (λz=> ?_)<|λz=> ?_
 ·exact ax b (am z<|gX<|qR e)<|aH ((z▸e).symm.trans c)▸h
 ·exact⟨q,(ge z).trans c,.inl rfl⟩
def A5 (e:dm o=3+c):∃b,o=.a3 c b:=by
 have f:∀{n:Nat} {C:Prop},n=3+c->n<3->C:=λe l=>(oB.mpr (ck 3 c)<|e▸l).elim;cases o with
 |a3 a b=>exact⟨b,CG (n:=3) e▸rfl⟩|X l=>exact f (n:=0) e (by decide)|set l=>exact f (n:=2) e (by decide)|_=>exact f (n:=1) e<|by decide
theorem gA.a3 {H m:ae} (k:gA H m) {n:Nat} {a:List<|Nat×V} (e:H[n]?=J (.a3 7 a)):∃b,m[n]?=J (.a3 7 b):=ah (k n _ e) λf g q=>Exists.imp (λa (z:f=.a3 7 a)=>am z g)<|A5 (c:=7)<|q.elim id λz=>bt z.1 (show(10:Nat)≠4 by decide)
def gA.kind {H m:ae} (k:gA H m) {n:Nat} {o:O} (e:H[n]?=J o) (h:dm o≠4):∃a,m[n]?=J a/\dm a=dm o:=(k n _ e).imp λa q=>⟨q.1,q.2.elim id λz=>(h z.1).elim⟩
def nB {c e:Type} [BEq c] [LawfulBEq c] {a:c} {b:e} {l:List<|c×e}:l.lookup a=J b->(a,b)∈l:=by
 induction l with
 |nil=>exact aq|cons x l f=>
  intro h
  have h:(match a==x.1 with|true=>J x.2|false=>l.lookup a)=J b:=h;cases q:a==x.1 with
  |true=>rw[q]at h;exact am (aH h)<|U (cY q) rb|false=>rw[q]at h;exact ra _<|f h
def Hq (h:kX.lookup (c,a)=J k):¬(c=1\/c=7):=
 have b:∀x∈kX,¬(x.1.1=1\/x.1.1=7):=by decide
 b _ (nB h)
structure bc (L:cn) (w:bQ) (Q:bT) (j:aY) (f:cj) (d:ap) (B:bq) (H:ae) (s:aJ):Prop where
 bC:dy L w Q j B H s.heap
 cs:∀b o,j.get? b=J o->s.heap.get? b=J o
 jQ:∃b o,j.get? b=J o/\lm<=b
 env:oO Q f d B s.heap
 fv:qb j B s.heap f.fr
 gF:kG f.A f.az B H
 gJ:∀b,(b=f.env.locals\/∃x,f.env.cells.lookup x=J b)->j.get? b=Y
def nk (s t:aJ):Prop:=∃h a,t={s with heap:=h,toks:=a}
def nk.b1 (s:aJ):nk s s:=dn s.heap s.toks rfl
theorem nk.trans {f g i:aJ} (a:nk f g) (b:nk g i):nk f i:=fq a λ_ _ e=>fq b λh c k=>dn h c<|k.trans<|U e rfl
variable {L:cn} {w:bQ} {Q:bT} {j h r:aY} {B y:bq} {H m:ae} {f:cj} {d:ap} {s t:aJ}
def xJ (a:dr B h y r) (n:¬fb B b) (e:h.get? b=J o):¬fb y b:=λx=>ah a.df λc z q=>n<|w8 (am z x) e q
def oO.cI (S:dy L w Q j B H h) (a:dr B h y r) (E:oO Q f d B h):oO Q f d y r:=by
 have k:∀{o:Option ai} {v:V},(∃u,o=J u/\aT Q h B u v)->∃u,o=J u/\aT Q r y u v:=λx=>x.imp λu g=>⟨g.1,a.d2 S g.2⟩
 refine⟨ah E.fy λs A D=>(ax s (
   eY A λo n z F b c=>ah (a.gI f.env.locals o F E.oh) λC e _=>iY {o with slots:=C} n z e b c)<|λx i v p q l=>k<|D x i v p q l),λx c e=>ah (E.cell x c e) λo i g=>ax o (?_)<|λi v p q l=>k<|g i v p q l,
  ah E.fy λs A _=>eY A λ_ _ _ e _ _=>xJ a E.oh e,λx c e=>bx (E.jf x c e) λn z=>bS z λo v b l=>⟨xJ a n b,o,v,a.eg b n λ_ _ z=>(nomatch l.symm.trans z),l⟩,E.gO⟩
 exact i.elim λl b=>ah (a.gI c l b.1 (E.jf x c e).1) λC z _=>ax _ z<|b.2
def qb.cI (a:dr B h y r) (E:qb j B h e):qb j y r e:=λc f=>⟨(E c f).1,ju (E c f).2 λb o k l n p g q i=>ah (a.gI b o g i) λs z _=>j_ b {o with slots:=s} k l n p z q<|xJ a i g⟩
def kG.cI (a:dr B h y r) (k:gA H m) (b:kG A c B H):kG A c y m:=by
 cases c with
 |false=>exact b|true=>exact eY b λn p _ e f g=>(k.a3 g).elim λi l=>iY n p i e (a.mu f) l
theorem bc.cI (I:bc L w Q j f d B H s) (a:dr B s.heap y t.heap) (S:dy L w Q j y m t.heap) (c:∀b o,j.get? b=J o->t.heap.get? b=J o)
  (k:gA H m):bc L w Q j f d y m t:=
 ⟨S,c,I.jQ,I.env.cI I.bC a,I.fv.cI a,I.gF.cI a k,I.gJ⟩
theorem bc.keep (I:bc L w Q j f d B H s) (k:∀b o,s.heap.get? b=J o->t.heap.get? b=J o):bc L w Q j f d B H t:=I.cI (.h0 k) (I.bC.keep k) (λb o e=>k b o<|I.cs b o e)<|.b1 _
theorem bc.toks (I:bc L w Q j f d B H s) (a:Nat):bc L w Q j f d B H {s with toks:=a}:=⟨I.bC,I.cs,I.jQ,I.env,I.fv,I.gF,I.gJ⟩
theorem bc.aB (I:bc L w Q j f d B H s) {p:aE×aE} (e:H[n]?=J o) (q:B[n]?=J p) (z:b=p.1\/b=p.2) (u:nb b s.heap l)
  (h:ej L w Q l B p i) (A:dm i=dm o\/(dm o=4/\dm i=10)):bc L w Q j f d B (H.set n i) {s with heap:=l,toks:=g}/\dr B s.heap B l/\gA H (H.set n i):=by
 have v:fb B b:=ax p (em q) z;have a:dr B s.heap B l:=.q7 v u;have k:gA H<|H.set n i:=.set e A;refine bB (I.cI (t:={s with heap:=l,toks:=g}) a (I.bC.aB q z u h<|I.bC.e8 v u) (λc o e=> ?_) k) a k;refine(u.2 c λx=> ?_).trans<|I.cs c o e;exact I.bC.q6 e<|U x v
def bc.dU (I:bc L w Q j f d B H s) (n:s.heap.get? a=Y):j.get? a=Y:=by
 cases q:j.get? a with
 |none=>rfl|some o=>exact aq<|n.symm.trans<|I.cs _ _ q
theorem bc.iJ (I:bc L w Q j f d B H s) {p:aE×aE} {h:aY} (k:∀b o,s.heap.get? b=J o->h.get? b=J o) (g:ej L w Q h (B++[p]) p o)
  (u:s.heap.objs.size<=p.1) (v:s.heap.objs.size<=p.2):bc L w Q j f d (B++[p]) (H++[o]) {s with heap:=h,toks:=c}/\dr B s.heap (B++[p]) h/\gA H (H++[o]):=by
 have i:=oE u;have n:=oE v;have a:dr B s.heap (B++[p]) h:=.l8 k i n;have q:lm<p.1:=bS I.jQ λb o e l=>dK l<|dL (nO<|I.cs _ _ e) u;exact bB (I.cI (t:={s with heap:=h,toks:=c}) a (I.bC.iJ k g i n (I.dU i) (I.dU n) q) (λb o e=>k b o<|I.cs b o e)<|.c4 _ _) a<|.c4 _ _
def qi (h:aY) (B:bq) (b:aY) (e:aE):Prop:=∃c f T a g,b.get? e=J c/\c.data=.fields f/\f[1]?=J (.ref T)/\T≠e/\¬fb B T/\h.get? T=Y/\b.get? T=J a/\a.cls=.type "traceback"/\a.data=.fields g/\g[3]?=J .none
structure bI (L:cn) (w:bQ) (Q:bT) (j:aY) (f:cj) (d:ap) (B:bq) (H:ae) (s:aJ) (y:bq) (m:ae) (t:aJ):Prop where
 eg:nk s t
 cI:dr B s.heap y t.heap
 aP:bc L w Q j f d y m t
 hT:gA H m
def da (L:cn) (w:bQ) (Q:bT) (j:aY) (f:cj) (d:ap) (B:bq) (H:ae) (s:aJ) (a:Except Nat V×ae) (u:ai) (t:aJ):Prop:=match a.1 with|.ok v=>∃y,bI L w Q j f d B H s y a.2 t/\aT Q t.heap y u v|.error _=>False
def cR {b:Type} (L:cn) (w:bQ) (Q:bT) (j:aY) (f:cj) (d:ap) (B:bq) (H:ae) (s:aJ) (a:Except Nat b×ae) (u:ai) (t:aJ):Prop:=match a.1 with|.ok _=>False|.error n=>∃y p,bI L w Q j f d B H s y a.2 t/\y[n]?=J p/\u=.ref p.1/\(∃c,a.2[n]?=J (O.a3 7 c))/\qi s.heap y t.heap p.1
def tX (L:cn) (w:bQ) (Q:bT) (j:aY) (f:cj) (d:ap) (B:bq) (H:ae) (s:aJ) (a:Except Nat (List V)×ae) (u:List ai) (t:aJ):Prop:=match a.1 with|.ok v=>∃y,bI L w Q j f d B H s y a.2 t/\bg Q t.heap y u v|.error _=>False
end
section
open PySem PySem.W PySem.Calls PyProof.Rows
variable {j:cn} {w:bQ} {d:bT} {A h y:aY} {B b:bq} {L p:ae} {f:cj} {H:ap} {s z:aJ}
theorem bI.b1 (I:bc j w d A f H B L s):bI j w d A f H B L s B L s:=⟨.b1 _,.b1 _ _,I,.b1 _⟩
theorem bI.trans {o h m:bq} {l n q:ae} {c r s:aJ} (a:bI j w d A f H o l c h n r) (e:bI j w d A f H h n r m q s):
  bI j w d A f H o l c m q s:=⟨a.eg.trans e.eg,.trans a.aP.bC a.cI e.cI,e.aP,a.hT.trans e.hT⟩
theorem bI.toks (I:bc j w d A f H B L s) (t:Nat):bI j w d A f H B L s B L {s with toks:=t}:=⟨dn _ _ rfl,.b1 _ _,I.toks t,.b1 _⟩
theorem bI.keep (I:bc j w d A f H B L s) {m:aY} (a:∀e h,s.heap.get? e=J h->m.get? e=J h):
  bI j w d A f H B L s B L {s with heap:=m,toks:=t}:=⟨dn _ _ rfl,.h0 a,I.keep (t:={s with heap:=m,toks:=t}) a,.b1 _⟩
theorem bI.push (I:bc j w d A f H B L s) (a:dw):bI j w d A f H B L s B L {s with heap:=s.heap.push a}:=bI.keep I (t:=s.toks)<|λh a e=>hn _ e
theorem bI.d2 (a:bI j w d A f H B L s b p z) (I:bc j w d A f H B L s) {u:ai} {v:V} (r:aT d s.heap B u v):aT d z.heap b u v:=a.cI.d2 I.bC r
theorem bI.h1 (a:bI j w d A f H B L s b p z) (I:bc j w d A f H B L s) {u:List ai} {v:List V} (r:bg d s.heap B u v):bg d z.heap b u v:=a.cI.h1 I.bC r
theorem bI.b5 (I:bc j w d A f H B L s) (a:bI j w d A f H B L s b p z) {h:aE} (e:z.heap.get? h=Y):s.heap.get? h=Y:=a.cI.b5 a.aP.bC e
def qi.from {n:aY} {e:aE} (x:qi y B n e) (f:∀a,y.get? a=Y->h.get? a=Y):qi h B n e:=Dr x λq k T r s t u v w C D E F I m=>Dz q k T r s t u v w C (f _ D) E F I m
section
variable {v:V} {k:List V} {u:ai} {Q:List ai} {i:Type} {n:Nat} {o:bq} {l:ae} {c:aJ}
def da.of (m:bI j w d A f H B L s b p z) (r:aT d z.heap b u v):da j w d A f H B L s (.ok v,p) u z:=ax b m r
def tX.of (m:bI j w d A f H B L s b p z) (r:bg d z.heap b Q k):tX j w d A f H B L s (.ok k,p) Q z:=ax b m r
def da.dO (q:da j w d A f H B L s (.ok v,p) u z):∃b,bI j w d A f H B L s b p z/\aT d z.heap b u v:=q
@[elab_as_elim] def da.on {r:Except Nat V×ae} {C:Except Nat V×ae->Prop} (q:da j w d A f H B L s r u z) (a:∀v p b,bI j w d A f H B L s b p z->aT d z.heap b u v->C (.ok v,p)):C r:=by
 obtain⟨_|v,p⟩:=r
 ·exact q.elim
 ·exact ah q λb=>a v p b
@[elab_as_elim] def tX.on {r:Except Nat (List V)×ae} {C:Except Nat (List V)×ae->Prop} (q:tX j w d A f H B L s r Q z) (a:∀v p b,bI j w d A f H B L s b p z->bg d z.heap b Q v->C (.ok v,p)):C r:=by
 obtain⟨_|v,p⟩:=r
 ·exact q.elim
 ·exact ah q λb=>a v p b
@[elab_as_elim] def cR.on {r:Except Nat i×ae} {C:Except Nat i×ae->Prop} (q:cR j w d A f H B L s r u z) (a:∀n p,cR (b:=i) j w d A f H B L s (.error n,p) u z->C (.error n,p)):C r:=by
 obtain⟨n|v,p⟩:=r
 ·exact a n p q
 ·exact q.elim
def da.from {r:Except Nat V×ae} (m:bI j w d A f H B L s o l c) (q:da j w d A f H o l c r u z):da j w d A f H B L s r u z:=q.on (C:=λr=>da j w d A f H B L s r u z) λv p b a e=>ax b (m.trans a) e
theorem cR.from {r:Except Nat i×ae} (I:bc j w d A f H B L s) (m:bI j w d A f H B L s o l c) (q:cR j w d A f H o l c r u z):cR j w d A f H B L s r u z:=q.on (C:=λr=>cR j w d A f H B L s r u z) λn p q=>gz q λb a e h t v x=>ft b a (m.trans e) h t v<|x.from λ_=>m.b5 I
end
def wq (j:cn) (w:bQ) (d:bT) (A:aY) (f:cj) (m:fo ai) (H:ap) (B:bq) (L:ae) (s:aJ) (r:Except Nat V×ae):Prop:=aV (aR j w) f.A m (da j w d A f H B L s r) (cR j w d A f H B L s r) s
def Le (j:cn) (w:bQ) (d:bT) (A:aY) (f:cj) (m:fo<|List ai) (H:ap) (B:bq) (L:ae) (s:aJ) (r:Except Nat (List V)×ae):Prop:=aV (aR j w) f.A m (tX j w d A f H B L s r) (cR j w d A f H B L s r) s
def cb (j:cn) (w:bQ) (d:bT) (A:aY) (f:cj) (a:ap->ae->R V) (m:fo ai):Prop:=∀H B L s r,bc j w d A f H B L s->a H L=J r->wq j w d A f m H B L s r
def mA (j:cn) (w:bQ) (d:bT) (A:aY) (f:cj) (a:ap->ae->R (List V)) (m:fo<|List ai):Prop:=∀H B L s r,bc j w d A f H B L s->a H L=J r->Le j w d A f m H B L s r
def qG {i t:Type} {m:fo t} {e:t->aJ->Prop} {r:Except Nat i×ae} {o:bq} {l:ae} {c:aJ} (I:bc j w d A f H B L s) (q:bI j w d A f H B L s o l c) {n:aJ}
  (h:aV (aR j w) f.A m e (cR j w d A f H o l c r) n):aV (aR j w) f.A m e (cR j w d A f H B L s r) n:=cE h (λ_ _ a=>a) λ_ _ a=>a.from I q
def qm {i m:Type} {x:R i} {a:i->ae->R m} {r:Except Nat m×ae} {C:Prop} (e:br x a=J r) (h:∀f,x=J f->br (J f) a=J r->C):C:=by
 cases q:x with
 |none=>exact aq (q▸e:br Y a=J r)|some f=>exact h f q<|am q e
def IN {i:Type} {D:ap->ae->R (List V)} {m:fo<|List ai} {t:List V->ae->R i} {r:Except Nat i×ae} {P:List ai->aJ->Prop}
  (h:mA j w d A f D m) (I:bc j w d A f H B L s) (e:br (D H L) t=J r)
  (E:∀v u l o c,bI j w d A f H B L s o l c->bg d c.heap o u v->t v l=J r->D H L=J (.ok v,l)->P u c):
  aV (aR j w) f.A m P (cR j w d A f H B L s r) s:=
 qm e λx q e=>cE (h H B L s x I q) (λu c a=>a.on (C:=λx=>D H L=J x->br (J x) t=J r->P u c) (λv l o m F q e=>E v u l o c m F e q) q e)
  λu c a=>a.on (C:=λx=>br (J x) t=J r->cR j w d A f H B L s r u c) (λn l a e=>am (aH e) a) e
def iz {i:Type} {S:ap->ae->R V} {m:fo ai} {t:V->ae->R i} {r:Except Nat i×ae} {P:ai->aJ->Prop}
  (h:cb j w d A f S m) (I:bc j w d A f H B L s) (e:br (S H L) t=J r)
  (T:∀v u l o c,bI j w d A f H B L s o l c->aT d c.heap o u v->t v l=J r->P u c):
  aV (aR j w) f.A m P (cR j w d A f H B L s r) s:=
    qm e λx q K=>cE (h H B L s x I q) (λO D a=>a.on (C:=λx=>S H L=J x->br (J x) t=J r->P O D) (λU E F X Y q K=>(λv u l o c M a0 N _=>T v u l o c M a0 N) U O E F D X Y K q) q K)
     λO D a=>a.on (C:=λx=>br (J x) t=J r->cR j w d A f H B L s r O D) (λn E a K=>am (aH K) a) K
def vo {i:Type} {t:ap->ae->R (List V)} {m:fo<|List ai} {a:List V->ae->R i} {r:Except Nat i×ae} {P:List ai->aJ->Prop}
  (h:mA j w d A f t m) (I:bc j w d A f H B L s) (e:br (t H L) a=J r)
  (x:∀v u l o c,bI j w d A f H B L s o l c->bg d c.heap o u v->a v l=J r->P u c):
  aV (aR j w) f.A m P (cR j w d A f H B L s r) s:=IN h I e λv u l o c n C q _=>x v u l o c n C q
def x6 {S:Type} {i:Type} {T K:ap->ae->R V} {m U:fo ai} {t:ai->ai->fo S} {x:V->V->ae->R i} {r:Except Nat i×ae} {C:S->aJ->Prop}
  (h:cb j w d A f T m) (y:cb j w d A f K U) (I:bc j w d A f H B L s) (e:br (T H L) (λv L=>br (K H L) λu L=>x v u L)=J r)
  (X:∀v O u F q n a,bI j w d A f H B L s n q a->aT d a.heap n u v->aT d a.heap n F O->x v O q=J r->
   aV (aR j w) f.A (t u F) C (cR j w d A f H n q a r) a):
  aV (aR j w) f.A m (λu c=>aV (aR j w) f.A U (λF a=>aV (aR j w) f.A (t u F) C (cR j w d A f H B L s r) a) (cR j w d A f H B L s r) c) (cR j w d A f H B L s r) s:=
 iz h I e λv u l o c D Y M=>qG I D (iz y D.aP M λO F q n a E P N=>
  have m:=D.trans E
  qG I m<|X v O u F q n a m (E.d2 D.aP Y) P N)
section
variable {g:Nat->List V->ae->R V}
def nG {i:Type} {a:i} {l:ae} {r:Except Nat i×ae} (e:ok a l=J r):r=(.ok a,l):=(aH e).symm
@[elab_as_elim] def uV {i:Type} {f:Option i} {l:ae} {r:Except Nat i×ae} {C:Except Nat i×ae->Prop} (e:ir f l=J r) (h:∀a,f=J a->C (.ok a,l)):C r:=by
 cases f with
 |none=>exact aq e|some a=>exact am (aH e)<|h a rfl
@[elab_as_elim] def R6 {i:Type} {a:i} {l:ae} {r:Except Nat i×ae} {C:Except Nat i×ae->Prop} (e:ok a l=J r) (f:C (.ok a,l)):C r:=am (aH e) f
def Tm {h:Const} {v:V} (t:zW h=J v) (m:Nat) (q:cl):cb j w d A f (aU g f.az<|.W v)<|bz (.Constant h m q) f.env:=by
 intro H B L s r a e
 refine U (nG e) ?_
 cases h with
 |none=>exact am (aH t)<|wpAny_Constant_none<|.of (.b1 a) .a6
 |bool u=>exact am (aH t)<|wpAny_Constant_bool<|.of (.b1 a)<|.ad _
 |int n=>exact am (aH t)<|Xi<|.of (.toks a _)<|.I _ _
 |str x=>exact am (aH t)<|wpAny_Constant_str<|.of (.toks a _)<|.Z _ _
 |_=>exact aq t
def GK {h:Nat} {v:V} (F:cL f) (I:bc j w d A f H B L s) (K:f.c.loc x=J h) (O:H h=J v)
  (M:∀u,aT d s.heap B u v->q u s):aV (aR j w) f.A (loadName f.env x) q E s:=by
 have r:=F.loc x h K;refine r.1.elim (λt=>ah I.env.fy λm e R=>ah (R x h v K O t) λu S C=>wpAny_loadName_local F.kind t e S<|M u C) λn=>n.2.elim λa N=>ah (I.env.cell x a N) λD P T=> ?_;have m:f.env.kindOf x≠J .local:=n.1.elim (λe=>by refine U e ?_;decide) λe=>by refine U e ?_;decide
 refine ah (T h v K O m) λu e C=> ?_
 subst e
 exact n.1.elim (λt=>wpAny_loadName_cell F.kind t N P<|M u C) λt=>wpAny_loadName_free F.kind t N P (M u C) r.2.2
def HH {i:Type} {a:aG->Option i} {x:aG} {v:i} (h:(a ("__debug__":aG)).isSome=aa) (f:a x=J v):(x==("__debug__":aG))=aa:=by
 cases e:x==("__debug__":aG)with
 |false=>rfl|true=>have h:=f▸((hB<|cY e)▸h);exact hv h
def GJ {v:V} (h:de j w d A) (F:cL f) (I:bc j w d A f H B L s) (t:f.c.gl x=ac) (r:nH qz x=J v)
  (C:∀u,aT d s.heap B u v->a u s):aV (aR j w) f.A (bz (.Name x m) f.env) a E s:=
 ah (h.glob x v r) λu D K=>Wv F.kind (F.gl x t) (loadGlobal_global (U F.sm<|h.g.keeps I.cs) D<|C u<|K.a2 (λn q e _=>I.cs n q e) λ_ _=>aq)<|HH (by decide+kernel) r
def uU {u:ai} {h:cl} (a:de j w d A) (F:cL f) (I:bc j w d A f H B L s) (n:f.c.gl x=ac) (m:lz x=J u)
  (q:e u s):aV (aR j w) f.A (bz (.Name x h) f.env) e E s:=
 bx (a.bZ x u m) λr t=>Wv F.kind (F.gl x n) (loadGlobal_builtin (U F.sm<|a.g.keeps I.cs) r (U F.uj<|a.b.keeps I.cs) t q)<|HH (by decide+kernel) m
def Ts (F:cL f) {n:Nat} (h:f.c.loc x=J n) (a:cl):cb j w d A f (aU g f.az<|.loc n)<|bz (.Name x a) f.env:=λH B L s r I e=>uV (C:=wq j w d A f (bz (.Name x a) f.env) H B L s) e λv m=>wpAny_Name (GK F I h m λu q=>.of (.b1 I) q) (F.loc x n h).2.1
def To (h:de j w d A) (F:cL f) {v:V} (m:f.c.gl x=ac) (n:f.c.glob x=J v) (a:cl):cb j w d A f (aU g f.az<|.W v)<|bz (.Name x a) f.env:=λH B L s r I e=>R6 (C:=wq j w d A f (bz (.Name x a) f.env) H B L s) e<|GJ h F I m (am F.glob n) λu q=>.of (.b1 I) q
end
end
section
open PySem PySem.W PySem.Calls PyProof.Rows
variable {d:cn} {w:bQ} {H:bT} {L h e:aY} {B i:bq} {l k:ae} {f:cj} {A:ap} {s a:aJ}
variable {g:Nat->List V->ae->R V}
section
variable {m:Type} {r:m} {x y:Option m} {v u:V} {C:V->Prop}
@[elab_as_elim] def jA (f:(match v with|.ad ac=>x|.ad aa=>y|_=>Y)=J r) (h:x=J r->C (.ad ac)) (n:y=J r->C (.ad aa)):C v:=by
 cases v with
 |ad b=>cases b with|true=>exact h f|false=>exact n f
 |_=>exact aq f
@[elab_as_elim] def HG {x:Bool->Option m} (h:(match v with|.ad f=>x f|_=>Y)=J r) (n:∀f,x f=J r->C (.ad f)):C v:=by
 cases v with
 |ad b=>exact n b h|_=>exact aq h
@[elab_as_elim] def RI {x:Int->Option m} (h:(match v with|.I f=>x f|_=>Y)=J r) (n:∀f,x f=J r->C (.I f)):C v:=by
 cases v with
 |I b=>exact n b h|_=>exact aq h
@[elab_as_elim] def Qp {x:Int->Int->Option m} {c:V->V->Prop} (h:(match v,u with|.I f,.I b=>x f b|_,_=>Y)=J r) (n:∀f b,x f b=J r->c (.I f) (.I b)):c v u:=by
 cases v with
 |I f=>cases u with|I b=>exact n f b h|_=>exact aq h
 |_=>exact aq h
end
def GZ {b:Int} (h:b.natAbs<2^n):CQ b<=n:=by
 unfold CQ
 cases f:b==0 with
 |true=>exact cr _|false=>exact(V4<|Vn.mpr<|ne_of_beq_false f).mpr h
def MC {R:nP} {b:V} {u x:ai} {v:V} (h:hO R F b=J v) (S:aT H s.heap B u F) (T:aT H s.heap B x b)
  (Y:∀y t,aT H s.heap B y v->Q y {s with toks:=t}):aV (aR d w) f.A (yU R u x) Q E s:=by
 refine Qp (c:=λF b=>aT H s.heap B u F->aT H s.heap B x b->aV (aR d w) f.A (yU R u x) Q E s) h (λN K h S T=> ?_) S T;refine S.b9 (C:=λu=>aV (aR d w) f.A (yU R u x) Q E s) λa0=>T.b9 (C:=λx=>aV (aR d w) f.A (yU R (.int N a0) x) Q E s) λa2=> ?_;have o:∀{M:Int} {t:Nat},J (V.I M)=J v->Q (.int M t) {s with toks:=s.toks+1}:=λ{M t} h=>Y _ _<|am (aH h)<|.I M t;have U:∀{K:Int},0<K->K≠0:=λp P=>pI 0 (P▸p:(0:Int)<0);cases R with
 |Add=>exact add_int<|o h|Sub=>exact sub_int<|o h|Mult=>exact eC h λX h=>mul_int (o h)<|.of_left<|(
   have O:=mG<|dh<|dh X;have r:=mG (ed<|dh X)
   aF (GZ (n:=62)<|by omega)<|by decide)
 |FloorDiv=>exact eC h λO h=>floordiv_int (U O.1) (Int.fdiv_eq_ediv_of_nonneg _ (Cq O.1)▸o h) (.inl<|PyProof.noPylong_of_log2<|dL ((V4<|Vn.mpr<|U O.1).mpr (by have:=O.2;have:=O.1;omega:K.natAbs<2^100))<|by decide)|Mod=>exact eC h λO h=>mod_int' (U O)<|Int.fmod_eq_emod_of_nonneg _ (Cq O)▸o h|Pow=>exact eC h λO h=>pow_int (mG<|dh<|dh<|dh O) (have X:CQ N<=7:=GZ (by have:=mG<|ed<|dh O;have:=mG<|ed O;omega);have a1:(CQ N:Int)<=7:=jV.mpr X;nL (Int.mul_le_mul a1 (mG<|ed<|dh<|dh O) (mG<|dh<|dh<|dh O)<|by decide) (by decide))<|o h
 |_=>exact aq h
def Tj (N:nP) {h r:bn} {O P:a_} (R:cb d w H L f (aU g f.az O)<|bz h f.env) (S:cb d w H L f (aU g f.az P)<|bz r f.env):
  cb d w H L f (aU g f.az<|.cH N O P)<|bz (.BinOp h N r p) f.env:=λA B l s n I o=>
 wpAny_BinOp<|x6 (C:=da d w H L f A B l s n) R S I o λM b u x F J D E T U K=>
  uV (C:=λn=>aV (aR d w) f.A (yU N u x) (da d w H L f A B l s n) (cR d w H L f A J F D n) D) K λv V=>MC V T U λy t X=>.of (E.trans<|.toks E.aP t) X
def Tu {x:bn} {h:a_} (M:cb d w H L f (aU g f.az h)<|bz x f.env):cb d w H L f (aU g f.az<|.gq h)<|bz (.UnaryOp .USub x p) f.env:=λA B l s r v b=>
 K7<|iz M v b λn u J D o y K E=>RI (C:=λn=>aT H o.heap D u n->aV (aR d w) f.A (zf .USub u) (da d w H L f A B l s r) (cR d w H L f A B l s r) o) E
  (λF b K=>K.b9 (C:=λu=>aV (aR d w) f.A (zf .USub u) (da d w H L f A B l s r) (cR d w H L f A B l s r) o) λt=>neg_int<|am (aH b)<|.of (y.trans<|.toks y.aP _)<|.I _ _) K
def Tv {x:bn} (M:cb d w H L f (aU g f.az o)<|bz x f.env):cb d w H L f (aU g f.az<|.gd o)<|bz (.UnaryOp .Not x p) f.env:=λA B l s v I h=>
 K7<|iz M I h λr u J y t D K E=>HG (C:=λr=>aT H t.heap y u r->aV (aR d w) f.A (zf .Not u) (da d w H L f A B l s v) (cR d w H L f A B l s v) t) E
  (λF h K=>K.jA (C:=λu=>aV (aR d w) f.A (zf .Not u) (da d w H L f A B l s v) (cR d w H L f A B l s v) t)<|(by
    unfold zf
    refine ln ?_;dsimp only;refine U (aK (show(WY==WY)=ac from rfl)) ?_
    exact bd<|cE (tH<|am (aH h)<|.of D<|.ad _) (λb a n=>cF n) λ_ _ n=>n)) K
def zt (r:Except Nat V×ae):Prop:=match r.1 with|.ok v=>∃b,v=.ad b|.error _=>True
def t_ (d:cn) (w:bQ) (H:bT) (L:aY) (f:cj) (A:ap) (B:bq) (l:ae) (s:aJ) (r:Except Nat V×ae) (b:Bool) (a:aJ):Prop:=∃k i,r=(.ok<|.ad b,k)/\bI d w H L f A B l s i k a
def fJ (d:cn) (w:bQ) (H:bT) (L:aY) (f:cj) (h:ap->ae->R V) (b:fo Bool):Prop:=∀A B l s r,bc d w H L f A B l s->h A l=J r->zt r->aV (aR d w) f.A b (t_ d w H L f A B l s r) (cR d w H L f A B l s r) s
def vn {O:ap->ae->R V} {r:Except Nat V×ae} {P:Bool->aJ->Prop}
  (h:fJ d w H L f O D) (I:bc d w H L f A B l s) (o:br (O A l) p=J r) (Q:∀v k,p v k=J r->∃b,v=.ad b)
  (S:∀b t M x,bI d w H L f A B l s M t x->p (.ad b) t=J r->P b x):
  aV (aR d w) f.A D P (cR d w H L f A B l s r) s:=by
 refine qm o λE F o=>cE (h A B l s E I F ?_) (λn x y=>bS y λk i K N=>S n k i x N (K▸o:br (J (.ok<|.ad n,k)) p=J r)) λu x y=>y.on (C:=λE=>br (J E) p=J r->cR d w H L f A B l s r u x) (λn t y o=>am (aH o) y) o;obtain⟨_|v,t⟩:=E
 ·trivial
 ·exact Q v t o
def uO {m:Type} {r:m} {x y:Option m} {v:V} (f:(match v with|.ad ac=>x|.ad aa=>y|_=>Y)=J r):∃b,v=.ad b:=jA f (C:=λv=>∃b,v=.ad b) (λ_=>⟨_,rfl⟩) λ_=>⟨_,rfl⟩
def fJ.to {r:Except Nat V×ae} {y:ap->ae->R V} (h:fJ d w H L f y o) (I:bc d w H L f A B l s) (u:bI d w H L f A B l s p n t) (v:y A n=J r) (C:zt r):
  aV (aR d w) f.A o (t_ d w H L f A B l s r) (cR d w H L f A B l s r) t:=cE (h A p n t r u.aP v C) (λ_ _ b=>
    bS b λk i x D=>cZ k i x<|u.trans D) λ_ _ b=>b.from I u
def cb.to {r:Except Nat V×ae} {x:ap->ae->R V} (h:cb d w H L f x o) (I:bc d w H L f A B l s) (u:bI d w H L f A B l s p n t) (v:x A n=J r):
  aV (aR d w) f.A o (da d w H L f A B l s r) (cR d w H L f A B l s r) t:=cE (h A p n t r u.aP v) (λ_ _ b=>b.from u) λ_ _ b=>b.from I u
def UT {x:bn} {h:a_} {J:fo ai} (K:fJ d w H L f (aU g f.az h)<|jq x f.env<|bz x f.env):fJ d w H L f (aU g f.az<|.gd h)<|jq (.UnaryOp .Not x p) f.env J:=λA B l s r I o M=>wpAny_isTrue_Not<|vn K I o (λv k n=>HG (C:=λv=>∃b,v=.ad b) n λt _=>⟨t,rfl⟩) λb u y F D E=>cZ u y (nG E) D
def Tq {h b:bn} {C:a_} (J:fJ d w H L f (aU g f.az C)<|jq h f.env<|bz h f.env) (K:cb d w H L f (aU g f.az D)<|bz n f.env) (M:cb d w H L f (aU g f.az E)<|bz b f.env):
  cb d w H L f (aU g f.az<|.aQ C D E)<|bz (.IfExp h n b p) f.env:=by
 intro A B l s r I o
 refine wpAny_IfExp<|vn J I o (λv k=>uO) λb x y F t u=> ?_;cases b with
 |true=>exact K.to I t u|false=>exact M.to I t u
def eX {m z:Type} (P:m->z->Prop):List m->List z->Prop|j,[]=>j=[]|j,b::q=>∃f h,P f b/\eX P h q/\j=f::h
section
variable {m z:Type} {P:m->z->Prop} {j:List m} {b:z} {q:List z} {c:List m->Prop}
theorem eX.b_:eX P [] []:=rfl
def eX.cons {f:m} (x:P f b) (y:eX P j q):eX P (f::j)<|b::q:=dD f j x y rfl
@[elab_as_elim] def eX.c0 (b:eX P j []) (f:c []):c j:=b.symm.subst f
@[elab_as_elim] def eX.b7 (f:eX P j<|b::q) (h:∀f n,P f b->eX P n q->c (f::n)):c j:=bF f λf n x y o=>o.symm.subst<|h f n x y
end
def w7 {C:a_->a_->a_} {P:List bn->a_->Prop} (x:∀b f,X b f->P [b] f) (s:∀b u r n v,X b n->P (u::r) v->P (b::u::r) (C n v)):∀{w:List a_} {o:List bn} {f:a_},eX X o w->nq C w=J f->P o f:=by
 intro w
 induction w with
 |nil=>exactλ_=>aq|cons n y F=>
  refineλ{o f} p E=>p.b7 (c:=λo=>P o f) λb o h t=> ?_;cases y with
  |nil=>exact t.c0 (c:=λo=>P (b::o) f)<|am (aH E)<|x b n h|cons I y=>exact t.b7 (c:=λo=>eX X o (I::y)->P (b::o) f) (λu r _ _ t=>hu (D:=P<|b::u::r) E λv K=>s b u r n v h<|F t K) t
def Tg {p:cl} {C:List bn} {K:List a_} {b:a_}:eX (λo b=>cb d w H L f (aU g f.az b)<|bz o f.env) C K->nq .dM K=J b->cb d w H L f (aU g f.az b) (C1 p .And<|C5 C f.env):=by
 refine w7 (P:=λC b=>cb d w H L f (aU g f.az b)<|C1 p .And<|C5 C f.env) (λ_ _ h=>h) λo Q r D R h N A B l s O I n=> ?_;show aV _ _ (bz o f.env>>=λv=>wh p>>=λ_=>wf [v] (wj v)>>=λt=>_) _ _ _;refine bd (iz h I n λv u E F M t x y=> ?_)
 revert x
 refine jA y (λn x=>x.jA ?_) λn x=>x.jA ?_
 ·exact bd<|oH<|bd<|ln<|tH<|N.to I t n
 ·exact bd<|oH<|bd<|ln<|tH<|cF<|am (aH n)<|.of t<|.ad _
def Tw {p:cl} {C:List bn} {K:List a_} {b:a_}:eX (λo b=>cb d w H L f (aU g f.az b)<|bz o f.env) C K->nq .or K=J b->cb d w H L f (aU g f.az b) (C1 p .Or<|C5 C f.env):=by
 refine w7 (P:=λC b=>cb d w H L f (aU g f.az b)<|C1 p .Or<|C5 C f.env) (λ_ _ h=>h) λo Q r D R h N A B l s O I n=> ?_;show aV _ _ (bz o f.env>>=λv=>wh p>>=λ_=>wf [v] (wj v)>>=λt=>_) _ _ _;refine bd (iz h I n λv u E F M t x y=> ?_)
 revert x
 refine jA y (λn x=>x.jA ?_) λn x=>x.jA ?_
 ·exact bd<|oH<|bd<|ln<|tH<|cF<|am (aH n)<|.of t<|.ad _
 ·exact bd<|oH<|bd<|ln<|tH<|N.to I t n
def UP {E:List bn} {M:List a_} {n:a_}:eX (λo n=>fJ d w H L f (aU g f.az n)<|jq o f.env<|bz o f.env) E M->nq .dM M=J n->fJ d w H L f (aU g f.az n) (C0 .And E f.env):=by
 refine w7 (P:=λE n=>fJ d w H L f (aU g f.az n)<|C0 .And E f.env) (λo n h A B l s r I p K=> ?_) λo Q r F R h N A B l s O I p K=> ?_
 ·refine Xj<|cE (h A B l s r I p K) (λt D y=> ?_) λ_ _ u=>u;cases t with
  |true=>exact wpAny_allTrue_And_nil y|false=>exact y
 ·refine Xj<|vn h I p (λv k=>uO) λb x C D t u=> ?_;cases b with
  |true=>exact N.to I t u K|false=>exact cZ x C (nG u) t
def UU {E:List bn} {M:List a_} {n:a_}:eX (λo n=>fJ d w H L f (aU g f.az n)<|jq o f.env<|bz o f.env) E M->nq .or M=J n->fJ d w H L f (aU g f.az n) (C0 .Or E f.env):=by
 refine w7 (P:=λE n=>fJ d w H L f (aU g f.az n)<|C0 .Or E f.env) (λo n h A B l s r I p K=> ?_) λo Q r F R h N A B l s O I p K=> ?_
 ·refine Xk<|cE (h A B l s r I p K) (λt D y=> ?_) λ_ _ u=>u;cases t with
  |false=>exact wpAny_allTrue_Or_nil y|true=>exact y
 ·refine Xk<|vn h I p (λv k=>uO) λb x C D t u=> ?_;cases b with
  |false=>exact N.to I t u K|true=>exact cZ x C (nG u) t
def US {h n b:bn} {p:cl} {D E F:a_} {K:fo ai} (M:fJ d w H L f (aU g f.az D)<|jq h f.env<|bz h f.env) (N:fJ d w H L f (aU g f.az E)<|jq n f.env<|bz n f.env) (O:fJ d w H L f (aU g f.az F)<|jq b f.env<|bz b f.env):
  fJ d w H L f (aU g f.az<|.aQ D E F)<|jq (.IfExp h n b p) f.env K:=by
 intro A B l s r I o x
 refine U (arm_isTrue_IfExp _ _ _ _ _ _) ?_;refine bd<|vn M I o (λv k=>uO) λb y C J t u=> ?_;cases b with
 |true=>exact N.to I t u x|false=>exact O.to I t u x
noncomputable def sJ (b:bn):Bool:= !hb b.ctorIdx 22
def BV {b:bn} {r:List bn} {f:eE} (h:sJ b=ac):gM (b::r) f=(aa,bz b f)::gM r f:=by cases b<;>first|rfl|exact cW h
def TO:eX (λb o=>cb d w H L f (aU g f.az o) (bz b f.env)/\sJ b=ac) E D->mA d w H L f (gn g f.az D) (nU<|hJ F<|gM E f.env):=by
 induction D generalizing E with
 |nil=>exactλn=>n.c0<|λA B l s r I b=>U (nG b)<|Ww<|.of (.b1 I) .b_|cons o D Q=>exactλn=>n.b7 λb r h t=>by refine U (BV h.2) ?_;exact(λA B l s r I b=>
   KI<|iz (h.1) I b λv u J K O p R y=>qG I p<|vo (Q t) p.aP y λE T M N P x S C=>U (nG C)<|.of (p.trans x)<|.cons (x.d2 p.aP R) S)
def Ei {m z:Type} {r:R m} {n:m->ae->R z} {x:z} {k:ae} (b:br r n=J (.ok x,k)):∃f h,r=J (.ok f,h)/\n f h=J (.ok x,k):=by
 refine qm b λp o b=> ?_;obtain⟨_|f,h⟩:=p
 ·exact by cases b
 ·exact cZ f h o b
def HP {m:Type} {b x:m} {h k:ae} (f:ok b h=J (.ok x,k)):b=x:=Vg (iX<|aH f).1
def NU {n:List a_}:∀{A:ap} {l k:ae} {p:List V},gn g f.az n A l=J (.ok p,k)->p.length=n.length:=by
 induction n with
 |nil=>exactλb=>al hC (HP b).symm|cons o n t=>exactλ{A l k p} b=>bS (Ei b) λv r _ b=>bS (Ei b) λu s h b=>(al hC (HP b).symm).trans (al (· +1)<|t h)
def rt:ar<=wg:=by refine U zd ?_;decide
def TC {C:List a_} (h:mA d w H L f (gn g f.az C)<|nU<|hJ p<|gM F f.env) (y:C.length<=1000):cb d w H L f (aU g f.az<|.av C)<|bz (.Tuple F n p) f.env:=λA B l s r I o=>
 Tuple_ (IN h I o λv u D E J b K x t=>
  have y:=U (NU t) y
  wpAny_newTuple (U (nG x)<|.of (b.trans<|.push b.aP _)<|.av (kz _ rfl) rfl rfl ((bI.push b.aP _).h1 b.aP K)<|aF y<|by decide)<|U K.length<|aF y<|by refine U zd ?_;decide)
def xC {v:dw} (I:bc d w H L f A B l s) (r:ej d w H (s.heap.push v) (B++[(s.heap.objs.size,s.heap.objs.size)]) (s.heap.objs.size,s.heap.objs.size) o):
  bI d w H L f A B l s (B++[(s.heap.objs.size,s.heap.objs.size)]) (l++[o]) {s with heap:=s.heap.push v}/\aT H (s.heap.push v) (B++[(s.heap.objs.size,s.heap.objs.size)]) (.ref s.heap.objs.size) (.ref l.length):=
 dq (I.iJ (c:=s.toks) (λb o h=>hn v h) r (bE _)<|bE _) λn b u=>⟨⟨dn _ _ rfl,b,n,u⟩,.ref (p:=(s.heap.objs.size,s.heap.objs.size))<|am I.bC.bb qx⟩
def RJ {t:List ai} {n:List V} {r:Except Nat V×ae} (I:bc d w H L f A B l s) (v:bg H s.heap B t n) (h:ew n l=J r) {E:ai->aJ->Prop}:
  aV (aR d w) f.A (K5 t) (da d w H L f A B l s r) E s:=
 eC h λx h=>bx (xC (o:=.X n) (v:={cls:=.type "list",data:=.seq t.toArray}) I ⟨rfl,t.toArray,0,kz _ rfl,v.a2 (λb u h _=>hn _ h)<|.iw _ _,x⟩) λp y=>wpAny_newList (am (aH h)<|.of p y)<|U v.length<|aF x rt
def Tr {C:List bn} {D:List a_} {p:cl} (h:mA d w H L f (gn g f.az D) (nU (hJ p (gM C f.env)))):cb d w H L f (aU g f.az (.X D)) (bz (.List C p) f.env):=λA B l s r I n=>
 List_ (vo h I n λv u x y F o J t=>cE (RJ o.aP J t (E:=λ_ _=>False)) (λ_ _ b=>b.from o) λ_ _ b=>b.elim)
end
section
open PySem PySem.W PySem.Calls PyProof.Rows
variable {H:cn} {w:bQ} {L:bT} {m h h':aY} {B μ':bq} {j σ':ae} {f:cj} {t:ap} {s e:aJ}
variable {z:Nat->List V->ae->R V}
mutual
def iH:pN->V->Prop
 |d,.I i=>d=.int i
 |d,.Z a=>∃x:aG,x.cps.toList=a/\d=.str x
 |d,.av l=>∃g,ja g l/\d=.tuple g
 |_,_=>False
def ja:List pN->List V->Prop|g,[]=>g=[]|g,v::b=>∃d a,iH d v/\ja a b/\g=d::a
end
section
variable {d:pN} {g:List pN} {C:pN->Prop} {q:List pN->Prop}
@[elab_as_elim] def iH.b9 {i:Int} (a:iH d<|.I i) (k:C<|.int i):C d:=a.symm.subst k
@[elab_as_elim] def iH.d0 {b:List Nat} (a:iH d<|.Z b) (k:∀x:aG,x.cps.toList=b->C (.str x)):C d:=ah a λx f h=>h.symm.subst<|k x f
@[elab_as_elim] def iH.e0 (a:iH d<|.av l) (k:∀g,ja g l->C (.tuple g)):C d:=ah a λx b f=>f.symm.subst<|k x b
@[elab_as_elim] def ja.c0 (a:ja g []) (k:q []):q g:=a.symm.subst k
@[elab_as_elim] def ja.b7 {h:List V} (a:ja g<|v::h) (k:∀d g,iH d v->ja g h->q (d::g)):q g:=bF a λd g x b f=>f.symm.subst<|k d g x b
end
def Jd (a b:aG) (d:a.cps.toList=b.cps.toList):a=b:=beq_iff_eq.mp<|(toList_beq a b).symm.trans<|beq_iff_eq.mpr d
def iH.eq {a b:pN} {u:V}:iH a v->iH b u->KN a b=kR v u:=
 V.rec (motive_1:=λv=>∀a b u,iH a v->iH b u->KN a b=kR v u) (motive_2:=λl=>∀a b u,ja a l->ja b u->WW a b=mI l u)
  (λ_ _ _=>jU) (λ_ _ _ _=>jU)
  (λi a b u x=>x.b9 λf=>by
   cases u with
   |I h=>exact f.b9 rfl|Z h=>exact f.d0 λ_ _=>rfl|av h=>exact f.e0 λ_ _=>rfl|_=>exact jU f)
  (λn a b u x=>x.d0 λs w f=>by
   cases u with
   |I h=>exact f.b9 rfl|Z h=>exact f.d0 λk o=>(toList_beq s k).symm.trans (by refine U w<|U o ?_;exact J0.mpr<|beq_iff_eq.trans decide_eq_true_iff.symm)|av h=>exact f.e0 λ_ _=>rfl|_=>exact jU f)
  (λl A a b u x=>x.e0 λg x f=>by
   cases u with
   |I h=>exact f.b9 rfl|Z h=>exact f.d0 λ_ _=>rfl|av h=>exact f.e0 λr f=>A g r h x f|_=>exact jU f)
  (λ_ _ _ _=>jU) (λ_ _ _ _=>jU) (λ_ _ _ _=>jU) (λ_ _ _ _=>jU)
  (λa b u x=>x.c0 λf=>by
   cases u with
   |nil=>exact f.c0 rfl|cons _ _=>exact f.b7 λ_ _ _ _=>rfl)
  (λv l i h a b u x=>x.b7 λd g p k f=>by
   cases u with
   |nil=>exact f.c0 rfl|cons _ _=>exact f.b7 λo r C D=>congr (al and<|i _ _ _ p C)<|h _ _ _ k D) v a b u
theorem ja.eq {a b:List pN} {d u:List V} (x:ja a d) (f:ja b u):WW a b=mI d u:=(iH.eq (a:=.tuple a) (b:=.tuple b) (v:=.av d) (u:=.av u) (ax a x rfl) ⟨b,f,rfl⟩:)
def Bz {u:ai} {n:Nat}:aT L h B u v->gQ n v=ac->∃d C,Reads h u d C/\d.canLay0=ac/\d.depth<=n/\iH d v:=
 V.rec (motive_1:=λv=>∀n u,aT L h B u v->gQ n v=ac->∃d C,Reads h u d C/\d.canLay0=ac/\d.depth<=n/\iH d v)
  (motive_2:=λl=>∀n D,bg L h B D l->hP n l=ac->∃g C,ReadsAll h D g C/\WU g=ac/\WV g<=n/\ja g l)
  (λn _ _ k=>cW k) (λ_ n _ _ k=>cW k)
  (λi n u r k=>r.b9 λs=>fe (.int i) _ (.int i s) rfl (cr _) rfl)
  (λA n u r k=>r.d0 λx s f=>fe (.str x) _ (.str x s) ((Array.all_toList (as:=x.cps) (p:=λw=>bj (w<0x110000))).symm.trans (am f.symm k)) (cr _) (ax x f rfl))
  (λl I n u r k=>r.e0 λa o F E f w d r _=>by
   cases n with
   |zero=>exact cW k|succ n=>exact dx (I n _ r k) λg C p A J K=>fe (.tuple g) C (.tuple f w d p) A (dv J) (ax g K rfl))
  (λ_ n _ _ k=>cW k) (λ_ n _ _ k=>cW k) (λ_ n _ _ k=>cW k) (λ_ n _ _ k=>cW k)
  (λn D r _=>r.c0 (fe [] [] .nil rfl (cr _) rfl))
  (λv l i A n D r k=>r.b7 λu D a b=>dx (i n u a (dh k)) λd C J K M N=>dx (A n D b (ed k)) λg S O P Q R=>fe (d::g) _ (.cons J O) (nI.mpr ⟨K,P⟩) (nM.mpr ⟨M,Q⟩) (dD d g N R rfl)) v n u
def Iu {o:List V} {n:Nat} (r:bg L h B i o) (k:hP n o=ac):∃g p,ReadsAll h i g p/\WU g=ac/\WV g<=n/\ja g o:=by
 induction o generalizing i with
 |nil=>exact r.c0<|fe [] [] .nil rfl (cr _) rfl|cons v l f=>exact r.b7 λu i a b=>dx (Bz a<|dh k) λd p s w x A=>dx (f b<|ed k) λg I C D E F=>fe (d::g) _ (.cons s C) (nI.mpr ⟨w,D⟩) (nM.mpr ⟨x,E⟩)<|dD d g A F rfl
theorem uk:cLine=9900:=rfl
def Lp (H:cn) (w:bQ) (A:en) (s:aJ) (a:Bool) (u x:ai):Prop:=∀{Q:ai->aJ->Prop} {E:ai->aJ->Prop},(Q (.bool a) s->aV (aR H w) A (oF .Eq u x) Q E s)/\(Q (.bool<|!a) s->aV (aR H w) A (oF .NotEq u x) Q E s)
section
variable {c:Type} {r:c} {o y:Option O}
def GQ {x:List V->List V->Option c} {C:Prop} (d:(match o,y with|some (.X l),J (.X k)=>x l k|_,_=>Y)=J r) (f:∀l k,o=J (.X l)->y=J (.X k)->x l k=J r->C):C:=by
 cases o with
 |none=>exact aq d|some a=>cases a with
  |X l=>cases y with|none=>exact aq d|some b=>cases b with|X k=>exact f l k rfl rfl d|_=>exact aq d
  |_=>exact aq d
end
@[elab_as_elim] def NR {a b:V} {j:ae} {C:V->V->Bool->Prop} (f:pa a b j=J i) (p:∀o n l k,j[o]?=J (.X l)->j[n]?=J (.X k)->hP 59 l=ac->hP 59 k=ac->C (.ref o) (.ref n) (mI l k))
  (r:∀a b,gQ kh a=ac->gQ kh b=ac->C a b (kR a b)):C a b i:=by
 have d:∀{a b:V},(if gQ kh a&&gQ kh b then J<|kR a b else Y)=J i->C a b i:=λf=>eC f λh f=>jP f<|r _ _ (dh h)<|ed h;cases a with
 |ref o=>cases b with|ref n=>exact GQ f λl k s u f=>eC f λh f=>jP f<|p o n l k s u (dh h)<|ed h|_=>exact d f
 |_=>exact d f
def sV {d:pN} (a:d.canLay0=ac) (b:d.depth<=60):KO d=ac:=nI.mpr ⟨a,decide_eq_true<|aF b<|by decide⟩
section
variable {Q:ai->aJ->Prop} {E:ai->aJ->Prop} {A:en} {a b:V} {u x:ai}
def x1 (a:A.units<=8000):A.units+64<cLine:=dK (ha a 64)<|by refine U uk ?_;decide
def Fc {f:Bool} (C:A.units<=8000) (S:dy H w L m B j s.heap) (r:aT L s.heap B u a) (v:aT L s.heap B x b) (h:pa a b j=J f):Lp H w A s f u x:=by
 revert r v
 refine NR h (λi n l k O P Q R r v=>r.c7 λp T=>v.c7 λo U=> ?_) λa b V X r v=> ?_
 ·exact dx (Bz r V) λd Y D E F N=>dx (Bz v X) λh a0 I K M a1=>am (iH.eq N a1) ⟨eq_dataH D I (sV E F) (sV K M)<|x1 C,ne_dataH D I (sV E F) (sV K M)<|x1 C⟩
 ·exact bF (S.objs i _ p O T).2 λb1 b2 D a2 _=>bF (S.objs n _ o P U).2 λb3 b4 E a3 _=>dx (Iu a2 Q) λg Y F a4 a5 a6=>dx (Iu a3 R) λI a0 K a7 a8 a9=>have M:KO (.list g)=ac:=sV a4<|dv a5;have N:KO (.list I)=ac:=sV a7<|dv a8;have b0:KN (.list g) (.list I)=mI l k:=ja.eq a6 a9;am b0 ⟨eq_dataH (.list D rfl rfl F) (.list E rfl rfl K) M N<|x1 C,ne_dataH (.list D rfl rfl F) (.list E rfl rfl K) M N<|x1 C⟩
end
section
open MeetsSeq MeetsSeq3
open AutoSeq1 (wpAny_loadPart')
theorem AX:∀{l:List ai} {k:List Int} (i:Nat),nN l k->(l[i]?=Y/\k.drop i=[])\/∃a d,l[i]?=J (.int a d)/\k.drop i=a::k.drop (i+1)
 |_,_,i,.nil=>.inl ⟨rfl,by simp⟩|_,_,0,.cons n d h=>.inr<|cZ n d rfl rfl|_,_,i+1,.cons n d h=>by
  rcases AX i h with⟨a,b⟩|⟨a,u,b,f⟩
  ·exact .inl ⟨by simpa using a,by simpa using b⟩
  ·exact .inr<|cZ a u (by simpa using b)<|by simpa using f
theorem uN:∀{b:List ai} {d:List Int},nN b d->b.length=d.length|_,_,.nil=>rfl|_,_,.cons n a h=>by simp[uN h]
def Rf (l b:aE) (x o:Array ai) (n a6:Nat) (N E:List Int) (X:nN x.toList N) (a0:nN o.toList E) (k:Nat):
  ∀i:Nat,x.size-i=k->i<=x.size->i<=o.size->Meets (Builtin.«list.__eq__.loop» ⟨[.ref l,.ref b,mm i,mm 0],[]⟩)
   (λ_ R s=>s.heap.get? l=J {cls:=.type "list",dict:=Y,data:=.seq x n,slots:= #[]}/\s.heap.get? b=J {cls:=.type "list",dict:=Y,data:=.seq o a6,slots:= #[]}/\
    R (.ok<|.ret<|.bool<|bj<|N.drop i<E.drop i) s):=by
 induction k with
 |zero=>
  intro i O F a1 H w A R s h
  obtain⟨a3,C,d,a4,a5⟩:=s;obtain⟨I,K,h⟩:=h
  wp_walk using wpAny_loadPart' I,wpAny_loadPart' K
  have T:x[((i:Nat):Int).toNat]?=Y:=Cj<|Kz O;refine(U T ?_)
  wp_walk using wpAny_loadPart' I,wpAny_loadPart' K
  have V:=uN X;have P:=uN a0;simp only[kw]at V P;rw[show N.drop i=[]from Cw<|aF (bp V.symm)<|Kz O]at h;show R (.ok<|.ret<|.bool<|bj<|x.size<o.size) _
  have M:bj ([]<E.drop i)=bj (x.size<o.size):=by
   refine vI decide_eq_decide ?_;cases f:E.drop i with
   |nil=>have:=Kd.mp f;simp;exact aI<|aj [_,_,_,_] [] [.n 1 Z G,.n 1 v2 v3,.n 1 v3 Z,.n 1 (.a G W) v2] rfl F (bp P) this|cons a r=>
    simp;have:¬E.length<=i:=λp=>by have f:=cJ (hB<|Cw p) f;exact sI f
    exact dK (Kz O)<|V5 (bo this) P.symm
  refine am M ?_;exact h
 |succ k a7=>
  intro i O F a1 H w A R s h
  obtain⟨a3,C,d,a4,a5⟩:=s;obtain⟨I,K,h⟩:=h
  wp_walk using wpAny_loadPart' I,wpAny_loadPart' K
  have V:=uN X;have P:=uN a0;simp only[kw]at V P;have Q:i<x.size:=Nat.lt_of_sub_eq_succ O;rcases AX i X with⟨a,_⟩|⟨a,D,a8,a9⟩
  ·exact bt Q<|oB.mpr<|Cx.mp a
  have T:x[((i:Nat):Int).toNat]?=J (.int a D):=by simpa using a8
  refine U T ?_;rcases AX i a0 with⟨p,a2⟩|⟨p,u,b0,a2⟩
  ·have M:o[((i:Nat):Int).toNat]?=Y:=by simpa using p
   refine(U M ?_)
   wp_walk using wpAny_loadPart' I,wpAny_loadPart' K
   rw[a2]at h;show R (.ok<|.ret<|.bool<|bj<|x.size<o.size) _;have:o.size<=i:=by simpa using p
   rw[decide_eq_false<|by simp]at h;refine U (decide_eq_false<|by exact aj [_,_,_] [] [.n 1 Z G,.n 1 v2 Z,.n 1 (.a G W) v2] rfl F this) ?_;exact h
  have M:o[((i:Nat):Int).toNat]?=J (.int p u):=by simpa using b0
  have S:i<o.size:=by have:=(Ck.mp M).1;simpa using this
  refine U M ?_;rw[a9,a2]at h;have b1:((i:Int)+1)=((i+1:Nat):Int):=by push_cast;rfl
  refine bd<|EqGives.int a p D u H w _ _ _ _ ?_;cases f:a==p with
  |true=>
   have f:a=p:=by simpa using f
   subst f
   wp_walk
   refine U b1 ?_
   refine⟨Xe CU _,K0 WQ<|by
    refine U (Wp CU _) ?_;refine a7 (i+1) (al Nat.pred O) (by exact aI<|aj [_,_] [] [.n 1 (.a Z W) G,.n 1 (.a G W)<|.a Z W] rfl Q) (by exact aI<|aj [_,_] [] [.n 1 (.a Z W) G,.n 1 (.a G W)<|.a Z W] rfl S) H w A R _<|bB I K<|?_;rw[show bj (a::N.drop (i+1)<a::E.drop (i+1))=bj (N.drop (i+1)<E.drop (i+1))from by refine U (propext decide_eq_decide)<|U (propext Cv) ?_;simp]at h
    exact h⟩
  |false=>
   have f:¬a=p:=by simpa using f
   wp_walk using wpAny_loadPart' I,wpAny_loadPart' K
   refine U T<|U M ?_;refine bd<|WT (s:=⟨a3,C,d,a4,a5⟩) ?_;rw[show bj (a::N.drop (i+1)<p::E.drop (i+1))=bj (a<p)from by refine U (propext decide_eq_decide)<|U (propext Cv) ?_;simp[f]]at h
   wp_walk
   exact h
end
section
open MeetsSeq MeetsSeq3
open AutoSeq1 (wpAny_loadPart')
def Q8 (l b:aE) (f a:Array ai) (n p:Nat) (k o:List Int) (v:nN f.toList k) (x:nN a.toList o):
  Meets (Builtin.«list.__lt__» ⟨[.ref l,.ref b],[]⟩)
   (λ_ R s=>s.heap.get? l=J {cls:=.type "list",dict:=Y,data:=.seq f n,slots:= #[]}/\s.heap.get? b=J {cls:=.type "list",dict:=Y,data:=.seq a p,slots:= #[]}/\
    R (.ok<|.ret<|.bool<|bj<|k<o) s):=by
 intro H w A R s h
 obtain⟨C,i,d,D,E⟩:=s;refine dq h λr u h=> ?_;have F:=X0
 wp_walk using wpAny_loadPart' r,wpAny_loadPart' u
 exact⟨Xe CU _,K0 WQ<|by
  refine U (Wp CU _) ?_
  exact Rf l b f a n p k o v x _ 0 rfl (cr _) (cr _) H w A R _<|bB r u<|by simpa using h⟩
end
def xi {n:List Int}:bg L h B k l->hs l=J n->nN k n:=by
 induction l generalizing k n with
 |nil=>exactλr d=>r.c0<|jP d .nil|cons v l o=>
  exactλr=>r.b7 λu k a b d=>by
   cases v with
   |I i=>exact hu d λs p=>a.b9 λf=>.cons i f<|o b p|_=>exact aq d
section
variable {Q:ai->aJ->Prop} {E:ai->aJ->Prop} {A:en} {a b:V} {u x:ai}
@[elab_as_elim] def Rc {h:Bool} {C:V->V->Bool->Prop} (d:Bb a b j=J h) (s:∀a b,C (.I a) (.I b)<|bj<|a<b) (u:∀a b,C (.Z a) (.Z b)<|bj<|a<b)
  (v:∀f n l k i o,j[f]?=J (.X l)->j[n]?=J (.X k)->hs l=J i->hs k=J o->C (.ref f) (.ref n) (bj<|i<o)):C a b h:=by
 cases a with
 |I a=>cases b with|I b=>exact jP d<|s a b|_=>exact aq d
 |Z a=>cases b with|Z b=>exact jP d<|u a b|_=>exact aq d
 |ref f=>cases b with
  |ref n=>
   refine GQ d λl k w x d=> ?_;cases p:hs l with
   |none=>have d:=p▸d;exact aq d|some i=>cases r:hs k with|none=>have d:=r▸(p▸d);exact aq d|some o=>have d:=r▸(p▸d);exact jP d<|v f n l k i o w x p r
  |_=>exact aq d
 |_=>exact aq d
def Rg {d:Bool} (O:A.units<=8000) (S:dy H w L m B j s.heap) (r:aT L s.heap B u a) (v:aT L s.heap B x b) (h:Bb a b j=J d) (C:Q (.bool d) s):
  aV (aR H w) A (oF .Lt u x) Q E s:=by
 revert r v C
 refine Rc h (λi D r v=>r.b9 λ_=>v.b9 λ_=>WT) (λI K r v=>r.d0 λa6 _ M=>v.d0 λa7 _ N C=>XW (by have C:=(hB N)▸((hB M)▸C);exact C)) λo n l k P R M N T V r v=>r.c7 λp X=>v.c7 λf Y C=> ?_
 exact bF (S.objs o _ p M X).2 λa0 a1 i a2 _=>bF (S.objs n _ f N Y).2 λa3 a4 D a5 _=>
  richCompare_meets_room (op:=.Lt) (ax _ i rfl) (ax _ D rfl) F.slot_list_lt F.entry_list_lt (F.args_list_lt_2 _ _) (Q8 p.1 f.1 a0 a3 a1 a4 P R (xi a2 T)<|xi a5 V)
   (mu i D (λx=>nomatch x) C)<|dK O<|by refine U uk ?_;decide
def P9 {f:Bool} (S:dy H w L m B j s.heap) (k:aT L s.heap B u a) (l:aT L s.heap B x b) (d:F4 a b=J f) (n:Q (.bool f) s):
  aV (aR H w) A (oF .Gt u x) Q E s:=by
 cases a with
 |I i=>cases b with|I h=>exact k.b9 λ_=>l.b9 λ_=>PySem.P.gt_int<|U (aH d) n|_=>exact aq d
 |Z h=>cases b with|Z i=>exact k.d0 λr _ o=>l.d0 λv _ p=>PySem.P.gt_str (by refine U o<|U p ?_;exact U (aH d) n)|_=>exact aq d
 |_=>exact aq d
def GL {f:Bool} (l:aT L s.heap B u a) (n:aT L s.heap B x b) (d:A6 a b=J f) (h:Q (.bool f) s):aV (aR H w) A (oF .LtE u x) Q E s/\aV (aR H w) A (oF .GtE x u) Q E s:=by
 cases a with
 |I i=>cases b with
  |I k=>have h:=aH d▸h;exact l.b9 λ_=>n.b9 λ_=>⟨PySem.P.le_int h,PySem.P.ge_int h⟩
  |_=>exact aq d
 |_=>exact aq d
def Qu (d:aT L s.heap B u a) (b:Q (.bool<|qA a) s):aV (aR H w) A (oF .Is u .none) Q E s:=by
 revert b
 cases a with
 |a6=>exact d.j4<|λb=>pQ rfl b|ad _=>exact d.jA<|λb=>pQ rfl b|I _=>exact d.b9 λ_=>λb=>pQ rfl b|Z _=>exact d.d0 λ_ _ _=>λb=>pQ rfl b|av _=>exact d.e0 λ_ _ _ _ _ _ _ _ _=>λb=>pQ rfl b|ref _=>exact d.c7 λ_ _=>λb=>pQ rfl b|aA _=>exact d.j5<|λb=>pQ rfl b|c2 _=>exact d.h4<|λb=>pQ rfl b|df _=>exact d.j6 λ_=>λb=>pQ rfl b
def kI (L:bT) (h:aY) (B:bq) (x:Option ai):Option V->Prop|none=>x=Y|some v=>∃u,x=J u/\aT L h B u v
def G0 {K s:Type} [DecidableEq K] [BEq s] [LawfulBEq s] (d:K->s) (C:∀a b,d a=d b->a=b) (k:K) {l:List<|s×V}:∀{o:List<|K×ai},o.map (λx=>d x.1)=l.map (·.1)->bg L h B (o.map (·.2)) (l.map (·.2))->kI L h B (wk o k) (l.lookup<|d k):=by
 induction l with
 |nil=>exactλi _=>by refine U (vP.mp i) ?_;rfl|cons p l D=>
  intro o i r
  cases o with
  |nil=>exact sI i|cons x o=>
   have A:=oy i;refine bF r λu I E F n=> ?_;have n:=oy n;refine aZ (x.1=k) (λf=> ?_)<|λf=> ?_
   ·exact have b:(d k==p.1)=ac:=beq_iff_eq.mpr<|am f A.1;have v:wk (x::o) k=J x.2:=(by simp only[wk,tu,f,decide_true,Wm]);(U v<|U gt<|U b<|ax (x.2) rfl<|by refine U (show x.2=u from n.1) ?_;exact E)
   ·exact have b:(d k==p.1)=aa:=beq_eq_false_iff_ne.mpr λw=>f<|C _ _<|A.1.trans w.symm;have v:wk (x::o) k=wk o k:=(by simp only[wk,tu,f,decide_false]);(U v<|U gt<|U b<|D A.2<|U n.2 F)
def qK (d:de H w L m) (S:dy H w L m B j h) {n:Nat} {p:aE×aE} (a:B[n]?=J p):(p.1==lm)=aa:=beq_eq_false_iff_ne.mpr λb=>lj _ (b▸(S.gJ p<|em a).2.2:lm<lm)
noncomputable def hS (a:Bool):ai->Bool|.bool b=>b==a|_=>aa
def MN (f:Bool) {p:List ai} {s:List Bool}:bg L h B p k->wJ k=J s->p.any (hS f)=s.contains f/\∀i,i∈p->∃d,i=.bool d:=by
 induction k generalizing p s with
 |nil=>exactλr n=>r.c0<|jP n ⟨rfl,λi w=>eG (l:=[]) w⟩|cons v k x=>
  exactλr=>r.b7 λu p a b n=>by
   cases v with
   |ad d=>exact hu n λA C=>a.jA<|bx (x b C) λD E=>⟨(congr (al or<|by cases f<;>cases d<;>rfl) D:(hS f (.bool d)||p.any (hS f))=(f==d||A.contains f)),λi w=>(bY.mp w).elim (λo=>⟨d,o⟩)<|E i⟩
   |_=>exact aq n
variable {n:Nat} {o:O} {p:aE×aE}
@[elab_as_elim] def L9 {C:V->Prop} (a:D1 j b=J o) (k:∀n,j[n]?=J o->C (.ref n)):C b:=by
 cases b with
 |ref n=>exact k n a|_=>exact aq a
def kI.is {x:Option ai} {r:Option V} (h:kI L h B x r):x.isSome=r.isSome:=by
 cases r with
 |none=>exact al vV (show x=Y from h)|some v=>exact h.elim λu a=>al vV a.1
def wN {a:aE} {i:dw} {l:Nat} {K:Type} [DecidableEq K] {k:yP H w K} (b:h.get? a=J i) (x:i.ExactDict) (d:i.data=.dict #[] l):h.DictOf k a []:=ls i (#[]) l b x d (λf n=>nomatch (Array.not_mem_empty f n)) (.nil)<|by simp
def GD {l:List<|Int×V} (S:ej H w L h B p o) (a:pj o=J l):p.2=p.1/\∃f,h.DictOf (ll H w) p.1 f/\f.map (·.1)=l.map (·.1)/\bg L h B (f.map (·.2)) (l.map (·.2)):=by
 cases o with
 |dE=>exact jP a ⟨S.1,bF S.2 λi k b x d=>cM [] (wN b x d) rfl .b_⟩|dI l=>exact jP a S|_=>exact aq a
def GF {l:List<|List Nat×V} (S:ej H w L h B p o) (a:qE o=J l):p.2=p.1/\∃f,h.DictOf (K6 H w) p.1 f/\f.map (λx=>x.1.cps.toList)=l.map (·.1)/\bg L h B (f.map (·.2)) (l.map (·.2)):=by
 cases o with
 |dE=>exact jP a ⟨S.1,bF S.2 λi k b x d=>cM [] (wN b x d) rfl .b_⟩|dS l=>exact jP a S|_=>exact aq a
def Cd {i:Int} {r:Option V} (S:ej H w L h B p o) (a:qF i o=J r):∃f,h.MapOf (ll H w) p.1 f/\kI L h B (f i) r:=hu a λl d=>bR (GD S d).2 λk n s u=>ax _ n.mapOf<|G0 id (λ_ _ b=>b) i s u
def Ce {a:aG} {r:Option V} (S:ej H w L h B p o) (b:uX a.cps.toList o=J r):∃f,h.MapOf (K6 H w) p.1 f/\kI L h B (f a) r:=hu b λl d=>bR (GF S d).2 λi k n s=>ax _ k.mapOf<|G0 (λx:aG=>x.cps.toList) Jd a n s
structure tS (H:cn) (w:bQ) (A:en) (s:aJ) (u:ai) (a:aE) (c:Bool):Prop where
 i:∀{Q:ai->aJ->Prop} {E:ai->aJ->Prop},(∀t,Q (.bool c) {s with toks:=t})->aV (aR H w) A (oF .In u<|.ref a) Q E s
 n:∀{Q:ai->aJ->Prop} {E:ai->aJ->Prop},(∀t,Q (.bool<|!c) {s with toks:=t})->aV (aR H w) A (oF .NotIn u<|.ref a) Q E s
def Gh {K:Type} [DecidableEq K] {d:yP H w K} {k:K} {f:K->Option ai} {a:aE} {r:Option V} (l:d.is k u=ac) (n:(a==lm)=aa) (b:s.heap.MapOf d a f) (h:kI L s.heap B (f k) r):tS H w A s u a r.isSome:=⟨λi=>wpAny_in_of l n b<|h.is▸i _,λi=>wpAny_notIn_of l n b<|h.is▸i _⟩
def Qg {d:mh} {a:Bool} (S:ej H w L s.heap B p o) (v:(p.1==lm)=aa) (b:Gg i o=J a):tS H w A s (.int i d) p.1 a:=by
 have n:(qF i o).map vV=J a->tS H w A s (.int i d) p.1 a:=λb=>hu b λr x=>ah (Cd S x) λf k h=>Gh (rk _ _ _ _) v k h;cases o with
 |set l=>exact jP b ⟨λu=>wpAny_inSet_of (rk _ _ _ _) rfl S.2.2<|u _,λu=>wpAny_notInSet_of (rk _ _ _ _) rfl S.2.2<|u _⟩|_=>exact n b
def Qf {d h:Bool} (E:A.units<=8000) (S:ej H w L s.heap B p o) (i:Gf d o=J h):tS H w A s (.bool d) p.1 h:=by
 cases o with
 |X l=>refine hu i λF I=>bF S.2 λf k n r _=>bx (MN d r I) λK M=> ?_;have C:s.heap.IsList p.1 f:=⟨_,n,rfl,k,rfl⟩;have v:A.units+1+0<cLine:=dK (dv E) (by refine U uk ?_;decide);have D:∀a,a∈f->SeqAt.EqAt A.in1 s a (.bool d) (hS d a):=λa N=>(M a<|Vb.mpr N).elim λb u=>U u<|(SeqAt.eqAt_reads (.bool b) (.bool d) A.in1 s _ _ _ _ (.bool b) (.bool d) rfl rfl v:);have b:f.any (hS d)=F.contains d:=U_.symm.trans K;exact⟨λx=>SeqAt.in_listAt (hS d) C D<|b▸x s.toks,λx=>SeqAt.notIn_listAt (hS d) C D<|b▸x s.toks⟩
 |_=>exact aq i
def Gi (Q:A.units<=8000) (l:de H w L m) (S:dy H w L m B j s.heap) (K:aT L s.heap B u a) (M:aT L s.heap B x b) (v:xh a b j=J k):∃d,x=.ref d/\tS H w A s u d k:=by
 revert M
 refine el v λo R F=>L9 R λn T M=>M.c7 λp O=>ax (p.1) rfl<|?_;have N:=S.objs n _ p T O;have P:=qK l S O;cases a with
 |I i=>exact K.b9 λC=>Qg N P F|Z i=>exact K.d0 λi C D=>hu F λr V=>ah (Ce N<|U D V) λf E h=>Gh (De _ _ _ _) P E h|ad d=>exact K.jA<|Qf Q N F|_=>exact aq F
def EE {C:vX} (v:A.units<=8000) (l:de H w L m) (S:dy H w L m B j s.heap) (o:aT L s.heap B u a) (p:aT L s.heap B x b) (f:ex C a b j=J k)
  (n:∀r,Q (.bool k) {s with toks:=r}):aV (aR H w) A (oF C u x) Q E s:=by
 cases C with
 |Eq=>exact(Fc v S o p f).1<|n s.toks|NotEq=>revert n;exact hu f λd D n=>(Fc v S o p D).2<|n s.toks|Lt=>exact Rg v S o p f<|n s.toks|Gt=>exact P9 S o p f<|n s.toks|LtE=>exact(GL o p f<|n s.toks).1|GtE=>exact(GL p o f<|n s.toks).2|Is=>cases b with|a6=>exact p.j4<|Qu o<|U (aH f)<|n s.toks|_=>exact aq f
 |In=>exact ah (Gi v l S o p f) λd i h=>U i<|h.i n|NotIn=>revert n;exact hu f λd D n=>ah (Gi v l S o p D) λd i h=>U i<|h.n n|IsNot=>exact aq f
end
noncomputable def u_ (a:bn):Bool:= !hb a.ctorIdx 7
def Hf (a:vX) (r:bn) (h:u_ r=ac):behindInMarks a r=aa:=by cases r<;>first|rfl|exact cW h
def Tl (i:de H w L m) (F:cL f) (v:vX) {r:bn} {p:cl} {E J:a_} (M:u_ r=ac) (N:cb H w L m f (aU z f.az E)<|bz l f.env) (O:cb H w L m f (aU z f.az J)<|bz r f.env):
  cb H w L m f (aU z f.az<|.au v E J)<|bz (.Compare l [v] [r] p) f.env:=λt B j s A I d=>
 wpAny_Compare1 (x6 (C:=da H w L m f t B j s A) N O I d λa b u x C D K h P R n=>HR n λo S d=>EE F.pF i h.aP.bC P R S λk=>am (aH d)<|.of (h.trans<|.toks h.aP k)<|.ad _)<|Hf v r M
def UQ (i:de H w L m) (F:cL f) (E:vX) {l r:bn} {p:cl} {J K:a_} {N:fo ai} (O:u_ r=ac) (P:cb H w L m f (aU z f.az J)<|bz l f.env) (R:cb H w L m f (aU z f.az K)<|bz r f.env):
  fJ H w L m f (aU z f.az<|.au E J K)<|jq (.Compare l [E] [r] p) f.env N:=λt B j s A I d h=>
 wpAny_isTrue_Compare1 (x6 (C:=λv e=>aV (aR H w) f.A (wj v) (t_ H w L m f t B j s A) (cR H w L m f t B j s A) e) P R I d λa b u x n o M h S T C=>
  HR C λD U d=>EE F.pF i h.aP.bC S T U λk=>tH<|cZ n o (nG d)<|h.trans<|.toks h.aP k)<|Hf E r O
end
section
open PySem PySem.W PySem.Calls PyProof.Rows
variable {H:cn} {w:bQ} {L:bT} {m h q:aY} {B z:bq} {d i:ae} {f:cj} {g:ap} {s n:aJ}
variable {c:Nat->List V->ae->R V}
def Mh:∀a<fu.length,∀b<fu.length,fu.getD a ""=fu.getD b ""->a=b:=by decide+kernel
def D5 {a b:Nat} (f:a<fu.length) (h:b<fu.length) (e:cO a=cO b):a=b:=Mh a f b h<|(Bj _ _).mp e
def P0 {x:aG} {e:hG} {u:ai} (h:e.key.isStr x=aa) (a:pO x j=J (J u)):pO x (e::j)=J (J u):=by
 unfold pO at a ⊢
 refine U tu<|U h ?_;cases b:j.find? λe=>e.key.isStr x with
 |none=>have a:=b▸a;exact Qe a|some f=>rw[b]at a;exact a
def Me {s:List hG} {o:List<|Nat×V} {a:Nat} {v:V}:gx L h B s o->o.lookup a=J v->a<fu.length/\∃u,pO (cO a) s=J (J u)/\aT L h B u v:=by
 induction o generalizing s with
 |nil=>exactλ_=>aq|cons x o F=>
  refineλr e=>r.b7 λA s C w I p=> ?_;refine w.elim λt w=> ?_;have D:∀b,A.key.isStr b=(cO x.1==b):=λb=>by refine U w ?_;rfl
  refine aZ (a=x.1) (λf=> ?_)<|λf=> ?_
  ·subst f
   have e:=(gt.symm.trans e:(match x.1==x.1 with|true=>J x.2|false=>o.lookup x.1)=J v);rw[beq_self_eq_true]at e
   exact⟨C,A.val,(by
     unfold pO
     exact U tu<|U ((D _).trans<|beq_self_eq_true _) rfl),am (aH e) I⟩
  ·have e:=(gt.symm.trans e:(match a==x.1 with|true=>J x.2|false=>o.lookup a)=J v);have e:=(beq_eq_false_iff_ne.mpr f)▸e;exact bx (F p e) λE K=>⟨E,K.imp λu b=>⟨P0 ((D _).trans<|beq_eq_false_iff_ne.mpr λj=>f<|D5 E C j.symm) b.1,b.2⟩⟩
def aT.l9 {u:ai} {v:V} (r:aT L h B u v):handedIn u=ac:=by
 cases v with
 |a6=>exact r.j4 rfl|ad _=>exact r.jA rfl|I _=>exact r.b9 λ_=>rfl|Z _=>exact r.d0 λ_ _ _=>rfl|av _=>exact r.e0 λ_ _ _ _ _ _ _ _ _=>rfl|ref _=>exact r.c7 λ_ _=>rfl|aA _=>exact r.j5 rfl|c2 _=>exact r.h4 rfl|df _=>exact r.j6 λ_=>rfl
def Gm {p:aE×aE} {C:Prop} (r:ej H w L h B p<|.a3 e t) (o:e∈oc->∀u s f,InstAt h p.1 u (L.ca e) (J<|jp s f)->u.dict=J p.2->h.get? p.2=J (jp s f)->gx L h B s t->C):C:=by
 refine bS r.2.2.2 λs f b v=> ?_;have a:=r.2.1;refine aZ (e=1\/e=7) (λj=> ?_)<|λj=> ?_
 ·exact((aK j).mp a).elim λx a=>o r.1 _ s f ⟨a.1,rfl,rfl,b⟩ rfl b v
 ·exact o r.1 _ s f ⟨(aX j).mp a,rfl,rfl,b⟩ rfl b v
def Sc {a:List ai}:mP a=ac->a.contains (.type "BaseException")=ac/\a.isEmpty=aa:=by
 induction a with
 |nil=>exactλe=>cW e|cons v r h=>
  intro e
  have b:(v::r==[.type "Exception",.type "BaseException",.type "object"])=ac->(v::r).contains (.type "BaseException")=ac/\(v::r).isEmpty=aa:=λe=>by refine U (cY e) ?_;exact⟨by decide,rfl⟩
  cases v with
  |ref f=>exact⟨by exact U Kb<|U ((h e).1)<|U (tn _) rfl,rfl⟩|_=>exact b e
def N0 {A:en} {E:ai->aJ->Prop} {s:aJ} {K:eQ} {x C:aE} {f:aG} {o:Bool} {Q:ai->aJ->Prop} {v:ai}
  (X:K.In s.heap) (I:InstAt s.heap x a6 C a3) (R:hI K (.ref C) "__getattribute__"=J (J<|.builtin "BaseException.__getattribute__")) (S:hI K (.ref C) "__getattr__"=J Y)
  (P:((wd K C).any λu=>mP u.mro)=ac) (a7:findObj K C a3 f=J (.value v)) (a8:handedIn v=ac) (h:Q v {s with toks:=s.toks+1}):aV (aR H w) A (C7 (.ref x) f o) Q E s:=by
 have T:(o&&onTheHeap (wc "BaseException.__getattribute__"))=aa:=by cases o<;>rfl
 have V:(wc "BaseException.__getattribute__"==wc "object.__getattribute__")=aa:=by decide+kernel
 have a0:(onTheHeap (ri C)&&wc "BaseException.__getattribute__"==wc "object.__getattribute__")=aa:=by exact U V<|U (vH _) rfl
 obtain⟨j,a,b,t,D⟩:=s;have a4:=I.type (M:=aR H w);have a9:=CY (M:=aR H w) X R;have b0:=CY (M:=aR H w) X S;have b1:=looks_find (M:=aR H w) X I a7;have b6:=WD.ga.bind<|.ref x;have F:aV (aR H w) A (handedOut v) Q E ⟨j,a,b,t+1,D⟩:=by refine U (handedOut_of a8) ?_;exact cF h
 obtain⟨u,b2,b3⟩:∃u,wd K C=J u/\mP u.mro=ac:=by
  cases e:wd K C with
  |none=>rw[e]at P;exact cW P|some u=>rw[e]at P;exact ax u rfl P
 have a5:=Sc b3;have a1:yQ (aR H w) j (K3 (.ref x)<|.type "BaseException") ac:=I.type.andThen (W1 X<|by unfold mroIn;exact U b2<|U (Wj _ _)<|U (aX<|by refine U a5.2 ?_;decide)<|U a5.1 rfl)
 delta C7 getAttrBy
 refine bd<|K9<|ln<|bd<|a4.at<|bd<|a9.at ?_;dsimp only;refine(U a0<|U (aX<|by decide) ?_)
 delta getAttrByItsOwn hookBefore
 refine U (aK<|by rfl) ?_;refine bd (b0.at ?_)
 delta callGetattribute boundAndCalled
 refine U T<|U (aX<|by decide) ?_;refine bd ?_
 have a2:mj (aR H w) A (Wx (wc "BaseException.__getattribute__") ⟨[.ref x,.str f t],[]⟩) (λr n=>r=.ok (.ret v)/\n=⟨j,a,b,t+1,D⟩) ⟨j,a,b,t+1,D⟩:=by
  have N:aV (aR H w) A.in1 (Builtin.«object.__getattribute__» ⟨[.ref x,.str f t],[]⟩) (λO n=>O=.done (.ret v)/\n=⟨j,a,b,t+1,D⟩) (λ_ _=>False) ⟨j,a,b,t+1,D⟩:=by
   unfold Builtin.«object.__getattribute__»
   refine bd<|cF ?_;dsimp only;refine bd<|cF ?_;refine bd<|a4.at<|bd<|b1.at ?_;exact cF ⟨rfl,rfl⟩
  have b4:builtinKind "BaseException.__getattribute__"=J .slot:=by decide+kernel
  have b5:splitId "BaseException.__getattribute__"=J ("BaseException","__getattribute__"):=by decide+kernel
  refine W8 WD.ga.plain PySem.F.entry_bexc_ga<|@check_slot (aR H w) _ _ ⟨j,a,b,t+1,D⟩ "BaseException.__getattribute__" "BaseException" "__getattribute__" (.ref x) [.str f t] [] _ b4 b5 a1 (PySem.F.args_bexc_ga _ _) ?_;refine cE N (λO n e=> ?_) λ_ _ p=>p.elim;obtain⟨rfl,rfl⟩:=e;exact⟨rfl,rfl⟩
 repeat (any_goals (first|assumption|wp_step))
 show mj _ _ (Wx _ ⟨[.ref x,.str f t],[]⟩) _ _;refine C4 a2 λr n e=> ?_;obtain⟨rfl,rfl⟩:=e;exact F
@[elab_as_elim] def Mc {a:V} {h:Nat} {v:V} {C:V->Prop} (e:rN a h d=J v) (p:∀b j r,d[b]?=J (.a3 j r)->r.lookup h=J v->C (.ref b)):C a:=by
 cases a with
 |ref b=>
  have e:(match d[b]?with|some (.a3 _ r)=>r.lookup h|_=>Y)=J v:=e;cases f:d[b]?with
  |none=>have e:=f▸e;exact aq e|some o=>cases o with|a3 j r=>have e:=f▸e;exact p b j r f e|_=>have e:=f▸e;exact aq e
 |_=>exact aq e
def Md {K:eQ} {C:aE} {a:Nat} {P:Prop} (e:wH K C a=ac) (f:∀x,hI K (.ref C) (cO a)=J x->noGet K x=ac->P):P:=by
 have e:(match hI K (.ref C) (cO a)with|some x=>noGet K x|none=>aa)=ac:=e;cases b:hI K (.ref C) (cO a)with
 |none=>have e:=b▸e;exact cW e|some x=>have e:=b▸e;exact f x b e
def P4 {u:ai} {a:V} {x:Nat} {v:V} {M:Bool} {Q:ai->aJ->Prop} {E:ai->aJ->Prop} {A:en} (h:de H w L m) (I:bc H w L m f g B d s) (S:aT L s.heap B u a) (e:rN a x d=J v)
  (a1:∀j t,aT L s.heap B j v->Q j {s with toks:=t}):aV (aR H w) A (C7 u (cO x) M) Q E s:=by
 revert S
 refine Mc e λD r b0 a4 a5 S=>S.c7 λp a6=>Gm (I.bC.objs D _ p a4 a6) λa2 b1 b2 N T b3 b4 a7=>bx (Me a7 a5) λa8 O=>ah O λj O P=> ?_;have X:h.K.In s.heap:=λb o F=>I.cs _ _<|h.qc b o F;have R:=h.hk.sN r a2;refine Md (h.hk.attr r a2 x a8) λa9 K a3=> ?_;refine aZ (r=1\/r=7) (λY=> ?_)<|λY=> ?_
 ·have a0:L.ca r=L.ca 1:=Y.elim (λC=>U C rfl) λC=>U C h.hk.eg;rw[a0]at T R K;exact N0 X T h.hk.wU.1 h.hk.wU.2 h.hk.wV (W0 R.1 K a3<|by rw[KR];exact O) P.l9<|a1 j _ P
 ·exact get_value X T (W2 (name:=("":aG))<|R.2 Y).1 (W0 R.1 K a3<|by rw[KR];exact O) P.l9<|a1 j _ P
def Ie {j:List String} {f o:Nat} {x:aG}:qM j f x=J o->∃h,o=f+h/\h<j.length/\x=eo (j.getD h ""):=by
 induction j generalizing f with
 |nil=>exact aq|cons s r u=>
  intro e
  have e:(if eo s==x then J f else qM r (f+1) x)=J o:=e;cases p:eo s==x with
  |true=>rw[p]at e;exact cM 0 ((aH e).symm) (hF _)<|(cY p).symm|false=>rw[p]at e;exact bR (u e) λh a b t=>cM (h+1) (a.trans<|gv f 1 h) (Wf b) t
def D6 {F:cL f} {x:aG} {b:Nat} (e:f.c.attr x=J b):x=cO b:=bR (Ie<|am F.attr e) λj a _ h=>by refine U a<|U (eb _) ?_;exact h
def NV {x:bn} {a:aG} {p:cl} {b:eE} (e:pf x=ac):bz (.Attribute x a p) b=(do
   let o<-bz x b
   wh p.atName
   let r<-wf [o] (C7 o a ac)
   letTemporaryGo x o r
   gg r):=by
 cases x<;>first|(with_unfolding_all rfl)|exact cW e
def Th (o:de H w L m) (r:cL f) {x:bn} {a:aG} {p:cl} {b:a_} {h:Nat} (N:f.c.attr a=J h) (O:pf x=ac) (P:cb H w L m f (aU c f.az b)<|bz x f.env):
  cb H w L m f (aU c f.az<|.attr b h)<|bz (.Attribute x a p) f.env:=λg B d s j I e=>
 Attribute_any_ (iz P I e λv u E K M j Q A=>uV A λC R=>U (D6 (F:=r) N)<|P4 o j.aP Q R λD t S=>.of (j.trans<|.toks j.aP t) S)<|NV O
def Qr {f:List Int} (a:nN e f):bg L h B e<|f.map .I:=by
 induction a with
 |nil=>exact .b_|cons b t _ j=>exact .cons (.I b t) j
def sx {u:ai} {a:V} {j:List V} {C:ai->Prop} (E:de H w L m) (I:bc H w L m f g B d s) (K:aT L s.heap B u a) (e:kW a d=J j)
  (A:∀b v,s.heap.IsList b v->bg L s.heap B v.toList j->j.length<=ar->C (.ref b)):C u:=by
 cases a with
 |ref x=>
  have e:(match d[x]?with|some (.X j)=>J j|_=>Y)=J j:=e;cases h:d[x]?with
  |none=>have e:=h▸e;exact aq e|some o=>cases o with
   |X N=>have e:=h▸e;exact K.c7 λp M=>bF (I.bC.objs x _ p h M).2 λv F t r h=>have D:=aH e;A p.1 v ⟨_,t,rfl,F,rfl⟩ (am D r) (am D h)
   |_=>have e:=h▸e;exact aq e
 |df _=>
  refine K.j6 λh=>bR E.IK λv t D x=>A L.x5 v ?_ ?_ ?_
  ·exact t.imp λo t=>⟨I.cs _ _ t.1,t.2⟩
  ·exact am (aH e)<|U h<|Qr D
  ·exact am (aH e)<|U (bX _)<|U h x
 |_=>exact aq e
def yl {b:bn} (h:so b=aa) (o a:ai):subscripted b aa o a=operate [o,a] (getItem o a):=by cases b<;>first|rfl|exact hv h
def zw {a:Int} {b:Nat} (h:a.toNat<b) (e:b<=ar) (f:0<=a):a<2^63:=vL ((J8 f).mp<|dL h e)<|by decide
section
variable {k y:bn} {u x:ai} {a b v:V} {Q:ai->aJ->Prop} {E:ai->aJ->Prop} {A:en} {p:aE×aE} {o:O}
def Gv {K:Type} [DecidableEq K] {o:yP H w K} {b:K} {f:K->Option ai} {j:aE} {r:Option V} (u:o.is b x=ac) (p:s.heap.MapOf o j f) (h:kI L s.heap B (f b) r) (e:r=J v) (C:so y=aa) (D:∀a t,aT L s.heap B a v->Q a {s with toks:=t}):aV (aR H w) A (rg k y (.ref j) x) Q E s:=ah (e▸h:kI L s.heap B (f b)<|J v) λa F I=>vW p.typeIs slot_dict_getitem.lookup (wpAny_getItem_of u p F<|D a _ I)<|yl C _ _
def QE (a5:de H w L m) (R:bc H w L m f g B d s) (b2:aT L s.heap B u a) (a7:aT L s.heap B x b) (a1:so y=aa)
  (e:go a b d=J v) (a2:∀C t,aT L s.heap B C v->Q C {s with toks:=t}):aV (aR H w) A (rg k y u x) Q E s:=by
 cases a with
 |av O=>
  cases b with
  |I D=>exact a7.b9 λt=>(by
    refine b2.e0 λb6 b7 M b8 F K S r N=>eC e λP a8=>ah (r.d6 a8) λC Y a3=> ?_;have V:=qR Y;have a9:D.toNat<M.size:=U (kw (xs:=M)) V;refine vW (T:="tuple") ⟨_,F,K⟩ slot_tuple_getitem.lookup (XV (items:=M) (j:=D.toNat) ⟨_,F,K,_,S⟩ (nL (by decide) P) (zw V (U r.length N) P) ?_ (pH.symm.trans Y)<|a2 C s.toks a3)<|yl a1 _ _;simp only[seqIndex?,aX<|iA.mpr P,P,decide_true,Bool.true_and]
    exact aK<|decide_eq_true<|(J8 P).mp a9)
  |_=>exact aq e
 |ref V=>
  refine el e λo b4 a0=>b2.c7 λp b5=> ?_;have S:=R.bC.objs V _ p b4 b5;cases b with
  |I D=>
   refine a7.b9 λt=> ?_;have a4:(qF D o).bind id=J v->aV (aR H w) A (rg k y (.ref p.1)<|.int D t) Q E s:=λa0=>el a0 λr b0 b1=>ah (Cd S b0) λF K h=>Gv (rk _ _ _ _) K h b1 a1 a2;cases o with
   |X O=>exact(by
     refine bF S.2 λM K F r N=> ?_;have a6:s.heap.IsList p.1 M:=⟨_,F,rfl,K,rfl⟩;have b3:M.size=O.length:=kw.symm.trans r.length;refine aZ (0<=D) (λP=> ?_)<|λP=> ?_
     ·exact ah (r.d6<|(aK P).symm.trans a0) λC Y a3=>vW a6.typeIs Dc.lookup (wpAny_getItem_list a6 P (zw (qR Y) (U r.length N) P) (pH.symm.trans Y)<|a2 C s.toks a3)<|yl a1 _ _
     ·refine eC ((aX P).symm.trans a0) λb9 a8=>ah (r.d6 a8) λC Y a3=> ?_;have c0:O.length<=1000000:=N
      exact vW a6.typeIs Dc.lookup (wpAny_getItem_list_neg a6 (pJ.mp P) (by refine U b3 ?_;omega) (by omega) (by refine U b3<|U (yG _ _) ?_;exact pH.symm.trans Y)<|a2 C s.toks a3)<|yl a1 _ _)
   |_=>exact a4 a0
  |Z C=>exact a7.d0 λC t D=>el a0 λr b0 b1=>ah (Ce S<|U D b0) λF K h=>Gv (De _ _ _ _) K h b1 a1 a2|_=>exact aq a0
 |_=>exact aq e
end
def Tp (r:de H w L m) {x:bn} {p:cl} {h:a_} (M:so D=aa) (N:cb H w L m f (aU c f.az h)<|bz x f.env) (O:cb H w L m f (aU c f.az j)<|bz D f.env):
  cb H w L m f (aU c f.az<|.ao h j)<|bz (.Subscript x D p) f.env:=λg B d s E I e=>
 yL<|x6 (C:=da H w L m f g B d s E) N O I e λa b u x F J K o P R A=>uV A λv S=>QE r o.aP P R M S λC t T=>.of (o.trans<|.toks o.aP t) T
def yd {k:bn} {f h:Option bn} {p:cl} {a:aE} {b:Array ai} {o r:ai} {C:Option Int} {Q:ai->aJ->Prop} {E:ai->aJ->Prop} {A:en} (u:s.heap.IsList a b)
  (v:CT j C) (I:CT o D) (K:CT r t) (M:t≠J 0) (x:b.size<=wg)
  (N:Q (.ref<|s.heap.objs.size+1) {s with heap:=(s.heap.push {cls:=.type "slice",data:=.fields #[j,o,r]}).push {cls:=.type "list",data:=.seq<|slicePick b C D t}}):
  aV (aR H w) A (rg k (.Slice f h e p) (.ref a)<|.ref s.heap.objs.size) Q E {s with heap:=s.heap.push {cls:=.type "slice",data:=.fields #[j,o,r]}}:=by
 have F:aV (aR H w) A (getItem (.ref a)<|.ref s.heap.objs.size) Q E {s with heap:=s.heap.push {cls:=.type "slice",data:=.fields #[j,o,r]}}:=wpAny_getItem_list_slice (u.push _) (WM ..) v I K M (U (KL _ _) N) x;cases e with
 |none=>exact vW (u.push _).typeIs Dc.lookup F rfl|some O=>exact vW (u.push _).typeIs Dc.lookup F rfl
def xE {a:Array ai} {r:Except Nat V×ae} {u:dw} (I:bc H w L m f g B d s) (v:bg L s.heap B a.toList j) (e:ew j d=J r):
  da H w L m f g B d s r (.ref<|s.heap.objs.size+1) {s with heap:=(s.heap.push u).push {cls:=.type "list",data:=.seq a},toks:=t}:=by
 refine eC e λx e=> ?_;have p:bI H w L m f g B d s B d {s with heap:=s.heap.push u,toks:=t}:=bI.keep I<|λb o e=>hn _ e;have h:=xC (s:={s with heap:=s.heap.push u,toks:=t}) (o:=.X j) (v:={cls:=.type "list",data:=.seq a}) p.aP ⟨rfl,a,0,kz _ rfl,(p.h1 I v).a2 (λb o e _=>hn _ e)<|.iw _ _,x⟩;refine U (show s.heap.objs.size+1=(s.heap.push u).objs.size from(KL ..).symm)<|am (aH e) ?_;exact .of (p.trans h.1) h.2
def xm (a:Int) (t:mh):CT (.int a t)<|J a:=.int a t
def nz {b:Array ai} {a:List V} (r:bg L h B b.toList a) (e:a.length<=ar):b.size<=wg:=am kw<|U r.length<|aF e rt
section
variable {l:Type} {r:l} {o:Option (List V)} {C:Prop}
@[elab_as_elim] def I1 {v:V} {D:V->Prop} {x:List V->Int->Option l} (e:(match o,v with|some a,.I b=>x a b|_,_=>Y)=J r) (f:∀a b,o=J a->x a b=J r->D (.I b)):D v:=by
 cases o with
 |none=>exact aq e|some a=>cases v with|I b=>exact f a b rfl e|_=>exact aq e
def xR {x:List V->Option l} (h:(match o with|some a=>x a|none=>Y)=J r) (b:∀a,o=J a->x a=J r->C):C:=by
 cases o with
 |none=>exact aq h|some a=>exact b a rfl h
end
def Tz (E:de H w L m) {x a:bn} {p h:cl} {r j:a_} (a3:cb H w L m f (aU c f.az r)<|bz x f.env) (a4:cb H w L m f (aU c f.az j)<|bz a f.env):
  cb H w L m f (aU c f.az<|.f1 r j)<|bz (.Subscript x (.Slice (J a) Y Y h) p) f.env:=by
 intro g B d s a5 I e
 refine yL<|iz a3 I e λv u S T a1 A a6 O=>zg<|qG I A<|iz a4 A.aP O λa7 b1 V X M D N o=> ?_;refine U (yY _) ?_;refine cF (cF ?_)
 revert N
 exact I1 (v:=a7) o λP Q a8 o N=>N.b9 λR=>eC o λa9 o=>sx E D.aP (D.d2 A.aP a6) a8 (C:=λu=>aV (aR H w) f.A (rg x (.Slice (J a) Y Y h) u<|.ref M.heap.objs.size) _ _ _) λb a0 b0 a2 F=>
  yd b0 (xm _ _) .none .none (by decide) (nz a2 F)<|(xE (t:=M.toks) D.aP ((
    (J4<|a9.1).elim λK h=>by refine U h<|U (slicePick_from' _ _) ?_;simpa using a2.drop K)) o).from<|A.trans D
def TB (E:de H w L m) {x a:bn} {p h:cl} {r j:a_} (a3:cb H w L m f (aU c f.az r)<|bz x f.env) (a4:cb H w L m f (aU c f.az j)<|bz a f.env):
  cb H w L m f (aU c f.az<|.f9 r j)<|bz (.Subscript x (.Slice Y (J a) Y h) p) f.env:=by
 intro g B d s a5 I e
 refine yL<|iz a3 I e λv u S T a1 A a6 O=>zg ?_;refine U (yY _) ?_;refine cF<|qG I A<|iz a4 A.aP O λa7 b1 V X M D N o=> ?_;refine cF ?_
 revert N
 exact I1 (v:=a7) o λP Q a8 o N=>N.b9 λR=>eC o λa9 o=>sx E D.aP (D.d2 A.aP a6) a8 (C:=λu=>aV (aR H w) f.A (rg x (.Slice Y (J a) Y h) u<|.ref M.heap.objs.size) _ _ _) λb a0 b0 a2 F=>
  yd b0 .none (xm _ _) .none (by decide) (nz a2 F)<|(xE (t:=M.toks) D.aP ((
    (J4<|a9.1).elim λK h=>by refine U h<|U (slicePick_upto' _ _) ?_;simpa using a2.take K)) o).from<|A.trans D
def Tx (r:de H w L m) {x:bn} {p a:cl} {h:a_} (N:cb H w L m f (aU c f.az h)<|bz x f.env):
  cb H w L m f (aU c f.az<|.f2 h)<|bz (.Subscript x (.Slice Y Y Y a) p) f.env:=by
 intro g B d s O I e
 refine yL<|iz N I e λv u F J D j P o=>zg ?_;refine U (yY _) ?_;refine cF<|cF<|cF ?_
 exact xR o λE Q o=>sx r j.aP P Q (C:=λu=>aV (aR H w) f.A (rg x (.Slice Y Y Y a) u<|.ref D.heap.objs.size) _ _ _) λb K R M A=>yd R .none .none .none (by decide) (nz M A)<|(xE (t:=D.toks) j.aP (by refine U (slicePick_all _) ?_;exact M) o).from j
def TA (D:de H w L m) {x:bn} {p a O P:cl} {h:Nat} (R:cb H w L m f (aU c f.az j)<|bz x f.env):
  cb H w L m f (aU c f.az<|.g0 j)<|bz (.Subscript x (.Slice Y Y (J<|.UnaryOp .USub (.Constant (.int 1) h O) P) a) p) f.env:=by
 intro g B d s S I e
 refine yL<|iz R I e λv u K M o r T A=>zg ?_;refine U (yY _) ?_;refine cF<|cF<|K7<|Xi<|neg_int ?_
 exact xR A λF V A=>sx D r.aP T V (C:=λu=>aV (aR H w) f.A (rg x (.Slice Y Y (J<|.UnaryOp .USub (.Constant (.int 1) h O) P) a) u<|.ref o.heap.objs.size) _ _ _) λb N X Q E=>
  yd (s:={o with toks:=o.toks+1+1}) X .none .none (xm _ _) (by decide) (nz Q E)<|(xE (t:=o.toks+1+1) r.aP (by
    refine U (krv_pick _) ?_
    simpa using Q.reverse) A).from r
def Tn {p:cl}:cb H w L m f (aU c f.az .fZ)<|bz (.Dict [] [] p) f.env:=by
 intro g B d s b I e
 exact bx (xC (o:=.dE) (v:={cls:=.type "dict",data:=.dict #[]}) I ⟨rfl,_,_,kz _ rfl,bB rfl rfl rfl,rfl⟩) λa h=>wpAny_Dict_empty<|am (aH e)<|.of a h
end
section
open PySem PySem.W PySem.Calls PyProof.Rows
variable {H:cn} {w:bQ} {Q:bT} {q h y:aY} {m k:bq} {L A:ae} {f:cj} {d:ap} {s c:aJ}
variable {i:Nat->List V->ae->R V}
def Ui {B:List bn}:(∀e∈B,sJ e=ac)->(hJ b<|gM B a).any (·.1)=aa:=by
 induction B with
 |nil=>exactλ_=>rfl|cons e r f=>exactλh=>by refine U (BV<|h e<|.head _) ?_;exact f λe g=>h e<|.tail _ g
def mx (M:tA) (g:ai) (h:aY):Prop:=∃a,(a=Keeper.frame\/a=Keeper.machine\/a=Keeper.boundFrame)/\yQ M h (keeperOf g) a
def rU {E:ai->aJ->Prop} {l:List<|Bool×fo ai} {f:ai->aJ->Prop} (p:l.any (·.1)=aa)
  (h:aV M e (nU l) (λB c=>mx M g c.heap/\aV M e (gw g<|n++B) f E c) E s):aV M e (C2 o g n l []) f E s:=
 callWith_of (P:=mx M g) (by show(l.any (·.1)||aa)=aa;refine U p ?_;rfl) (λ_ x=>x)<|(by
   cases l with
   |nil=>
    unfold evalArgs
    exact bd<|cE (show aV M e (nU []) _ E s from cE h (λ_ _ x=>x) λ_ _ x=>x) (λB c y=>bd<|cF<|ln<|bd<|cF<|bd<|cF<|cF y) λ_ _ a=>a
   |cons a r=>
    obtain⟨b,t⟩:=a;cases b with
    |false=>exact evalArgs_plain<|cE h (λ_ _ x=>x) λ_ _ x=>x|true=>exact hv p)
def A3 (M:tA) (a:String) (h:aY):mx M (.builtin a) h:=ax (.machine) (.inr<|.inl rfl)<|.now
def A4 (M:tA) (a:String) (h:aY):mx M (.type a) h:=ax (.machine) (.inr<|.inl rfl)<|.now
noncomputable def rP:mo->ai|.bb=>.builtin "len"|.isStr=>.builtin "isinstance"|.hS=>.builtin "isinstance"|.e6=>.type "tuple"|.X=>.type "list"|.set=>.type "set"|.sum=>.builtin "sum"|.f8=>.builtin "ord"
noncomputable def ue:mo->List ai|.isStr=>[.type "str"]|.hS=>[.type "bool"]|_=>[]
theorem kG.a6 {a:en} {f:Bool} (b:kG a f m L) (e:f=aa):a.handled=Y:=(e▸b:kG a aa m L)
def QT {f:List<|Int×ai} {l:List<|Int×V} {B:List ai} (e:f.map (·.1)=l.map (·.1)) (n:B.length=f.length)
  (o:∀(a:Nat) v,B[a]?=J v->∃b x,f[a]?=J (b,x)/\(ll H w).is b v=ac):bg Q h m B<|l.map λp=>.I p.1:=by
 induction l generalizing f B with
 |nil=>have n:=(vP.mp e)▸n;refine U (Kj.mp n) ?_;exact .b_|cons p l r=>
  cases f with
  |nil=>exact sI e|cons C f=>cases B with|nil=>exact bt n<|dQ<|hF _|cons v B=>exact have e:=oy e;bS (o 0 v rfl) λb x s u=>.cons ((Value.isInt_shape u).elim λt g=>⟨t,g.trans<|al (λz=>Value.int z t)<|(al KH<|aH s).symm.trans e.1⟩)<|r e.2 (XU n) λa=>o<|a+1
def GP {h:aE} {x:List<|Int×ai} {l:List<|Int×V} {r:Except Nat V×ae} {E:ai->aJ->Prop} (n:bc H w Q q f d m L s) (O:f.A.handled=Y) (P:(h==lm)=aa) (R:s.heap.DictOf (ll H w) h x)
  (N:x.map (·.1)=l.map (·.1)) (e:ew (l.map λg=>.I g.1) L=J r):
  aV (aR H w) f.A (gw (.type "list") [.ref h]) (da H w Q q f d m L s r) E s:=by
 refine eC e λF e=>R.dictAt.elim λS K=> ?_;have M:x.length<=ar:=by rw[<-bX (f:=(·.1)) (as:=x),N,bX];rw[bX]at F;exact F
 refine kdl_call (kdl_dict (knd:=ll H w) (kvs:=x) (ep:=S) P) O K (aF M rt) λy T D u U a0 C=> ?_;have a1:bg Q y (m++[(s.heap.objs.size,s.heap.objs.size)]) D.toList<|l.map λg=>.I g.1:=QT (H:=H) (w:=w) N (kw.trans C.1) λz v a2=>C.2 z v<|pH.symm.trans a2
 exact dq (n.iJ (o:=.X<|l.map λg=>.I g.1) (p:=(s.heap.objs.size,s.heap.objs.size)) (h:=y) (c:=T) U ⟨rfl,D,_,a0,a1,F⟩ (bE _)<|bE _) λa b u=>(am (aH e)<|.of ⟨dn _ _ rfl,b,a,u⟩<|.ref (p:=(s.heap.objs.size,s.heap.objs.size))<|n.bC.bb▸qx)
section
variable {j:List ai} {B:List V} {r:Except Nat V×ae} {E:ai->aJ->Prop}
def zx (h:n<=ar):(n:Int)<2^63:=Cr (jV.mpr h)<|by decide
def lQ {a:Array ai} {l:List V} (r:bg Q h m a.toList l):a.size=l.length:=kw.symm.trans r.length
def da.lX (I:bc H w Q q f d m L s) (e:ok v L=J r) (t:Nat) (a:aT Q s.heap m u v):da H w Q q f d m L s r u {s with toks:=t}:=am (aH e)<|.of (.toks I t) a
def Mo (h:de H w Q q) (b:bc H w Q q f d m L s) (D:bg Q s.heap m j B) (e:rO B L=J r):aV (aR H w) f.A (gw (.builtin "len")<|j++[]) (da H w Q q f d m L s r) E s:=by
 cases B with
 |nil=>exact aq e|cons v B=>cases v with
  |av l=>cases B with|nil=>exact D.e4 λu a=>a.e0 λ_ p t x g n o r z=>len_tuple ⟨_,g,n,_,o⟩ (lQ r▸zx z)<|.lX b e _<|(lQ r).symm▸.I _ _|cons _ _=>exact aq e
  |ref n=>cases B with
   |nil=>
    refine D.e4 λu a=>a.c7 λp C=> ?_
    have e:(match L[n]?with
      |some (.X l)=>ok (.I l.length) L|some .dE=>ok (.I 0) L|some (.dI l)=>if l.length<=ar then ok (.I l.length) L else Y|_=>Y)=J r:=e
    cases z:L[n]?with
    |none=>have e:=z▸e;exact aq e|some o=>
     have e:=z▸e;have S:=b.bC.objs n _ p z C;cases o with
     |X l=>exact bF S.2 λt x g r z=>call_len_list (items:=t) ⟨_,g,rfl,x,rfl⟩ (lQ r▸zx z)<|.lX b e _<|(lQ r).symm▸.I _ _|dE=>exact bF S.2 λo F g t x=>W6 (qK h b.bC C) (wN (k:=ll H w) g t x) (by decide)<|.lX b e _<|.I _ _|dI l=>exact eC e λx e=>bR S.2 λg F K M=>have t:g.length=l.length:=(by rw[<-bX (f:=(·.1)) (as:=g),K,bX]);W6 (qK h b.bC C) F (t▸zx x) (.lX b e _<|t.symm▸.I _ _)
     |_=>exact aq e
   |cons _ _=>exact aq e
  |_=>exact aq e
def Mr (I:bc H w Q q f d m L s) (h:bg Q s.heap m j B) (e:Eb B L=J r):aV (aR H w) f.A (gw (.builtin "isinstance")<|j++[.type "str"]) (da H w Q q f d m L s r) E s:=by
 cases B with
 |nil=>exact aq e|cons v B=>cases v with
  |Z l=>cases B with|nil=>exact h.e4 λu a=>a.d0 λ_ _ _=>IsiPair.str_str<|.lX I e s.toks<|.ad _|cons _ _=>exact aq e
  |av l=>cases B with|nil=>exact h.e4 λu a=>a.e0 λ_ _ _ _ g b _ _ _=>IsiPair.tuple_str g b<|.lX I e _<|.ad _|cons _ _=>exact aq e
  |_=>exact aq e
def Mm (b:bc H w Q q f d m L s) (g:bg Q s.heap m j B) (e:D8 B L=J r):aV (aR H w) f.A (gw (.builtin "isinstance")<|j++[.type "bool"]) (da H w Q q f d m L s r) E s:=by
 cases B with
 |nil=>exact aq e|cons v B=>cases v with
  |I l=>cases B with|nil=>exact g.e4 λu a=>a.b9 λ_=>IsiPair.int_bool<|.lX b e _<|.ad _|cons _ _=>exact aq e
  |_=>exact aq e
def xP {x:V->R V} (e:(match B with|[o]=>x o|_=>Y)=J r) (f:bg Q s.heap m j B) {C:List ai->Prop} (b:∀u v,aT Q s.heap m u v->x v=J r->C [u]):C j:=by
 cases B with
 |nil=>exact aq e|cons v B=>cases B with|nil=>exact f.e4 λu a=>b u v a e|cons _ _=>exact aq e
def Mp (h:de H w Q q) (b:bc H w Q q f d m L s) (x:f.az=aa) (D:bg Q s.heap m j B) (e:D_ B L=J r):aV (aR H w) f.A (gw (.type "list")<|j++[]) (da H w Q q f d m L s r) E s:=by
 have x:=b.gF.a6 x;cases B with
 |nil=>exact aq e|cons v B=>cases v with
  |ref n=>cases B with
   |nil=>
    refine D.e4 λu a=>a.c7 λp C=> ?_
    have e:(match L[n]?with
      |some .dE=>ew [] L|some (.dI t)=>ew (t.map λp=>.I p.1) L|_=>Y)=J r:=e
    cases z:L[n]?with
    |none=>have e:=z▸e;exact aq e|some o=>
     have e:=z▸e;have S:=b.bC.objs n _ p z C;cases o with
     |dE=>exact bF S.2 λo M g F K=>GP b x (qK h b.bC C) (wN g F K) (l:=[]) rfl e|dI t=>exact bR S.2 λg F K M=>GP b x (qK h b.bC C) F K e|_=>exact aq e
   |cons _ _=>exact aq e
  |_=>exact aq e
def Ms (h:de H w Q q) (g:bc H w Q q f d m L s) (D:f.az=aa) (F:bg Q s.heap m j B) (e:Ec B L=J r):aV (aR H w) f.A (gw (.builtin "sum")<|j++[]) (da H w Q q f d m L s r) E s:=by
 refine xP e F (C:=λj=>aV (aR H w) f.A (gw (.builtin "sum")<|j++[]) (da H w Q q f d m L s r) E s) λu v a e=>xR e λl K e=>sx h g a K (C:=λu=>aV (aR H w) f.A (gw (.builtin "sum") [u]) (da H w Q q f d m L s r) E s) λb n M N z=> ?_;cases p:hs l with
 |none=>have e:=p▸e;exact aq e|some R=>
  rw[p]at e;have x:=xi N p;refine x.allInts.items.elim λO o=> ?_;have o:n=intItems O:=by simpa using o
  subst o
  refine sum_intListG (g.gF.a6 D) M λy S T P=>aH e▸.of (.keep g P) ?_;have t:=x.numsOf;have t:=cJ (hB<|nums_intItems _) t;refine U (preSum_eq _ _)<|U (CD<|by simp)<|am t ?_;exact .I _ _
def Mq (b:bc H w Q q f d m L s) (n:bg Q s.heap m j B) (e:Ea B L=J r):aV (aR H w) f.A (gw (.builtin "ord")<|j++[]) (da H w Q q f d m L s r) E s:=by
 cases B with
 |nil=>exact aq e|cons v B=>cases v with
  |Z l=>cases l with
   |nil=>exact aq e|cons g l=>cases l with
    |nil=>cases B with
     |nil=>
      refine n.e4 λu a=>a.d0 λx t h=> ?_;obtain⟨⟨l⟩⟩:=x;have h:l=[g]:=h
      subst h
      exact P.ord_of_char<|.lX b e _<|.I _ _
     |cons _ _=>exact aq e
    |cons _ _=>exact aq e
  |_=>exact aq e
def Eg (h:de H w Q q) (I:bc H w Q q f d m L s) (n:bg Q s.heap m j B) (e:e_ f.az b B L=J r):
  aV (aR H w) f.A (gw (rP b)<|j++ue b) (da H w Q q f d m L s r) E s:=by
 cases b with
 |bb=>exact Mo h I n e|isStr=>exact Mr I n e|hS=>exact Mm I n e|e6=>exact(
   xP e n (C:=λg=>aV (aR H w) f.A (gw (.type "tuple")<|g++[]) (da H w Q q f d m L s r) E s) λu v a p=>xR p λl K p=>sx h I a K (C:=λu=>aV (aR H w) f.A (gw (.type "tuple") [u]) (da H w Q q f d m L s r) E s) λb x M F z=>
    call_tuple_list M (λy N=>
     have D:∀b g,s.heap.get? b=J g->(y.push {cls:=.type "tuple",data:=.seq x}).get? b=J g:=λb g p=>hn _ (N b g p)
     (am (aH p)<|.of (.keep I (t:=s.toks) D)<|.av (kz _ rfl) rfl rfl (F.c3 λb g p _=>D b g p) z))<|nz F z)
 |X=>exact pd e λl e=>Mp h I l n e|set=>
  cases B with
  |cons=>exact aq e|nil=>exact n.c0<|call_set_0 λg=>bx (xC (o:=.set []) (v:={cls:=.type "set",dict:=Y,data:=.set #[] 0 (.fresh 0 0 g)}) I<|bB rfl VQ<|(setObjOf_fresh (knd:=ll H w) g).setOf (kz _ rfl)<|by decide) λa p=>am (aH e)<|.of a p
 |sum=>exact pd e λl e=>Ms h I l n e|f8=>exact Mq I n e
end
def uB (f:Gr g=ac):bz (.Call g e [] a) b=(do C2 a (<-bz g b) [] (hJ a<|gM e b) (backToKw a<|keywordEach [] b)):=by cases g<;>first|rfl|exact cW f
def Ti (g:de H w Q q) (F:cL f) (D:f.c.gl x=ac) (K:lz x=J (rP a)) (M:ue a=[])
  (N:(hJ l<|gM o f.env).any (·.1)=aa) (O:mA H w Q q f (gn i f.az u)<|nU<|hJ l<|gM o f.env):
  cb H w Q q f (aU i f.az<|.bZ a u)<|bz (.Call (.Name x C) o [] l) f.env:=λd m L s p I e=>
 yK (uU g F I D K<|rU N<|vo O I e λB j r t v h P n=>⟨by cases a<;>first|exact A3 _ _ _|exact A4 _ _ _,by
  have:=Eg (b:=a) (E:=cR H w Q q f d m L s p) g h.aP P n;rw[M,dI]at this
  exact cE this (λ_ _ z=>z.from h) λ_ _ z=>z⟩)<|uB rfl
def R7 {r:R V} (e:br (br r λv L=>br (ok [] L) λB L=>ok (v::B) L) g=J a):br r (λv L=>g [v] L)=J a:=by
 cases r with
 |none=>exact e|some x=>obtain⟨_|_,_⟩:=x<;>exact e
def IM (l:de H w Q q) (F:cL f) {n g:aG} {S r D:cl} {a:bn} {o:a_} {h:mo} {T:String} (V:f.c.gl n=ac) (K:f.c.gl g=ac) (X:lz n=J (rP h)) (Y:ue h=[.type T]) (M:lz g=J (.type T))
  (a0:rP h=.builtin "isinstance") (a1:sJ a=ac) (a2:cb H w Q q f (aU i f.az o)<|bz a f.env):
  cb H w Q q f (aU i f.az<|.bZ h [o])<|bz (.Call (.Name n S) [a,.Name g r] [] D) f.env:=by
 intro d m L s t I e
 have P:gM [a,.Name g r] f.env=[(aa,bz a f.env),(aa,bz (.Name g r) f.env)]:=BV a1;refine yK (uU l F I V X<|rU (by refine U P ?_;rfl) ?_)<|uB rfl;refine U P ?_;have e:br (aU i f.az o d L) (λv L=>e_ f.az h [v] L)=J t:=R7 e;refine KI (x:=bz a f.env)<|iz a2 I e λv u N O R p a3 C=>KI (x:=bz (.Name g r) f.env)<|uU l F p.aP K M<|Ww ⟨by refine U a0 ?_;exact A3 _ _ _,?_⟩;have:=Eg (b:=h) (E:=cR H w Q q f d m L s t) l p.aP (.cons a3 .b_) C;rw[Y]at this;exact cE this (λ_ _ z=>z.from p) λ_ _ z=>z
end
section
open PySem PySem.W PySem.Calls PyProof.Rows
variable {A:cn} {w:bQ} {L:bT} {v h u:aY} {H j:bq} {Q x:ae} {f:cj} {b:ap} {s y:aJ}
variable {a:Nat->List V->ae->R V}
def RB {F:cL f} (e:f.c.jK d=J k):d=nD k/\k<qI.length:=bR (Ie<|am F.jK e) λi g h l=>by refine U g<|U (eb _) ?_;exact⟨l,h⟩
structure Ly (T:String) (m:Nat) (i:String):Prop where
 Mj:PlainAttrs T
 slot:Slot T (nD m) i
 UY:typeOf (.builtin i)=gg (.type "method_descriptor")
def Mx (d m:Nat):oV (3+d) m=Y:=by refine U (l_ _ _) ?_;rfl
def zO {C:O->Nat->String->String->Prop} {o:O} {m:Nat} {T i:String} (e:oV (dm o) m=J (T,i)) (p:∀l,C (.X l) 0 "list" "list.append") (r:∀l,C (.X l) 1 "list" "list.extend") (s:∀l,C (.X l) 2 "list" "list.insert")
  (t:∀l,C (.X l) 3 "list" "list.pop") (w:∀l,C (.X l) 4 "list" "list.index") (z:∀o,dm o=1->C o 5 "dict" "dict.get") (D:∀l,C (.set l) 6 "set" "set.add"):C o m T i:=by
 have k:∀{d f:String},J (d,f)=J (T,i)->C o m d f->C o m T i:=λe h=>have e:=iX<|aH e;(am e.1<|am e.2 h)
 have n:dm o=1->oV 1 m=J (T,i)->C o m T i:=λq e=>by
  cases m with
  |succ m=>cases m with
   |succ m=>cases m with
    |succ m=>cases m with
     |succ m=>cases m with
      |succ m=>cases m with|zero=>exact k e<|z o q|_=>exact aq e
      |_=>exact aq e
     |_=>exact aq e
    |_=>exact aq e
   |_=>exact aq e
  |_=>exact aq e
 cases o with
 |X l=>cases m with|zero=>exact k e<|p l|succ m=>cases m with|zero=>exact k e<|r l|succ m=>cases m with|zero=>exact k e<|s l|succ m=>cases m with|zero=>exact k e<|t l|succ m=>cases m with|zero=>exact k e<|w l|_=>exact aq e
 |set l=>cases m with
  |succ m=>cases m with
   |succ m=>cases m with
    |succ m=>cases m with
     |succ m=>cases m with
      |succ m=>cases m with
       |succ m=>cases m with|zero=>exact k e<|D l|_=>exact aq e
       |_=>exact aq e
      |_=>exact aq e
     |_=>exact aq e
    |_=>exact aq e
   |_=>exact aq e
  |_=>exact aq e
 |a3 g E=>exact aq<|(Mx g m).symm.trans e|_=>exact n rfl e
def rl (s:aJ) (d:aE) (T:String):Prop:=s.TypeIs (.ref d) T/\∃e,s.heap.get? d=J e/\e.dict=Y
def rl.of {T:String} {h:dw} (g:s.heap.get? e=J h) (f:h.cls=.type T) (d:h.dict=Y):rl s e T:=⟨ax h g f,h,g,d⟩
def NI {p:aE×aE} (k:dm o=1) (r:ej A w L s.heap H p o):rl s p.1 "dict":=by
 cases o with
 |dE=>exact bF r.2 λ_ _ g d _=>.of g d.1 d.2.1|dI l=>exact ah r.2 λ_ d _=>d.elim λ_ d=>d.elim λ_ d=>d.elim λ_ d=>.of d.1 d.2.1.1 d.2.1.2.1|dS l=>exact ah r.2 λ_ d _=>d.elim λ_ d=>d.elim λ_ d=>d.elim λ_ d=>.of d.1 d.2.1.1 d.2.1.2.1|dT l=>exact ah r.2 λ_ d _=>d.elim λ_ d=>d.elim λ_ d=>d.elim λ_ d=>.of d.1 d.2.1.1 d.2.1.2.1|a3 d e=>exact bt k (by refine U (show dm (.a3 d e)=3+d from rfl) ?_;omega)|X l=>exact bt k (show(0:Nat)≠1 by decide)|set l=>exact bt k (show(2:Nat)≠1 by decide)
def R3 {o:O} {p:aE×aE} {m:Nat} {T i:String} (r:ej A w L s.heap H p o) (e:oV (dm o) m=J (T,i)):rl s p.1 T:=by
 have list:∀{l:List V},ej A w L s.heap H p (.X l)->rl s p.1 "list":=λr=>bF r.2 λ_ _ g _ _=>.of g rfl rfl
 exact zO (C:=λo _ T _=>ej A w L s.heap H p o->rl s p.1 T) e (λ_=>list) (λ_=>list) (λ_=>list) (λ_=>list) (λ_=>list) (λ_ k=>NI k)
  (λ_ r=>r.2.2.elim λ_ d=>d.elim λ_ d=>d.elim λ_ d=>d.elim λ_ d=>.of d.1 d.2.1.1 d.2.1.2.1) r
def yC {n:Nat} {l:O} {p:aE×aE} (I:bc A w L v f b H Q s) (e:Q[n]?=J o) (q:H[n]?=J p)
  (z:nb p.1 s.heap m) (r:eZ s.heap m->ej A w L m H p l) (k:dm l=dm o):
  bI A w L v f b H Q s H (Q.set n l) {s with heap:=m,toks:=d}:=
 dq (I.aB (i:=l) (g:=d) e q (.inl rfl) z (r<|I.bC.e8 (ax p (em q)<|.inl rfl) z)<|.inl k) λg h i=>⟨dn _ _ rfl,h,g,i⟩
def th {n:Nat} {l h:List V} {p:aE×aE} (g:Array ai->Array ai) (I:bc A w L v f b H Q s) (e:Q[n]?=J (.X l)) (i:H[n]?=J p)
  (m:IsL s.heap p.1 d k) (r:bg L s.heap H (g d).toList h) (z:h.length<=ar):
  bI A w L v f b H Q s H (Q.set n<|.X h) {s with heap:=s.heap.update p.1<|WS g,toks:=t}:=
 yC (l:=.X h) I e i (vZ ..) (λo=>⟨(I.bC.objs n _ p e i).1,_,_,m.update g,r.c3 o,z⟩) rfl
def NM {d:Array ai} {l:List V} (r:bg L h H d.toList l):bg L h H (d.eraseIdxIfInBounds<|d.size-1).toList l.dropLast:=have e:=r.length;(U Array.toList_eraseIdxIfInBounds<|am kw<|U List.eraseIdx_length_sub_one<|U Vw<|U Vw<|am e<|r.take _)
def Qh {c:List ai} {l:List V} {n:List<|List Nat}:bg L h H c l->yj l=J n->c.length=n.length/\∀(d:Nat) f,c[d]?=J f->∃z t,f=.str z t/\n[d]?=J z.cps.toList:=by
 induction l generalizing c n with
 |nil=>exactλr e=>r.c0<|jP e ⟨rfl,λ_ _=>aq⟩|cons g l s=>
  exactλr=>r.b7 λo c i k e=>by
   cases g with
   |Z f=>
    exact hu e λE w=>i.d0 λm t q=>bx (s k w) λC D=>⟨al (· +1) C,λd f p=>by
     cases d with
     |zero=>exact cZ m t ((aH p).symm)<|al J q.symm|succ d=>exact D d f p⟩
   |_=>exact aq e
noncomputable def Un (k:List Nat):ai->Bool|.str d _=>d.cps.toList==k|_=>aa
def QG {c:List ai} (r:nN c d):PySem.ItemsAre (ll A w) d c:=by
 induction r with
 |nil=>exact .nil|cons n t _ e=>exact .cons (rk _ _ _ _) e
def Ra {K:Type} [DecidableEq K] [BEq K] [LawfulBEq K] (k:K) {l:List<|K×V}:∀{m:List<|K×aE×ai},m.map (·.1)=l.map (·.1)->bg L h H (m.map (·.2.2)) (l.map (·.2))->kI L h H ((nS m k).map (·.2)) (l.lookup k):=by
 induction l with
 |nil=>exactλe _=>by refine U (vP.mp e) ?_;rfl|cons i l p=>
  intro m e r
  cases m with
  |nil=>exact sI e|cons d m=>
   have o:=oy e;refine bF r λn c s t q=> ?_;have q:=oy q;refine aZ (d.1=k) (λz=> ?_)<|λz=> ?_
   ·exact have f:(k==i.1)=ac:=beq_iff_eq.mpr<|am z o.1;have g:(nS (d::m) k).map (·.2)=J d.2.2:=(by simp only[nS,tu,z,decide_true,Wm]);(U g<|U gt<|U f<|ax (d.2.2) rfl<|by refine U (show d.2.2=n from q.1) ?_;exact s)
   ·exact have f:(k==i.1)=aa:=beq_eq_false_iff_ne.mpr λw=>z<|o.1.trans w.symm;have g:(nS (d::m) k).map (·.2)=(nS m k).map (·.2):=(by simp only[nS,tu,z,decide_false]);(U g<|U gt<|U f<|p o.2<|U q.2 t)
@[elab_as_elim] def JJ {i:ai} {t:List V} {p:List Int} {C:ai->Prop} (r:aT L h H i<|.av t) (e:hs t=J p) (k:∀f,(Df<|ll A w).is h p f->C (.ref f)):C i:=r.e0 λf o n m g l d r z=>k f<|zr o n m g l d<|QG<|xi r e
def sC {n:Nat} {l:List V} (e:lI Q n=J l):Q[n]?=J (.X l):=el e λo f d=>by
 cases o with
 |X _=>exact f.trans<|al (λl=>J<|O.X l)<|aH d|_=>exact aq d
def Tf {n:Nat} {l:List Int} (e:(Q[n]?).bind BK=J l):Q[n]?=J (.set l):=el e λo f d=>by
 cases o with
 |set _=>exact f.trans<|al (λl=>J<|O.set l)<|aH d|_=>exact aq d
section
variable {n:Nat} {c:List ai} {B:List V} {p:aE×aE} {r:Except Nat V×ae} {E:ai->aJ->Prop} {l:List V}
def my (A:cn) (w:bQ) (L:bT) (v:aY) (f:cj) (b:ap) (H:bq) (Q:ae) (s:aJ) (E:ai->aJ->Prop) (i:String) (p:aE×aE) (c:List ai) (r:Except Nat V×ae):Prop:=aV (aR A w) f.A (gw (.builtin i)<|.ref p.1::c) (da A w L v f b H Q s r) E s
def Rj (I:bc A w L v f b H Q s) (e:G8 n B Q=J r) (F:H[n]?=J p) (O:bg L s.heap H c B):my A w L v f b H Q s E "list.extend" p c r:=by
 cases B with
 |nil=>exact aq e|cons i B=>cases i with
  |ref q=>cases B with
   |nil=>
    refine el e λl C e=>el e λX P e=>eC e λK e=>O.e4 λD m=>m.c7 λM R=> ?_;have C:=sC C;refine bF (I.bC.objs n _ p C F).2 λh k g N z=>bF (I.bC.objs q _ M (sC P) R).2 λd S T o Y=> ?_;have t:h.size+d.size<=wg:=by refine U (lQ N)<|U (lQ o) ?_;exact aF K.2 rt
    exact yX WH (ax _ g rfl) PySem.F.entry_list_extend (PySem.F.args_list_extend_2 _ _) (XY p.1 h k M.1 d S (extend_door t)<|aF (ck _ _) t)
     (bB g T<|am (aH e)<|.of (th (λV=>V++d) I C F g (by refine U Array.toList_append ?_;exact N.j7 o)<|by refine U bH ?_;exact K.2) .a6)
   |cons _ _=>exact aq e
  |_=>exact aq e
def Qm {e:Array ai} {f:ai}:((e.extract 0 d).push f++e.extract d).toList=e.toList.take d++(f::e.toList.drop d):=by simp;exact CD<|by simp
def Rk (i:bc A w L v f b H Q s) (e:G9 n B Q=J r) (M:H[n]?=J p) (N:bg L s.heap H c B):my A w L v f b H Q s E "list.insert" p c r:=by
 cases B with
 |nil=>exact aq e|cons m B=>cases m with
  |I d=>cases B with
   |nil=>exact aq e|cons m B=>cases B with
    |nil=>
     refine el e λl D e=>eC e λC e=>N.i0 λF S o q=>o.b9 λt=> ?_;have D:=sC D;refine bF (i.bC.objs n _ p D M).2 λh k g K z=> ?_;have O:h.size=l.length:=lQ K;have P:d<2^63:=Cr (nL C.2.1<|jV.mpr z) (by decide);refine yX WJ (ax _ g rfl) PySem.F.entry_list_insert (PySem.F.args_list_insert_3 _ _ _) (XZ p.1 h k d t _ (by refine U (fitsIndex_of C.1 P) ?_;decide)<|nz K z) ⟨g,am (aH e)<|.of (th _ i D M g ?_ ?_) .a6⟩
     ·have R:min d.toNat h.size=d.toNat:=CL<|U O<|Int.toNat_le.mpr C.2.1;simp only[iA.mpr C.1,if_false,R];exact U Qm<|(K.take _).j7<|.cons q<|K.drop _
     ·have R:=C.2.2;refine U bH<|U vO<|U gY<|U Ki<|U (Gk _ _) R
    |cons _ _=>exact aq e
  |_=>exact aq e
def Rl (I:bc A w L v f b H Q s) (e:G_ n B Q=J r) (D:H[n]?=J p) (F:bg L s.heap H c B):my A w L v f b H Q s E "list.pop" p c r:=by
 cases B with
 |nil=>refine el e λl i e=>el e λo C e=>F.c0 ?_;have i:=sC i;refine bF (I.bC.objs n _ p i D).2 λd k g q z=> ?_;have C:=cJ (hB List.getLast?_eq_getElem?) C;refine ah (q.d6 C) λh K M=> ?_;have m:=th (t:=s.toks) (λN=>N.eraseIdxIfInBounds<|d.size-1) I i D g (NM q) (by refine U List.length_dropLast ?_;exact aF (Nat.sub_le _ _) z);exact yX WK (ax _ g rfl) PySem.F.entry_list_pop (PySem.F.args_list_pop_1 _) (X5 p.1 d k h (by refine U (lQ q) ?_;exact pH.symm.trans K)<|nz q z) ⟨g,am (aH e)<|.of m<|m.d2 I M⟩
 |cons _ _=>exact aq e
def GG {l:List<|List Int×V} {p:aE×aE} (S:ej A w L h H p o) (e:pk o=J l):∃i,h.DictOfH (Df<|ll A w) p.1 i/\i.map (·.1)=l.map (·.1)/\bg L h H (i.map (·.2.2)) (l.map (·.2)):=by
 cases o with
 |dE=>exact jP e<|bF S.2 λk m g f d=>cM [] (ls k #[] m g f d rfl (λ_=>eG (l:=[])) .nil) rfl .b_|dT l=>exact jP e S.2|_=>exact aq e
def Rm (o:bc A w L v f b H Q s) (e:Ha n B Q=J r) (a3:H[n]?=J p) (a4:bg L s.heap H c B):my A w L v f b H Q s E "list.index" p c r:=by
 cases B with
 |nil=>exact aq e|cons C B=>cases C with
  |Z C=>cases B with
   |nil=>
    refine el e λl V e=>el e λN a5 e=>eC e λa6 e=>a4.e4 λT D=>D.d0 λh t q=> ?_
    subst q
    have V:=sC V;refine bF (o.bC.objs n _ p V a3).2 λm k g a0 z=>bx (Qh a0 a5) λa7 a1=> ?_;have F:N.idxOf h.cps.toList<N.length:=List.idxOf_lt_length_iff.mpr<|tr.mp a6.1;have K:m.size=N.length:=kw.symm.trans a7;have P:∀(d:Nat) (F:d<m.size),∃z t,m[d]=.str z t/\N[d]?=J z.cps.toList:=λd F=>a1 d _<|pH.trans<|JY F;refine yX WI (ax _ g rfl) PySem.F.entry_list_index (PySem.F.args_list_index_2 _ _) (X4 p.1 m k (.str h t) (Un h.cps.toList) (λM a8=> ?_) (N.idxOf h.cps.toList) (U K F) ?_ ?_ ?_) ⟨g,.lX o e _<|.I _ _⟩
    ·exact(VE<|Vb.mpr a8).elim λd F=>bS (a1 d M F) λz X q _=>U q<|X6 z h X t
    ·exact vL (mX.mpr F) (nL (jV.mpr (show N.length<=ar by refine am K<|U (lQ a0) ?_;exact z))<|by decide)
    ·refine bS (P _<|U K F) λa9 X O R=> ?_;refine U O ?_;rw[fd F,Kf]at R;exact beq_iff_eq.mpr (aH R).symm
    ·intro d S Y
     refine bS (P d S) λa9 X O R=> ?_;refine U O ?_;have a2:=List.not_of_lt_findIdx (p:=(· ==h.cps.toList)) (xs:=N) (i:=d) Y;rw[fd<|am K S]at R;rw[aH R]at a2;exact a2
   |cons _ _=>exact aq e
  |_=>exact aq e
theorem kI.getD {e:Option ai} {f:Option V} (h:kI L s.heap H e f) (i:aT L s.heap H g d):aT L s.heap H (e.getD g)<|f.getD d:=by
 cases f with
 |none=>refine U (show e=Y from h) ?_;exact i|some k=>exact ah h λg q z=>U q z
def Ro {o:O} (F:cL f) (M:de A w L v) (m:bc A w L v f b H Q s) (e:Hd n B Q=J r) (a1:H[n]?=J p) (a5:bg L s.heap H c B):my A w L v f b H Q s E "dict.get" p c r:=by
 cases B with
 |nil=>exact aq e|cons k B=>cases B with
  |nil=>exact aq e|cons d B=>cases B with
   |cons _ _=>exact aq e|nil=>
    refine uV e λY a6=>el a6 λo a7 a0=>a5.i0 λz a3 C N=> ?_;have S:=m.bC.objs n _ p a7 a1
    have R:∀{K:Type} [DecidableEq K] {T:yP A w K} {k:K} {g:K->Option ai} {q:Option V} {z:ai},T.is k z=ac->s.heap.MapOf T p.1 g->kI L s.heap H (g k) q->my A w L v f b H Q s E "dict.get" p [z,a3] (.ok<|q.getD d,Q):=λa2 P h=>W7 KJ P.typeIs WE (WC _ _ _) (meets_dict_get_default _ p.1 a2 (qK M m.bC a1) _)<|ax _ P<|.of (.toks m _)<|h.getD N
    cases k with
    |I i=>exact C.b9 λt=>hu a0 λq X=>ah (Cd S X) λg P h=>R (rk _ _ _ _) P h|Z i=>exact C.d0 λi t q=>hu a0 λb4 X=>ah (Ce S<|U q X) λg P h=>R (De _ _ _ _) P h|av t=>exact el a0 λi a8 X=>hu X λq a9=>hu (D:=λq=>my A w L v f b H Q s E "dict.get" p [z,a3] (.ok<|q.getD d,Q)) a9 λl b0=>bR (GG S b0) λb5 a4 b1 b2=>JJ (A:=A) (w:=w) C a8 λb3 a2=>W7 KJ a4.typeIs WE (WC _ _ _) (meetsH_dict_get_default (Df<|ll A w) p.1 b3 (qK M m.bC a1) _) ⟨dK (dv F.pF) (by refine U uk ?_;decide),i,_,a2,a4,.of (.toks m _)<|kI.getD (Ra i b1 b2) N⟩
    |_=>exact aq a0
def Rp (g:bc A w L v f b H Q s) (e:Hb n B Q=J r) (F:H[n]?=J p) (M:bg L s.heap H c B):my A w L v f b H Q s E "set.add" p c r:=by
 cases B with
 |nil=>exact aq e|cons m B=>cases m with
  |I d=>cases B with
   |nil=>
    refine el e λl o e=>eC e λN e=>M.e4 λC h=>h.b9 λD=> ?_;have o:=Tf o;refine dq (g.bC.objs n _ p o F) λO K P=> ?_;refine call_set_add (k:=d) (rk _ _ _ _) rfl P (dK N (show gC<scanBound by decide)) λu R S=>am (aH e)<|.of (yC (d:=s.toks+1) g o F R (l:=.set<|if l.contains d then l else l++[d]) (λ_=>bB O ?_ ?_) rfl) .a6
    ·by_cases q:l.contains d=ac
     ·exact U (aK q) K
     ·exact(U (aX q)<|CC.mpr<|bB K (mZ.mpr ⟨VT,VQ⟩)<|λh T i V z=>q<|tr.mpr<|am (dk.mp V)<|am z T)
    ·refine SetOf_congr S (λi=> ?_) ?_
     ·by_cases q:l.contains d=ac
      ·refine(U (aK q) ?_)
       by_cases z:i=d
       ·subst z;simp only[decide_true,tn];exact q.symm
       ·simp[z]
      ·refine(U (aX q) ?_)
       by_cases z:i=d
       ·subst z;simp
       ·simp[z]
     ·by_cases q:l.contains d=ac
      ·exact U (aK q)<|U (aK q) rfl
      ·refine U (aX q)<|U (aX q)<|U bH ?_;rfl
   |cons _ _=>exact aq e
  |_=>exact aq e
def RC {T:String} (F:cL f) (h:de A w L v) (I:bc A w L v f b H Q s)
  (e:iu n m B Q=J r) (D:H[n]?=J p) (V:oV (dm d) m=J (T,i)) (K:bg L s.heap H c B):my A w L v f b H Q s E i p c r:=
 zO (C:=λ_ m _ i=>iu n m B Q=J r->my A w L v f b H Q s E i p c r) V (λ_ e=>(
   xP e K (C:=λg=>my A w L v f b H Q s E "list.append" p g r) λq P t N=>el N λl R N=>eC N λX N=>
    have R:=sC R
    bF (I.bC.objs n _ p R D).2 λM k g S z=>
    yX WF (ax _ g rfl) PySem.F.entry_list_append (PySem.F.args_list_append_2 _ _) (list_append p.1 M k _<|nz S z)
     ⟨g,am (aH N)<|.of (th (λY=>Y.push q) I R D g (by refine U Vc ?_;exact S.j8 t)<|by refine U bH ?_;exact X) .a6⟩)) (λ_ e=>Rj I e D K) (λ_ e=>Rk I e D K) (λ_ e=>Rl I e D K) (λ_ e=>Rm I e D K) (λd _ e=>Ro (o:=d) F h I e D K) (λ_ e=>Rp I e D K) e
end
end
section
open PySem PySem.W PySem.Calls PyProof.Rows
variable {l:cn} {w:bQ} {j:bT} {H h a:aY} {Q B:bq} {L y:ae} {f:cj} {d:ap} {s i:aJ}
structure pS (l:cn) (w:bQ) (j:bT) (H:aY) (A:en) (hd:Bool) (fr:List eE) (Q:bq) (L:ae) (s:aJ):Prop where
 bC:dy l w j H Q L s.heap
 cs:∀b o,H.get? b=J o->s.heap.get? b=J o
 jQ:∃b o,H.get? b=J o/\lm<=b
 DV:A.frames=J fr
 fv:qb H Q s.heap fr
 gF:kG A hd Q L
structure tJ (l:cn) (w:bQ) (j:bT) (H:aY) (Q:bq) (L:ae) (s:aJ) (B:bq) (y:ae) (i:aJ):Prop where
 eg:nk s i
 cI:dr Q s.heap B i.heap
 bC:dy l w j H B y i.heap
 cs:∀b o,H.get? b=J o->i.heap.get? b=J o
 hT:gA L y
def kD (l:cn) (w:bQ) (j:bT) (H:aY) (Q:bq) (L:ae) (s:aJ) (r:Except Nat V×ae) (b:rh) (i:aJ):Prop:=
 match b,r.1 with
 |.ok (.ret u),.ok v=>∃B,tJ l w j H Q L s B r.2 i/\aT j i.heap B u v|.error u,.error n=>∃B p,tJ l w j H Q L s B r.2 i/\B[n]?=J p/\u=.ref p.1/\(∃c,r.2[n]?=J (O.a3 7 c))/\qi s.heap B i.heap p.1|_,_=>False
@[elab_as_elim] def kD.on {r:Except Nat V×ae} {b:rh} {C:rh->Prop} (q:kD l w j H Q L s r b i) (c:∀u,kD l w j H Q L s r (.ok<|.ret u) i->C (.ok<|.ret u)) (e:∀u,kD l w j H Q L s r (.error u) i->C (.error u)):C b:=by
 cases b with
 |error u=>exact e u q|ok x=>cases x with|ret u=>exact c u q|_=>exact jU q
def pX (l:cn) (w:bQ) (j:bT) (H:aY) (b:de l w j H) (n:Nat) (c:Bool):Prop:=
 ∀k e L r,dT n c k e L=J r->tC b.K (.ref<|j.dg k)=ac/\
  ∀A g Q s f,zB A n->pS l w j H A c g Q L s->bg j s.heap Q f e->mj (aR l w) A (.call (.ref<|j.dg k) ⟨f,[]⟩) (kD l w j H Q L s r) s
def oa (A:en) (n:Nat):Prop:=A.depth+3*n+2<=990/\A.units+20*n+17<=8000
def bc.ko (F:cL f) (I:bc l w j H f d Q L s):pS l w j H f.A f.az f.fr Q L s:=⟨I.bC,I.cs,I.jQ,F.fv,I.fv,I.gF⟩
def pS.q8 {A:en} {f:List eE} (b:pS l w j H A e f Q L s) {c:en} (g:c.frames=A.frames) (h:c.handled=A.handled):pS l w j H c e f Q L s:=⟨b.bC,b.cs,b.jQ,g.trans b.DV,b.fv,by have:=b.gF;unfold kG at*;refine U h ?_;exact this⟩
def tJ.dO {d:ap} (I:bc l w j H f d Q L s) (c:tJ l w j H Q L s B y i):bI l w j H f d Q L s B y i:=⟨c.eg,c.cI,I.cI c.cI c.bC c.cs c.hT,c.hT⟩
theorem kD.ok {d:ap} (I:bc l w j H f d Q L s) (q:kD l w j H Q L s r (.ok<|.ret u) i):da l w j H f d Q L s r u i:=by
 obtain⟨n|v,y⟩:=r
 ·exact q.elim
 ·exact ah q λB c e=>ax B (c.dO I) e
def kD.er {d:ap} (I:bc l w j H f d Q L s) (q:kD l w j H Q L s r (.error u) i):cR l w j H f d Q L s r u i:=by
 obtain⟨n|v,y⟩:=r
 ·exact bS q λB p c e=>cZ B p (c.dO I) e
 ·exact q.elim
def Ep {d:ap} (I:bc l w j H f d Q L s) (h:mj (aR l w) A (.call g ⟨b,[]⟩) (kD l w j H Q L s r) s):
  aV (aR l w) A (gw g b) (da l w j H f d Q L s r) (cR l w j H f d Q L s r) s:=by
 refine Dg<|C4 h λc i q=> ?_;exact q.on (λu q=>q.ok I) λu q=>q.er I
def oa.q9 (R:oa A n):zB A n:=⟨aF (ck _ 2) R.1,aF (ck _ 17) R.2⟩
def FO (c:de l w j H) (F:cL f) (m:oa f.A n) (C:pX l w j H c n f.az) {h:List ai} (I:bc l w j H f d Q L s) (p:bg j s.heap Q h g)
  (e:dT n f.az k g L=J r):mx (aR l w) (.ref<|j.dg k) s.heap/\aV (aR l w) f.A (gw (.ref<|j.dg k) h) (da l w j H f d Q L s r) (cR l w j H f d Q L s r) s:=
 bx (C k g L r e) λt u=>⟨keeps_K t _ λb o q=>I.cs _ _<|c.qc b o q,Ep I<|u f.A f.fr Q s h m.q9 (I.ko F) p⟩
def L2 (I:bc l w j H f d Q L s) (n:c∈oc) (q:¬(c=1\/c=7)):
  bI l w j H f d Q L s (Q++[(s.heap.objs.size+1,s.heap.objs.size)]) (L++[.a3 c []]) {s with heap:=(s.heap.push CX).push<|pP (j.ca c) s.heap.objs.size}:=by
 have k:∀b g,s.heap.get? b=J g->((s.heap.push CX).push<|pP (j.ca c) s.heap.objs.size).get? b=J g:=λb g e=>hn _<|hn _ e;have r:((s.heap.push CX).push<|pP (j.ca c) s.heap.objs.size).get? (s.heap.objs.size+1)=J (pP (j.ca c) s.heap.objs.size):=by heap_get
 have u:((s.heap.push CX).push<|pP (j.ca c) s.heap.objs.size).get? s.heap.objs.size=J (jp [] 0):=by heap_get
 refine dq (I.iJ (o:=.a3 c []) (p:=(s.heap.objs.size+1,s.heap.objs.size)) (c:=s.toks) k ⟨n,by refine U (aX q) ?_;exact r,Wg _,[],0,u,.b_⟩ (ig _)<|bE _) λh b m=>⟨dn _ _ rfl,b,h,m⟩
def Qi (e:pe.lookup c=J k):c∈oc/\¬(c=1\/c=7):=
 have b:∀x∈pe,x.1∈oc/\¬(x.1=1\/x.1=7):=by decide
 b _ (nB e)
def HF {v:V} {b:Type} {x:Option b} {r:b} {C:V->Prop} (e:(if qA v=ac then x else Y)=J r) (k:x=J r->C .a6):C v:=by
 cases v with
 |a6=>exact k e|_=>exact aq e
def tP (l:cn) (w:bQ) (j:bT) (H:aY):Prop:=∀A b c Q L s u x,oa A 0->pS l w j H A c b Q L s->aT j s.heap Q u x->
 mx (aR l w) (.ref<|j.ca 1) s.heap/\mj (aR l w) A (.call (.ref<|j.ca 1) ⟨[u],[]⟩) (kD l w j H Q L s (.ok<|.ref L.length,L++[.a3 1 [(0,x)]])) s
def Tk (p:de l w j H) (F:cL f) (a6:oa f.A n) (N:pX l w j H p n f.az) (b9:tP l w j H) (c0:Gr g=ac)
  (c1:cb l w j H f (aU (dT n f.az) f.az b4)<|bz g f.env) (R:(hJ a0<|gM b1 f.env).any (·.1)=aa) (c3:mA l w j H f (gn (dT n f.az) f.az b5)<|nU<|hJ a0<|gM b1 f.env):
  cb l w j H f (aU (dT n f.az) f.az<|.bi b4 b5)<|bz (.Call g b1 [] a0) f.env:=by
 intro d Q L s O I e
 refine yK (iz c1 I e λv u a1 P b6 K S a7=>rU R<|qG I K<|vo c3 K.aP a7 λc4 a5 A D h E b2 M=> ?_)<|uB c0;have m:=K.trans E;have S:=E.d2 K.aP S
 have a2:∀{g:ai} {r:Except Nat V×ae},mx (aR l w) g h.heap/\aV (aR l w) f.A (gw g a5) (da l w j H f d D A h r) (cR l w j H f d D A h r) h->
   mx (aR l w) g h.heap/\aV (aR l w) f.A (gw g a5) (da l w j H f d Q L s r) (cR l w j H f d Q L s r) h:=
  λz=>⟨z.1,cE z.2 (λ_ _ z=>z.from m) λ_ _ z=>z.from I m⟩
 have a8:∀c,aT j h.heap D u (.c2 c)->(match pe.lookup c with
   |some k=>br (dT n f.az k (.ref A.length::c4)<|A++[.a3 c []]) λr y=>if qA r then ok (.ref A.length) y else Y|none=>Y)=J O->mx (aR l w) u h.heap/\aV (aR l w) f.A (gw u a5) (da l w j H f d Q L s O) (cR l w j H f d Q L s O) h:=λc S e=>S.h4 (by
  cases a4:pe.lookup c with
  |none=>have e:=a4▸e;exact aq e|some k=>have e:=a4▸e;exact a2 ((by
    refine(λc5 c6 c7 c8=>bx (Qi a4) λc9 d0=> ?_) (p.hk.init c k a4).1 (p.hk.init c k a4).2.1 (p.hk.init c k a4).2.2.1 (p.hk.init c k a4).2.2.2;have X:p.K.In h.heap:=λb o q=>E.aP.cs _ _<|p.qc b o q;refine⟨keeps_K c8 _ X,Dg<|qm e λa9 q T=>bx (N k _ _ _ q) λ_ d1=> ?_⟩;have m:=L2 E.aP c9 d0;obtain⟨R,g,b0,t,d3⟩:=h;refine make_core (makes_of X c5) (CY X c6) (λx=>bind_fn X x c7) (.inl rfl) ?_;have b7:(D++[(R.objs.size+1,R.objs.size)])[A.length]?=J (R.objs.size+1,R.objs.size):=am E.aP.bC.bb qx;refine C4 (d1 _ f.fr _ _ (.ref (R.objs.size+1)::a5) ⟨?_,?_⟩ ((m.aP.ko F).q8 rfl rfl)<|.cons (.ref b7)<|m.h1 E.aP b2) λb8 i z=> ?_
    ·exact aF (show f.A.depth+1+3*n<=f.A.depth+3*n+2 by refine U (gv _ _ _) ?_;exact ig _) a6.1
    ·exact aF (show f.A.units+1+20*n<=f.A.units+20*n+17 by refine U (gv _ _ _) ?_;exact hD (by decide) _) a6.2
    ·revert z T
     cases a9 with
     |mk x a1=>cases x with|error d4=>exactλT z=>z.on (λu z=>z.elim) λu z=>am (aH T)<|(z.er m.aP).from E.aP m|ok v=>exactλT z=>z.on (λu z=>ah (z.ok m.aP) λP K b3=>⟨HF (C:=λv=>aT j i.heap P u v->u=.none) T (λ_ d2=>d2) b3,HF (C:=λ_=>da l w j H f d D A _ O (.ref<|R.objs.size+1) i) T λT=>am (aH T)<|.of (m.trans K)<|.ref<|K.cI.mu b7⟩) λu z=>z.elim)))
 cases v with
 |aA k=>exact S.j5<|a2<|FO p F a6 N E.aP b2 M|c2 c=>cases c with
  |zero=>exact a8 0 S M|succ c=>cases c with
   |zero=>exact S.h4<|a2 (xP M b2 (C:=λa5=>mx (aR l w) (.ref<|j.ca 1) h.heap/\aV (aR l w) f.A (gw (.ref<|j.ca 1) a5) (da l w j H f d D A h O) (cR l w j H f d D A h O) h) λu v b e=>have z:=b9 f.A f.fr f.az D A h u v ⟨aF (ha (ck _ _) 2) a6.1,aF (ha (ck _ _) 17) a6.2⟩ (E.aP.ko F) b;am (aH e) ⟨z.1,Ep E.aP z.2⟩)
   |succ c=>exact a8 (c+2) S M
 |_=>exact aq M
def RA:∀b<fu.length,∀m<qI.length,fu.getD b ""≠qI.getD m "":=by decide+kernel
def P1 {e:hG} (h:e.key.isStr x=aa) (k:e.refKey=aa) (g:pO x b=J Y):pO x (e::b)=J Y:=by
 unfold pO at g ⊢
 refine U tu<|U h<|U J_<|U k ?_;exact g
def RY (f:m<qI.length):gx j h Q b e->pO (nD m) b=J Y:=by
 induction e generalizing b with
 |nil=>exactλr=>r.c0 rfl|cons x e g=>exactλr=>r.b7 λn b k c _ r=>c.elim λt c=>P1 (by refine U c ?_;exact beq_eq_false_iff_ne.mpr λz=>RA _ k _ f<|(Bj _ _).mp z) (by unfold Wz;exact U c rfl)<|g r
def NW {f:cl} {g:List bn} (h:pf o=ac):bz (.Call (.Attribute o b f) g [] e) c=(do
  let k<-bz o c
  wh f.atName
  methodCall o b f e c k (g.length+0) (hJ e<|gM g c) []):=by
 cases o<;>first|rfl|exact cW h
def Tt (K:de l w j H) (a1:cL f) (d6:oa f.A A) (a8:pX l w j H K A f.az) {h:bn} {b0:List bn} {b6 R:cl} (d7:pf h=ac) (d8:f.c.jK a2=J m)
  (b1:(b6.endLine==R.line)=ac) (b7:b0.length<20)
  (d9:cb l w j H f (aU (dT A f.az) f.az d2)<|bz h f.env) (d3:(hJ R<|gM b0 f.env).any (·.1)=aa) (e0:mA l w j H f (gn (dT A f.az) f.az c2)<|nU<|hJ R<|gM b0 f.env):
  cb l w j H f (aU (dT A f.az) f.az<|.aS d2 m c2)<|bz (.Call (.Attribute h a2 b6) b0 [] R) f.env:=by
 intro d Q L s a4 I e
 refine bx (RB (F:=a1) d8) λq e1=> ?_
 subst q
 refine U (NW d7) ?_
 have b2:Xc (b0.length+0) (hJ R<|gM b0 f.env) []=ac:=by
  unfold Xc
  refine U (vM.mpr λx b=>(Cn _).mpr<|ov.mpr<|List.any_eq_false.mp d3 x b) ?_;simp;exact iF b7 (by decide)
 have b8:C9 ac h f.env b6 R=gg R:=by unfold C9;simp[b1]
 refine bd (iz d9 I e λv u a5 b3 V a0 e2 O=>bd<|oH ?_)
 unfold methodCall
 refine U b2 ?_;cases v with
 |ref a7=>
  refine e2.c7 λp c3=> ?_
  have O:(match a5[a7]?with
   |some h=>if mO h m then br (gn (dT A f.az) f.az c2 d a5) λa6 L=>(match L[a7]?with
    |some (.a3 r _)=>match kX.lookup (r,m)with|some k=>dT A f.az k (.ref a7::a6) L|none=>Y
    |_=>iu a7 m a6 L)else Y
   |none=>Y)=J a4:=O
  cases b9:a5[a7]?with
  |none=>rw[b9]at O;exact aq O|some c0=>
   have O:=b9▸O;refine eC O λS O=> ?_;have a9:K.K.In V.heap:=λb h q=>a0.aP.cs _ _<|K.qc b h q;have d4:=a0.aP.bC.objs a7 _ p b9 c3
   have d5:∀(g:ai),aV (aR l w) f.A (getMethod (.ref p.1) (nD m)<|do return(<-importBound h f.env).getD ac) (λD i=>D=(g,[.ref p.1])/\i=V) (λ_ _=>False) V->
     (∀a6 b4 x M P,bI l w j H f d b3 a5 V M x P->bg j P.heap M b4 a6->(match x[a7]?with
      |some (.a3 r _)=>match kX.lookup (r,m)with|some k=>dT A f.az k (.ref a7::a6) x|none=>Y
      |_=>iu a7 m a6 x)=J a4->
      mx (aR l w) g P.heap/\aV (aR l w) f.A (gw g<|.ref p.1::b4) (da l w j H f d M x P a4) (cR l w j H f d M x P a4) P)->
     aV (aR l w) f.A (wf [.ref p.1] (calleeOf ac h f.env (.ref p.1)<|nD m)>>=λD=>C9 ac h f.env b6 R>>=λc4=>C2 c4 D.1 D.2 (hJ R<|gM b0 f.env) []) (da l w j H f d Q L s a4) (cR l w j H f d Q L s a4) V:=by
    intro g t S
    refine bd<|ln<|cE t (λD i z=> ?_) λ_ _ z=>z.elim;obtain⟨rfl,rfl⟩:=z;exact bd<|zj b8<|rU d3<|qG I a0<|vo e0 a0.aP O λa6 b4 x M P N c1 E=>bx (S a6 b4 x M P N c1 E) λT e3=>⟨T,cE e3 (λ_ _ z=>z.from<|a0.trans N) λ_ _ z=>z.from I<|a0.trans N⟩
   have b5:(∀r c5,c0≠.a3 r c5)->(oV (dm c0) m).isSome=ac->aV (aR l w) f.A (wf [.ref p.1] (calleeOf ac h f.env (.ref p.1)<|nD m)>>=λD=>C9 ac h f.env b6 R>>=λc4=>C2 c4 D.1 D.2 (hJ R<|gM b0 f.env) []) (da l w j H f d Q L s a4) (cR l w j H f d Q L s a4) V:=λc6 S=>by
    refine(KE.mp S).elim λe4 S=> ?_;obtain⟨T,t⟩:=e4
    have c7:=(
      zO (C:=λ_ e5 e6 e7=>Ly e6 e5 e7) S (λ_=>⟨yM,WF,PySem.F.type_list_append⟩) (λ_=>⟨yM,WH,PySem.F.type_list_extend⟩)
       (λ_=>⟨yM,WJ,PySem.F.type_list_insert⟩) (λ_=>⟨yM,WK,PySem.F.type_list_pop⟩) (λ_=>⟨yM,WI,PySem.F.type_list_index⟩)
       (λ_ _=>⟨PySem.F.plainAttrs_dict,KJ,PySem.F.type_dict_get⟩)<|λ_=>⟨PySem.F.plainAttrs_set,PySem.F.slot_set_add,PySem.F.type_set_add⟩)
    refine bx (R3 d4 S) λe8 e9=>d5 (.builtin t) (getMethod_builtin e8 c7.Mj c7.slot c7.UY (λa2 c8=>by injection c8 with c8;subst c8;exact e9) ⟨rfl,rfl⟩) λa6 b4 x M P N c1 E=>⟨A3 _ _ _,?_⟩;have f0:dm c0≠4:=λz=>aq (z▸S:oV 4 m=J (T,t));refine ah (N.hT.kind b9 f0) λc9 q d0=> ?_
    have E:iu a7 m a6 x=J a4:=by
     have E:=q▸E;cases c9 with
     |a3 r c5=>exact(A5 (o:=c0) (c:=r) d0.symm).elim λd1 z=>(c6 _ _ z).elim|_=>exact E
    exact RC a1 K N.aP E (N.cI.mu c3) S c1
   cases c0 with
   |a3 r c5=>
    refine(KE.mp S).elim λk S=>Gm d4 λf1 f5 f2 T f3 f6 f7 f4=> ?_;have g:=W2 (name:=("":aG))<|(K.hk.sN r f1).2<|Hq S;have t:=K.hk.jK r m k S;refine d5 (.ref<|j.dg k) (method_fn a9 f3 g.1 g.2 t.1 t.2 (by show(lookIn (nD m)<|jp f2 T).map _=_;rw[KR,RY e1 f4];rfl) ⟨rfl,rfl⟩) λa6 b4 x M P N c1 E=> ?_;refine ah (N.hT.kind b9<|λz=>(λe=>Hq S<|.inl e)<|CG (n:=3) z) λf8 q d0=>(A5 (c:=r) d0).elim λd1 z=> ?_
    subst z
    rw[q]at E;dsimp only at E;have E:=S▸E;exact FO K a1 d6 a8 N.aP (.cons (.ref<|N.cI.mu c3) c1) E
   |X _=>exact b5 (λ_ _=>nofun) S|set _=>exact b5 (λ_ _=>nofun) S|dE=>exact b5 (λ_ _=>nofun) S|dI _=>exact b5 (λ_ _=>nofun) S|dS _=>exact b5 (λ_ _=>nofun) S|dT _=>exact b5 (λ_ _=>nofun) S
 |_=>exact aq O
end
section
open PySem PySem.W PySem.Calls PyProof.Rows
variable {B:cn} {w:bQ} {A:bT} {L h j:aY} {H d:bq} {Q k:ae} {f:cj} {t v:ap} {s i:aJ}
def jL (f:cj) (b:aE):Prop:=b=f.env.locals\/∃x,f.env.cells.lookup x=J b
structure ne (f:cj) (H:bq) (h:aY) (d:bq) (j:aY):Prop where
 df:∃ν,d=H++ν/\∀p∈ν,h.get? p.1=Y/\h.get? p.2=Y
 gI:∀b o,h.get? b=J o->¬fb H b->¬jL f b->∃sl,j.get? b=J {o with slots:=sl}/\((∀es ep,o.data≠.dict es ep)->sl=o.slots)
 kp:∀b,jL f b->(∃o,h.get? b=J o)->∃o,j.get? b=J o
def dr.c1 (f:cj) (a:dr H h d j) (n:∀b,jL f b->¬fb H b):ne f H h d j:=⟨a.df,λb o e q _=>a.gI b o e q,λb x y=>y.elim λo e=>ah (a.gI b o e<|n b x) λc z _=>⟨_,z⟩⟩
def bc.kp (I:bc B w A L f t H Q s) (x:jL f b):¬fb H b/\∃o,s.heap.get? b=J o/\((∃c g,o.data=.dict c g)\/∃a,o.data=.cell a):=x.elim (λz=>U z ⟨I.env.oh,ah I.env.fy λm n _=>eY n λo c g h l _=>⟨o,h,.inl<|dn c g l⟩⟩) λz=>z.elim λx e=>bx (I.env.jf x b e) λn y=>⟨n,bS y λo a h l=>ax o h<|.inr ⟨a,l⟩⟩
def bc.mg (I:bc B w A L f t H Q s) {o:dw} (x:jL f b) (e:s.heap.get? b=J o) (a:o.data=.seq c n):False:=ah (I.kp x).2 λg h z=>have q:g=o:=aH<|h.symm.trans e;z.elim (λz=>fq z λ_ _ z=>nomatch (q▸z).symm.trans a) λz=>z.elim λ_ z=>nomatch (q▸z).symm.trans a
def xU (I:bc B w A L f t H Q s) (h:jL f b) (l:nb b s.heap g):eZ s.heap g:=λc o e q=>(l.2 c λz=>fq q.2 λ_ _ a=>I.mg h (am z e) a).trans e
structure ct (B:cn) (w:bQ) (A:bT) (L:aY) (f:cj) (t:ap) (H:bq) (Q:ae) (s:aJ) (v:ap) (d:bq) (k:ae) (i:aJ):Prop where
 eg:nk s i
 cI:ne f H s.heap d i.heap
 aP:bc B w A L f v d k i
 hT:gA Q k
theorem bI.c1 (I:bc B w A L f t H Q s) (m:bI B w A L f t H Q s d k i):ct B w A L f t H Q s t d k i:=⟨m.eg,m.cI.c1 f λb x=>(I.kp x).1,m.aP,m.hT⟩
theorem ct.b1 (I:bc B w A L f t H Q s):ct B w A L f t H Q s t H Q s:=(bI.b1 I).c1 I
def ne.b5 {g:aY} {h:bq} (S:dy B w A L d Q j) (a:ne f h g d j) (e:j.get? c=Y):g.get? c=Y:=by
 cases q:g.get? c with
 |none=>rfl|some l=>
  refine ah a.df λn z _=> ?_;refine aZ (fb h c) (λm=> ?_)<|λm=> ?_
  ·exact m.elim λp m=>ah (S.e7 (b:=c)<|ax p (U z<|vQ _ m.1)<|m.2) λ_ y _=>aq<|e.symm.trans y
  ·refine aZ (jL f c) (λw=> ?_)<|λw=> ?_
   ·exact(a.kp c w ⟨l,q⟩).elim λ_ y=>aq<|e.symm.trans y
   ·exact ah (a.gI c l q m w) λ_ y _=>aq<|e.symm.trans y
theorem ne.trans {g h l:bq} {o m r:aY} {Q:ae} (S:dy B w A L h Q m) (a:ne f g o h m) (b:ne f h m l r):ne f g o l r:=ah a.df λF z u=>ah b.df λC J s=>⟨(ax (F++C) (J.trans<|U z<|bD g F C)<|λp D=>(fB.mp D).elim (u p) λq=>⟨a.b5 S (s p q).1,a.b5 S (s p q).2⟩),λc K e n y=>ah (a.gI c K e n y) λN M q=>ah (b.gI c _ M (λx=>n<|w8 (am z x) e u) y) λD E p=>ax D E<|λI=>(p I).trans<|q I,λc z x=>b.kp c z<|a.kp c z x⟩
theorem ct.trans {c e g:ap} {h l m:bq} {n o p:ae} {q r s:aJ} (a:ct B w A L f c h n q e l o r) (b:ct B w A L f e l o r g m p s):
  ct B w A L f c h n q g m p s:=⟨a.eg.trans b.eg,.trans a.aP.bC a.cI b.cI,b.aP,a.hT.trans b.hT⟩
theorem ct.b5 (I:bc B w A L f t H Q s) (a:ct B w A L f t H Q s v d k i) (e:i.heap.get? c=Y):s.heap.get? c=Y:=a.cI.b5 a.aP.bC e
def ct.e8 (I:bc B w A L f t H Q s) (a:ct B w A L f t H Q s v d k i):eZ s.heap i.heap:=λb o e c=>fq c.2 λ_ _ g=>ah (a.cI.gI b o e (I.bC.j9 e c.1) λx=>I.mg x e g) λl h q=>ye (q λ_ _ z=>nomatch g.symm.trans z) h
def ne.sub (a:ne f H h d j):nn H d:=ah a.df λb z _=>U z<|.iw H b
def ct.d2 (I:bc B w A L f t H Q s) (a:ct B w A L f t H Q s v d k i) {u:ai} {b:V} (r:aT A s.heap H u b):aT A i.heap d u b:=r.a2 (a.e8 I) a.cI.sub
def ct.mu (a:ct B w A L f t H Q s v d k i) {n:Nat} {p:aE×aE} (e:H[n]?=J p):d[n]?=J p:=a.cI.sub n p e
def mr (A:bT) (h:aY) (H:bq):zp->oC->Prop|.a1,.next=>True|.gm,.cont=>True|.aO a,.ret u=>aT A h H u a|_,_=>False
def kL (B:cn) (w:bQ) (A:bT) (L:aY) (f:cj) (t:ap) (H:bq) (Q:ae) (s:aJ) (r:bM) (a:oC) (i:aJ):Prop:=
 match r with
 |.ok g v k=>∃d,ct B w A L f t H Q s v d k i/\mr A i.heap d g a|.a4 .. =>False
def wE (m:Option aE) (h:aY) (H:bq) (c:aY) (e:aE):Prop:=∃f g T b l x,c.get? e=J f/\f.data=.fields g/\g[1]?=J (.ref T)/\T≠e/\¬fb H T/\h.get? T=Y/\c.get? T=J b/\b.cls=.type "traceback"/\b.data=.fields l/\l[3]?=J x/\(x=.none\/∃a,m=J a/\x=mm a)
def zE (f:Option aE) (h:aY) (H:bq) (a:aY) (e:aE):Prop:=wE f h H a e\/∃b c,a.get? e=J b/\b.data=.fields c/\c[1]?=J .none
def fI (B:cn) (w:bQ) (A:bT) (L:aY) (f:cj) (t:ap) (H:bq) (Q:ae) (s:aJ) (r:bM) (u:ai) (i:aJ):Prop:=
 match r with
 |.ok .. =>False|.a4 n v k=>∃d p,ct B w A L f t H Q s v d k i/\d[n]?=J p/\u=.ref p.1/\(∃a,k[n]?=J (O.a3 7 a))/\zE f.env.frame s.heap d i.heap p.1
def fH (B:cn) (w:bQ) (A:bT) (L:aY) (f:cj) (a:ap->ae->cx) (m:fo oC):Prop:=∀t H Q s r,bc B w A L f t H Q s->a t Q=J r->aV (aR B w) f.A m (kL B w A L f t H Q s r) (fI B w A L f t H Q s r) s
def qi.c1 {c:Option aE} {b:aY} {e:aE} (x:qi h H b e):zE c h H b e:=Dr x λf g T l m n o p q r s u w y a=>.inl<|zs f g T l m _ n o p q r s u w y a<|.inl rfl
def kL.from {r:bM} {h:oC} {a:ap} {b:bq} {c:ae} {e:aJ} (m:ct B w A L f t H Q s a b c e) (q:kL B w A L f a b c e r h i):kL B w A L f t H Q s r h i:=by
 cases r with
 |ok g v k=>exact ah q λd l x=>ax d (m.trans l) x|a4=>exact q.elim
def fI.from {r:bM} {u:ai} {a:ap} {b:bq} {c:ae} {e:aJ} (I:bc B w A L f t H Q s) (m:ct B w A L f t H Q s a b c e) (q:fI B w A L f a b c e r u i):fI B w A L f t H Q s r u i:=by
 cases r with
 |ok=>exact q.elim|a4 n v k=>exact gz q λd p x g h l z=>ft d p (m.trans x) g h l ((
   z.elim (λC=>Lm C λD E T F J y g h l o K M N=>.inl (Lt D E T F J y g h l o K ((λ_=>m.b5 I) T M) N)) .inr))
def cR.h2 (I:bc B w A L f t H Q s) (q:cR (b:=b) B w A L f t H Q s (.error n,a) u i):fI B w A L f t H Q s (.a4 n t a) u i:=gz q λd p m c e g h=>ft d p (m.c1 I) c e g h.c1
def zT {x:R V} {g:V->ae->cx} {r:bM} {C:Prop} (e:fg x t g=J r) (b:∀a,x=J a->fg (J a) t g=J r->C):C:=by
 cases q:x with
 |none=>exact aq (q▸e:fg Y t g=J r)|some a=>exact b a q<|am q e
def lb {p:ap->ae->R V} {m:fo ai} {g:V->ae->cx} {r:bM} {P:ai->aJ->Prop}
  (h:cb B w A L f p m) (I:bc B w A L f t H Q s) (e:fg (p t Q) t g=J r)
  (x:∀b u c l a,bI B w A L f t H Q s l c a->aT A a.heap l u b->g b c=J r->P u a):
  aV (aR B w) f.A m P (fI B w A L f t H Q s r) s:=
 zT e λo q e=>cE (h t H Q s o I q) (λu a y=>y.on (C:=λo=>fg (J o) t g=J r->P u a) (λb c l m n e=>x b u c l a m n e) e)
  λu a y=>y.on (C:=λo=>fg (J o) t g=J r->fI B w A L f t H Q s r u a) (λn c y e=>am (aH e)<|y.h2 I) e
def xu (I:bc B w A L f t H Q s) (n:ct B w A L f t H Q s b c e g)
  (h:aV (aR B w) f.A m a (fI B w A L f b c e g r) l):aV (aR B w) f.A m a (fI B w A L f t H Q s r) l:=cE h (λ_ _ z=>z) λ_ _ z=>z.from I n
def Bo {u:aY} (I:bc B w A L f t H Q s) (E:jL f b) (h:nb b s.heap u) (O:∃o,u.get? b=J o)
  (P:∀o F K,s.heap.get? b=J o->o.data=.dict F K->∃M m q,u.get? b=J M/\M.data=.dict m q) (Y:oO A f v H u):ct B w A L f t H Q s v H Q {s with heap:=u,toks:=g}:=by
 have R:=(I.kp E).1
 have S:∀{n:Nat} {p:aE×aE},H[n]?=J p->p.1≠b/\p.2≠b:=λ{n p} e=>⟨λz=>R ⟨p,em e,.inl z.symm⟩,λz=>R ⟨p,em e,.inr z.symm⟩⟩
 refine⟨dn _ _ rfl,⟨(ax ([]) ((dI H).symm)<|λ_=>eG (l:=[])),λc o e _ n=>ax o.slots ((h.2 c λz=>n<|U z E).trans e)<|λ_=>rfl,λc x y=> ?_⟩,⟨⟨I.bC.bb,λn o p N r=> ?_,I.bC.gO,I.bC.gJ⟩,λc o e=> ?_,I.jQ,Y,λC D=>⟨(I.fv C D).1,?_⟩,I.gF,I.gJ⟩,.b1 _⟩
 ·refine aZ (c=b) (λz=> ?_)<|λz=> ?_
  ·exact U z O
  ·exact y.imp λo e=>(h.2 c z).trans e
 ·exact(I.bC.objs n o p N r).keep (λa e=>(h.2 _ (S r).1).trans e) (λa e=>(h.2 _ (S r).2).trans e)<|xU I E h
 ·exact(h.2 c<|lB (I.gJ b E) e).trans<|I.cs c o e
 ·refine ju (I.fv C D).2 λa o F K N r T V X=> ?_;refine aZ (a=b) (λz=> ?_)<|λz=> ?_
  ·exact oM (P o F K (z▸T) V) λM m q a0 a1=>j_ a M m q N r (U z a0) a1 X
  ·exact j_ a o F K N r ((h.2 a z).trans T) V X
def mU {b a:Nat} {c e:V} {C:Prop} (q:aB t b c a=J e) (f:a=b->c=e->C) (g:a≠b->t a=J e->C):C:=by
 rw[qX]at q;refine aZ (a=b) (λz=> ?_)<|λz=> ?_
 ·exact f z<|aH<|(aK z).symm.trans q
 ·exact g z<|(aX z).symm.trans q
def pw {x:aG} {l:Nat} {u:ai} {M:V} {C:Unit->aJ->Prop} {E:ai->aJ->Prop} (F:cL f) (I:bc B w A L f t H Q s) (a3:f.c.loc x=J l) (b2:aT A s.heap H u M)
  (b3:∀i,ct B w A L f t H Q s (aB t l M) H Q i->C () i):aV (aR B w) f.A (Dd f.env x u) C E s:=by
 have R:=I.env;refine ah R.fy λm b4 b5=> ?_;have S:∀{y:aG},f.c.loc y=J l->y=x:=λ{y} p=>(F.inj x y l a3 p).symm;have a4:∀{b6:aY} {o:Option ai} {w:V},eZ s.heap b6->(∃u,o=J u/\aT A s.heap H u w)->∃u,o=J u/\aT A b6 H u w:=λb z=>z.imp λu y=>⟨y.1,y.2.c3 b⟩
 have K:∀a,f.env.kindOf x≠J .local->f.env.cells.lookup x=J a->∀j,j.IsCell a (J u)->nb a s.heap j->C () {s with heap:=j}:=λa a5 O j X D=>by
  have b7:jL f a:=.inr ⟨x,O⟩;have b:=xU I b7 D;have P:∃o,j.get? a=J o:=X.imp λo g=>g.1;refine b3 _<|Bo I b7 D P (λo a6 a7 e N=> ?_) ⟨(ax m (?_)<|λy h T p q r=>mU q (λz _=>(a5<|S (z▸p)▸r).elim) λ_ q=>a4 b<|b5 y h T p q r),λy c e=> ?_,R.oh,λy c e=>⟨(R.jf y c e).1,?_⟩,R.gO⟩
  ·exact bS (R.jf x a O).2 λn a1 Y a0=>have q:n=o:=aH (Y.symm.trans e)
   nomatch N.symm.trans (q▸a0:o.data=.cell a1)
  ·exact eY b4 λo a6 a7 Y a0 n=>iY o a6 a7 ((D.2 _<|vU<|R.gO x a O).trans Y) a0 n
  ·by_cases z:c=a
   ·exact have c2:y=x:=F.un y x c e<|z▸O;⟨J u,U z X,λh T p q r=>ax u rfl<|mU q (λ_ e=>e▸b2.c3 b) λn _=>(n<|aH<|(c2▸p).symm.trans a3).elim⟩
   ·exact ah (R.cell y c e) λo a8 a9=>ax o (a8.imp λc4 g=>⟨(D.2 c z).trans g.1,g.2⟩)<|λh T p q r=>mU q (λw _=>(z<|aH<|e.symm.trans<|S (w▸p)▸O).elim) λ_ q=>a4 b<|a9 h T p q r
  ·by_cases z:c=a
   ·exact z▸X.imp λo g=>ax (J u) (g.1)<|g.2
   ·exact bS (R.jf y c e).2 λo a1 Y a0=>cZ o a1 ((D.2 c z).trans Y) a0
 refine(F.loc x l a3).1.elim (λP=> ?_) λP=>P.2.elim λa O=>ah (R.cell x a O) λo b8 _=>P.1.elim (λP=>wpAny_storeName_cell F.kind P O b8<|K a (by refine U P ?_;decide) O) λP=>(by
   delta Dd
   refine U P<|U F.kind ?_;show aV (aR B w) f.A (cellOf f.env x>>=λc5=>cellSet c5<|J u) C E s
   exact bd<|wpAny_cellOf O<|wpAny_cellSet b8<|K a (by refine U P ?_;decide) O)
 refine Xv P b4 (λj a2 D=> ?_) (by refine U F.kind ?_;rfl);have b9:jL f f.env.locals:=.inl rfl;have b:=xU I b9 D;refine eY a2 λc0 b0 b1 c1 c6 c7=>b3 _<|Bo I b9 D ⟨c0,c1⟩ (λo a6 a7 e N=>rr c0 b0 b1 c1 c6) ⟨(ax _ a2<|λy h T p q r=> ?_),λy c e=> ?_,R.oh,λy c e=>⟨(R.jf y c e).1,bS (R.jf y c e).2 λo a1 Y a0=>cZ o a1 ((D.2 c<|R.gO y c e).trans Y) a0⟩,R.gO⟩
 ·exact mU q (λz e=>ax u (aK<|S<|z▸p)<|e▸b2.c3 b) λn q=>(a4 b<|b5 y h T p q r).imp λc8 z=>⟨(aX λw=>n<|aH<|(w▸p).symm.trans a3).trans z.1,z.2⟩
 ·exact ah (R.cell y c e) λo a8 a9=>ax o (a8.imp λc4 g=>⟨(D.2 c<|R.gO y c e).trans g.1,g.2⟩)<|λh T p q r=>mU q (λz _=>(r<|S (z▸p)▸P).elim) λ_ q=>a4 b<|a9 h T p q r
end
section
open PySem PySem.W PySem.Calls PyProof.Rows
variable {L:cn} {w:bQ} {H:bT} {i h e:aY} {d μ':bq} {B σ':ae} {f:cj} {r l:ap} {s A:aJ}
noncomputable def wS (a:Nat) (n:Nat) (b:Array ai):Array ai:=(b.toList.zipIdx.filterMap λ(x,k)=>if(if(1:Int)>0 then(a:Int)<=(k:Int)&&(k:Int)<(n:Int)&&((k:Int)-(a:Int)) %1==0 else(n:Int)<(k:Int)&&(k:Int)<=(a:Int)&&((a:Int)-(k:Int)) %(-1)==0)then Y else J x).toArray
def Uw {a:Nat} {c:Nat->Bool} {g:List ai}:∀{j:Nat},(∀b,j<=b->b<j+g.length->c b=bj (a<=b))->(g.zipIdx j).filterMap (λ(x,k)=>if c k then Y else J x)=g.take (a-j):=by
 induction g with
 |nil=>exactλ_=>List.take_nil.symm|cons x g p=>
  intro j n
  have m:=p (j:=j+1) λb s o=>n b (fn s) (by rw[gv]at o;exact o);have h:=n j (bE j)<|li<|hF _;refine U Kt<|U VA<|U m ?_;refine aZ (a<=j) (λf=> ?_)<|λf=> ?_
  ·rw[decide_eq_true f]at h;simp only[h,if_true];refine U (CN f)<|U (CN<|lh f) ?_;rfl
  ·rw[decide_eq_false f]at h;simp only[h,Vd,if_false];refine U (show a-j=(a-(j+1))+1 from(Nat.succ_pred_eq_of_pos<|Nat.sub_pos_of_lt<|bo f).symm) ?_;rfl
def E4 (a:Nat) (b:Array ai):wS a b.size b=(b.toList.take a).toArray:=
 al CE<|Uw (a:=a) (c:=λk=>if(1:Int)>0 then(a:Int)<=(k:Int)&&(k:Int)<(b.size:Int)&&((k:Int)-(a:Int)) %1==0 else(b.size:Int)<(k:Int)&&(k:Int)<=(a:Int)&&((a:Int)-(k:Int)) %(-1)==0) (j:=0) λf _ h=>by
  refine U (aK<|by decide)<|U (Int.emod_one _)<|U (beq_self_eq_true _)<|U (nJ _)<|U (decide_eq_true<|mX.mpr<|V5 h<|(eb _).trans kw) ?_
  exact(nJ _).trans<|decide_eq_decide.mpr jV
def NC {b:Array ai} {n:Nat} {a:Nat} {Q:Unit->aJ->Prop} {E:ai->aJ->Prop} {f:en} (p:IsL s.heap c b n) (v:a<=b.size) (D:s.heap.IsSliceOf j (.int a t) .none .none) (y:b.size<=wg)
  (F:Q () {s with heap:=s.heap.update c<|WS<|wS a b.size}):aV (aR L w) f (delItem (.ref c)<|.ref j) Q E s:=by
 have C:=p.isList;refine bR (id D) λI g u h=> ?_;have o:s.TypeIs (.ref j) "slice":=ax I g u;refine wpAny_delItem_slot C.typeIs (by decide) WG<|Xo WG C.typeIs PySem.F.entry_list_delitem ?_<|PySem.F.args_list_delitem_2 _ _;show aV _ _ (Wr (.ref j)>>=_) _ _ s;refine bd ?_
 ·unfold Wr
  refine bd<|wpAny_specialOf o slice_no_index ?_;simp only[Option.isNone_none,if_true];refine cF ?_;show aV _ _ (typeOf (.ref j)>>=_) _ _ s;refine bd<|Xw o ?_;refine U (aX<|by decide) ?_;refine U (listSliceParts_eq _) ?_;refine bd<|bd<|mn g h (x:=.none) rfl<|bd<|K8 (k:=Y) .none ?_;refine U (aX (show¬((rawPart Y==mm 0)=ac)from Ve)) ?_;refine bd<|mn g h (x:=.int a t) rfl<|bd<|K8 (k:=J a) (xm _ _) ?_;refine bd<|mn g h (x:=.none) rfl<|bd<|K8 (k:=Y) .none<|cF ?_;refine bd (m:=Wq<|.ref c) ?_
  unfold Wq
  refine bd<|Xu p rfl<|cF ?_;refine bd<|zj (sliceIndices_raw (J (a:Int)) Y Y b.size<|by decide) ?_;refine U (sliceBounds_plain _ _ _) ?_;have K:((J (a:Int)).elim 0 (clipAt b.size):Nat)=a:=(clipAt_nat _ _).trans<|CL v;refine U K ?_;refine bd<|wpAny_rule ?_;show aV _ _ (updateSeq c (wS a b.size)>>=_) _ _ _;refine bd<|wpAny_updateSeq p rfl (hz:=y) (_hz':= ?_) ?_
  ·exact bd<|wpAny_letGo<|cF<|ax _ rfl F
  ·exact U (E4 _ _)<|U Kr<|U vO<|aF (V7 _ _)<|aF v<|lh y
def Mg {c:List hG} {b:List<|Nat×V}:gx H h d c b->c.length=b.length:=by
 induction b generalizing c with
 |nil=>exactλa=>a.c0 rfl|cons x b f=>exactλa=>a.b7 λ_ _ _ _ _ a=>al (· +1)<|f a
def Mf {b:List hG}:gx H h d b c->b.any (·.refKey)=aa:=by
 induction c generalizing b with
 |nil=>exactλa=>a.c0 rfl|cons x c g=>exactλa=>a.b7 λj b _ f _ a=>f.elim λt f=>by refine U J_<|U (g a) ?_;unfold Wz;refine U f ?_;rfl
def Mi (o:k<fu.length) {u:ai} {v:V} (c:aT H h d u v) (s:Int) (t:mh):gx H h d j m->gx H h d (nQ (cO k) s (.str (cO k) t) u j) (eM m k v):=by
 induction m generalizing j with
 |nil=>exactλa=>a.c0<|.cons o ⟨t,rfl⟩ c .b_|cons x m w=>
  refineλa=>a.b7 λC j n f y g=>f.elim λD p=> ?_
  unfold nQ
  refine aZ (x.1=k) (λb=> ?_)<|λb=> ?_
  ·refine U (aK<|by refine U p<|U b ?_;exact beq_self_eq_true _)<|U (uz b) ?_;exact .cons n f c g
  ·refine U (aX<|by refine U p ?_;exactλa=>b<|D5 n o<|beq_iff_eq.mp a)<|U (rY b) ?_;exact .cons n f y<|w g
def Ik (x:aG) (g:Int) (c v:ai) (f:List hG):(nQ x g c v f).length<=f.length+1:=by
 induction f with
 |nil=>exact bE _|cons a b h=>
  unfold nQ
  cases a.key.isStr x with
  |true=>exact ig _|false=>exact dv h
def Sb {K:eQ} {x:aE} {g:List hG} {n:Nat} {f:aG} {v:ai} {R:rh->aJ->Prop} (X:K.In s.heap) (D:s.heap.get? x=J (pP C j)) (u:s.heap.get? j=J (jp g n))
  (I:CZ K C=ac) (M:tD K C f=J Y) (N:yS K C=ac) (t:g.any (·.refKey)=aa) (O:(nQ f (kB w.params f) (.str f s.toks) v g).length<=1000)
  (h:(s.heap.update j<|tB f (kB w.params f) (.str f s.toks) v).get? j=J (jp (nQ f (kB w.params f) (.str f s.toks) v g)<|putN f g n)->
   R (.ok<|.ret .none) {s with heap:=s.heap.update j<|tB f (kB w.params f) (.str f s.toks) v,toks:=s.toks+1}):
  mj (aR L w) m (.call (.builtin "object.__setattr__") ⟨[.ref x,.str f F,v],[]⟩) R s:=by
 refine osa_open X (ox:=pP C j) (od:=J<|jp g n) ⟨D,rfl,rfl,u⟩ I M λb=> ?_;refine ah (KQ N) λQ P y=> ?_;have p:tB f (kB w.params f) (.str f s.toks) v (jp g n)=jp (nQ f (kB w.params f) (.str f s.toks) v g) (putN f g n):=W3 ..;have E:(s.heap.update j<|tB f (kB w.params f) (.str f s.toks) v).get? j=J (jp (nQ f (kB w.params f) (.str f s.toks) v g)<|putN f g n):=U (v_ _ u<|by refine U p ?_;rfl)<|U p rfl;refine bd<|cF<|bd<|bd<|Dh D<|bd<|(KS X P).here ?_;refine U y ?_;refine cF (a:=J j) (bd<|cF<|bd ?_)
 unfold nsSet
 refine bd<|bd<|Xl<|cF<|bd<|K9<|bd<|Dh u ?_;dsimp only
 have c:(!g.toArray.any (·.key.isStr f)&&g.toArray.any (·.refKey))=aa:=by
  have o:g.toArray.any (λx=>x.refKey)=aa:=by refine am U_ ?_;exact t
  exact U o<|U (vH _) rfl
 refine U (W4 _ _)<|U c ?_;refine Xx u ?_;refine bd<|Xr E (Xd<|by refine U Kr<|U zd ?_;exact aI<|aj [_] [] [.n 1 Z<|.k 1000,.n 1 (.a (.a (.k 16777216) W) W) Z] rfl O) ?_;exact cF<|h E
def TG {a v:V} {k:Nat} {q:ae} {C:V->ae->Prop} (b:sU a k v B=J q) (g:∀n c j,B[n]?=J (.a3 c j)->j.length<=100/\(c≠1/\c≠7)/\k<fu.length->C (.ref n) (B.set n<|.a3 c<|eM j k v)):C a q:=by
 cases a with
 |ref n=>
  have b:(match B[n]?with|some (.a3 c j)=>if j.length<=100/\(c≠1/\c≠7)/\k<fu.length then J<|B.set n<|.a3 c<|eM j k v else Y|_=>Y)=J q:=b;cases f:B[n]?with
  |none=>have b:=f▸b;exact aq b|some o=>cases o with|a3 c j=>rw[f]at b;exact eC b λh b=>am (aH b)<|g n c j f h|_=>have b:=f▸b;exact aq b
 |_=>exact aq b
def TJ {u y:ai} {a v:V} {q:ae} {Q:Unit->aJ->Prop} {E:ai->aJ->Prop} (h:de L w H i) (I:bc L w H i f r d B s) (F:aT H s.heap d u a) (a1:aT H s.heap d y v) (j:sU a k v B=J q)
  (K:∀A,bI L w H i f r d B s d q A->Q () A):aV (aR L w) f.A (setAttr u (cO k) y) Q E s:=by
 refine TG (C:=λa q=>aT H s.heap d u a->(∀A,bI L w H i f r d B s d q A->Q () A)->aV (aR L w) f.A (setAttr u (cO k) y) Q E s) j (λn c a4 Y D F K=>F.c7 λp M=> ?_) F K;have N:¬(c=1\/c=7):=λm=>m.elim D.2.1.1 D.2.1.2;have X:h.K.In s.heap:=λb o x=>I.cs _ _<|h.qc b o x;have g:=I.bC.objs n _ p Y M;refine bS g.2.2.2 λO a5 a0 P=> ?_;have R:=(aX N).mp g.2.1;have S:=h.hk.BO c g.1 N;have a6:(nQ (cO k) (kB w.params<|cO k) (.str (cO k)<|s.toks+1) y O).length<=1000:=aF (Ik _ _ _ _ O) (U (Mg P)<|aF (dv D.1)<|by decide);refine set_plain X (ox:=pP (H.ca c) p.2) (od:=J<|jp O a5) ⟨R,rfl,rfl,a0⟩ S.2.1<|Sb (s:={s with toks:=s.toks+1}) X R a0 S.1 (S.2.2 _ D.2.2) (h.hk.sN c g.1).1 (Mf P) a6 λa7=> ?_;have T:nb p.2 s.heap<|s.heap.update p.2<|tB (cO k) (kB w.params<|cO k) (.str (cO k)<|s.toks+1) y:=vZ ..;have a8:=I.bC.e8 (ax p (em M)<|.inr rfl) T;exact dq (I.aB (i:=.a3 c<|eM a4 k v) (g:=s.toks+1+1) Y M (.inr rfl) T ⟨g.1,(aX N).mpr<|(T.2 _ g.2.2.1).trans R,g.2.2.1,_,_,a7,(Mi D.2.2 a1 _ _ P).a2 a8<|.b1 d⟩<|.inl rfl) λa9 b0 b2=>K _ ⟨dn _ _ rfl,b0,a9,b2⟩
def Ul {K D:Type} [DecidableEq K] [DecidableEq D] (g:K->D) (I:∀a b,g a=g b->a=b) {u:ai} {v:V} (E:aT H h d u v) (k:K) {f:List<|D×V}:∀{j:List<|K×ai},j.map (λx=>g x.1)=f.map (·.1)->(j.map (·.1)).Nodup->
  bg H h d (j.map (·.2)) (f.map (·.2))->(oG j k u).map (λx=>g x.1)=(eM f (g k) v).map (·.1)/\bg H h d ((oG j k u).map (·.2)) ((eM f (g k) v).map (·.2)):=by
 induction f with
 |nil=>exactλm _ _=>by refine U (vP.mp m) ?_;exact⟨rfl,.cons E .b_⟩|cons y f J=>
  intro j m t p
  cases j with
  |nil=>exact sI m|cons x j=>
   have C:=oy m;have t:=mZ.mp t;refine bF p λN O M F n=> ?_;have n:=oy n;refine aZ (x.1=k) (λc=> ?_)<|λc=> ?_
   ·have s:oG (x::j) k u=(x.1,u)::j:=by
     unfold oG
     exact U (aK<|by simp[c])<|U jW<|U (aK c)<|U (map_store_of_not_mem j k u<|am c t.1) rfl
    exact U s<|U (uz<|C.1.symm.trans<|al g c) ⟨m,.cons E<|n.2▸F⟩
   ·have s:oG (x::j) k u=x::oG j k u:=by
     unfold oG
     simp only[J_,c,decide_false,Bool.false_or,jW,if_false];cases j.any _<;>rfl
    exact U s<|U (rY λw=>c<|I _ _<|C.1.trans w) (have o:=J C.2 t.2<|n.2▸F;⟨congr (al Ka C.1) o.1,.cons (U n.1 M) o.2⟩)
def SM {K:Type} [DecidableEq K] {a:K} {u:ai} {b:List<|K×aE×ai}:a∉b.map (·.1)->b.map (C_ a u)=b:=by
 induction b with
 |nil=>exactλ_=>rfl|cons c b g=>
  intro f
  refine(U jW<|U (g λm=>f<|ra _ m) ?_)
  unfold C_
  exact U (aX λ(w:c.1=a)=>f<|am w rb) rfl
def Uk {K:Type} [DecidableEq K] {u:ai} {v:V} {n:aE} (t:aT H h d u v) (k:K) {b:List<|K×V}:∀{g:List<|K×aE×ai},g.map (·.1)=b.map (·.1)->(g.map (·.1)).Nodup->
  bg H h d (g.map (·.2.2)) (b.map (·.2))->(tF g k n u).map (·.1)=(eM b k v).map (·.1)/\bg H h d ((tF g k n u).map (·.2.2)) ((eM b k v).map (·.2)):=by
 induction b with
 |nil=>exactλc _ _=>by refine U (vP.mp c) ?_;exact⟨rfl,.cons t .b_⟩|cons y b D=>
  intro g c o m
  cases g with
  |nil=>exact sI c|cons x g=>
   have p:=oy c;have o:=mZ.mp o;refine bF m λF I E C f=> ?_;have f:=oy f;refine aZ (x.1=k) (λa=> ?_)<|λa=> ?_
   ·have s:tF (x::g) k n u=(x.1,x.2.1,u)::g:=by
     unfold tF
     refine(U (aK<|by simp[nS,a])<|U jW<|U (SM<|a▸o.1) ?_)
     unfold C_
     exact U (aK a) rfl
    exact U s<|U (uz<|p.1.symm.trans a) ⟨c,.cons t<|f.2▸C⟩
   ·have s:tF (x::g) k n u=x::tF g k n u:=by
     unfold tF
     have j:nS (x::g) k=nS g k:=by simp[nS,a]
     refine U j<|U jW<|U (show C_ k u x=x from aX a) ?_;cases(nS g k).isSome<;>rfl
    exact U s<|U (rY λw=>a<|p.1.trans w) (have j:=D p.2 o.2<|f.2▸C;⟨congr (al Ka p.1) j.1,.cons (U f.1 E) j.2⟩)
def Q2 {o:O} {a:List<|Int×V} (b:pj o=J a):dm (.dI c)=dm o:=by
 cases o with
 |dE=>rfl|dI=>rfl|_=>exact aq b
def Q3 {o:O} {a:List<|List Nat×V} (b:qE o=J a):dm (.dS c)=dm o:=by
 cases o with
 |dE=>rfl|dS=>rfl|_=>exact aq b
def Q5 {o:O} {a:List<|List Int×V} (b:pk o=J a):dm (.dT c)=dm o:=by
 cases o with
 |dE=>rfl|dT=>rfl|_=>exact aq b
def Q4 {a:List<|List Int×V} {p:aE×aE} {o:O} (S:ej L w H h d p o) (b:pk o=J a):p.2=p.1:=by
 cases o with
 |dE=>exact S.1|dT a=>exact S.1|_=>exact aq b
def He {b c j:Type} {f:b->j} {g:c->j} {a:List b} {m:List c} (h:a.map f=m.map g):a.length=m.length:=by have:=al hC h;rwa [bX,bX]at this
section
variable {u x y:ai} {a b v:V} {q:ae} {Q:Unit->aJ->Prop} {E:ai->aJ->Prop} {n:Nat} {p:aE×aE} {o z:O}
def IU {K m:Type} [DecidableEq K] [DecidableEq m] {j:yP L w K} {k:K} {g:K->m} (P:∀a b,g a=g b->a=b) (R:j.is k x=ac) {h:List<|K×ai} {c:List<|m×V} (I:bc L w H i f r d B s) (S:aT H s.heap d y v) (T:B[n]?=J o) (X:d[n]?=J p) (Y:c.length<=ar)
  (M:s.heap.DictOf j p.1 h) (N:h.map (λx=>g x.1)=c.map (·.1)) (a0:bg H s.heap d (h.map (·.2)) (c.map (·.2))) (a1:dm z=dm o)
  (u:∀C,C.DictOf j p.1 (oG h k y)->(oG h k y).map (λx=>g x.1)=(eM c (g k) v).map (·.1)->bg H C d ((oG h k y).map (·.2)) ((eM c (g k) v).map (·.2))->ej L w H C d p z)
  (a2:∀A,bI L w H i f r d B s d (B.set n z) A->Q () A):aV (aR L w) f.A (Db (.ref p.1) x y) Q E s:=by
 have D:(h.map (·.1)).Nodup:=nV M λ_ _ _ _ _ _ _ _ D=>D;exact wpAny_setItem_pairs R M (λe a3 F=>a2 _<|yC (l:=z) (d:=s.toks+1) I T X F (λO=>bx (Ul g P (S.c3 O) k N D<|a0.c3 O) λa4 a5=>u _ a3 a4 a5) a1)<|U (He N)<|aF Y rt
def TH {a:Int} {j:mh} (I:bc L w H i f r d B s) (P:aT H s.heap d y v) (F:B[n]?=J o) (K:d[n]?=J p) (b:vq a v o=J z) (R:∀A,bI L w H i f r d B s d (B.set n z) A->Q () A):aV (aR L w) f.A (Db (.ref p.1) (.int a j) y) Q E s:=by
 have S:=I.bC.objs n _ p F K
 have C:(pj o).bind (λh=>if h.length<=ar then J<|O.dI<|eM h a v else Y)=J z->aV (aR L w) f.A (Db (.ref p.1) (.int a j) y) Q E s:=λb=>el b λh T D=>eC D λx D=>by
  have D:=aH D
  subst D
  exact bx (GD S T) λk c=>bR c λm u M N=>IU (g:=id) (λ_ _ c=>c) (rk _ _ _ _) I P F K x u M N (Q2 T) (λa2 V a0 a1=>⟨k,_,V,a0,a1⟩) R
 cases o with
 |X h=>exact eC b λx b=>bF S.2 λM k m u c=>have N:a.toNat<h.length:=(J8 x.1).mpr x.2;ki_setAt m x.1 (zw N c x.1) (by refine U (lQ u) ?_;exact x.2) (R _ (am (aH b) (th (t:=s.toks) (·.setIfInBounds a.toNat y) I F K m (by refine U Array.toList_setIfInBounds ?_;exact u.set _ P)<|by refine U lZ ?_;exact c)))
 |_=>exact C b
def TK (F:cL f) (P:de L w H i) (c:bc L w H i f r d B s) (a8:aT H s.heap d u a) (T:aT H s.heap d x b) (V:aT H s.heap d y v) (h:jh a b v B=J q)
  (M:∀A,bI L w H i f r d B s d q A->Q () A):aV (aR L w) f.A (Db u x y) Q E s:=by
 cases a with
 |ref n=>
  revert M
  refine el h λo D N=>hu N λz R M=>a8.c7 λp K=> ?_;cases b with
  |I k=>exact T.b9 λj=>TH c V D K R M|Z m=>
   refine T.d0 λm j C=>el R λk a4 O=>eC O λX O=> ?_;have O:=aH O
   subst O C
   exact bx (GF (c.bC.objs n _ p D K) a4) λY y=>bR y λa9 b0 S a0=>IU (g:=λx:aG=>x.cps.toList) Jd (De _ _ _ _) c V D K X b0 S a0 (Q3 a4) (λb6 a1 a2 a3=>⟨Y,_,a1,a2,a3⟩) M
  |av j=>exact(by
    refine el R λa5 b1 b2=>el b2 λk N m=>eC m λX m=>bR (GG (c.bC.objs n _ p D K) N) λb3 a6 S a0=>JJ (A:=L) (w:=w) T b1 λb4 b5=> ?_;have C:(b3.map (·.1)).Nodup:=nV a6 λ_ _ _ _ _ _ _ _ C=>C;have Y:p.2=p.1:=Q4 (c.bC.objs n _ p D K) N
    exact wpAny_setItem_heap (dK (dv F.pF)<|by refine U uk ?_;decide) b5 a6 (λe a1 O=>M _<|am (aH m)<|yC (l:=.dT<|eM k a5 v) (d:=s.toks+_) c D K O (λa7=>bx (Uk (n:=b4) (V.c3 a7) a5 S C<|a0.c3 a7) λa2 a3=>⟨Y,_,a1,a2,a3⟩)<|Q5 N)
     (U (He S)<|aF X rt))
  |_=>exact aq R
 |_=>exact aq h
end
end
section
open PySem PySem.W PySem.Calls PyProof.Rows
variable {Q:cn} {w:bQ} {H:bT} {B h p:aY} {d m:bq} {A q:ae} {f:cj} {L y:ap} {s j:aJ}
def Jg (h:AZ e=aa):ze e t n a=gg aa:=by cases e<;>first|rfl|exact hv h
def Jf {f:eE}:ze e (J<|.Attribute o a b) n f=gg aa:=by cases e<;>rfl
def Up:ze e (J<|.Subscript o i a) n b=gg aa:=by cases e<;>rfl
def Uq {f:List bn}:swapsWithSole [.Tuple f k a] e n b=gg aa:=by cases e<;>rfl
def Um {f:List bn} (h:xn e=aa):swappedStores [.Tuple f k a] e b=gg Y:=by cases e<;>first|rfl|exact hv h
section
variable {l:Type} {r:l} {C:Prop}
def HS {o:Option ae} {x:ae->Option l} (h:(match o with|some a=>x a|none=>Y)=J r) (k:∀a,o=J a->x a=J r->C):C:=by
 cases o with
 |none=>exact aq h|some a=>exact k a rfl h
def R9 {o:Option V} {x:V->Option l} (h:(match o with|some a=>x a|none=>Y)=J r) (k:∀a,o=J a->x a=J r->C):C:=by
 cases o with
 |none=>exact aq h|some a=>exact k a rfl h
end
section
variable {g:oC} {r:bM} {C:oC->Prop}
theorem kL.a1 (a:ct Q w H B f L d A s y m q j):kL Q w H B f L d A s (.ok .a1 y q) .next j:=ax m a trivial
def kL.nx (e:J (bM.ok .a1 y q)=J r) (a:ct Q w H B f L d A s y m q j):kL Q w H B f L d A s r .next j:=am (aH e)<|.a1 a
@[elab_as_elim] def mr.i3 (z:mr H h d .a1 g) (k:C .next):C g:=by
 cases g with
 |next=>exact k|_=>exact jU z
@[elab_as_elim] def mr.ks (z:mr H h d .gm g) (k:C .cont):C g:=by
 cases g with
 |cont=>exact k|_=>exact jU z
@[elab_as_elim] def mr.i4 (z:mr H h d (.aO v) g) (k:∀u,aT H h d u v->C (.ret u)):C g:=by
 cases g with
 |ret u=>exact k u z|_=>exact jU z
end
def fH.to {r:bM} (h:fH Q w H B f t i) (I:bc Q w H B f L d A s) (o:ct Q w H B f L d A s a k b n) (e:t a b=J r):
  aV (aR Q w) f.A i (kL Q w H B f L d A s r) (fI Q w H B f L d A s r) n:=cE (h a k b n r o.aP e) (λ_ _ z=>z.from o) λ_ _ z=>z.from I o
section
variable {c:Bool->Nat->List V->ae->R V}
def I_ (F:cL f) {a:cl} (D:f.c.loc x=J n) (E:ze e (J<|.Name x z) a.line f.env=gg aa) (K:cb Q w H B f (aU (c f.az) f.az i)<|bz e f.env):
  fH Q w H B f (fj c (.aN n i) f.az)<|ml (.Assign [.Name x z] e a) f.env:=λL d A s r I e=>
 wpAny_Assign_Name (lb K I e λv u o t C h M k=>pw F h.aP D M λj b=>.nx k<|(h.c1 I).trans b) E
def Uc (k:cL f) (t:de Q w H B) {o e:bn} {a:aG} {n:Nat} {P R:a_} {U x:cl} (V:f.c.attr a=J n) (X:cb Q w H B f (aU (c f.az) f.az P)<|bz o f.env) (Y:cb Q w H B f (aU (c f.az) f.az R)<|bz e f.env):
  fH Q w H B f (fj c (.jO P n R) f.az)<|ml (.Assign [.Attribute o a U] e x) f.env:=λL d A s r I e=>
 Xf (lb Y I e λv u D E S b a0 z=>xu I (b.c1 I)<|lb X b.aP z λa2 a3 K M T h N i=>D6 (F:=k) V▸HS i λO a1 i=>
  TJ t h.aP N (h.d2 b.aP a0) a1 λj C=>.nx i<|((b.trans h).trans C).c1 I) Jf
def Ud (F:cL f) (n:de Q w H B) {U V:a_} (a3:cb Q w H B f (aU (c f.az) f.az U)<|bz o f.env) (a4:cb Q w H B f (aU (c f.az) f.az V)<|bz x f.env)
  (a5:cb Q w H B f (aU (c f.az) f.az X)<|bz e f.env):
  fH Q w H B f (fj c (.eu U V X) f.az)<|ml (.Assign [.Subscript o x a2] e t) f.env:=λL d A s r I e=>
 wpAny_Assign_Subscript (lb a5 I e λv u J K Y b M z=>xu I (b.c1 I) (lb a3 b.aP z λa9 b0 N O a0 a P C=>
  have h:=b.trans a;have M:=a.d2 b.aP M
  xu I (h.c1 I)<|lb a4 a.aP C λa6 a7 R S a1 i D k=>HS k λT a8 k=>TK F n i.aP (i.d2 a.aP P) D (i.d2 a.aP M) a8 λj E=>.nx k<|((h.trans i).trans E).c1 I)) Up
def U6 {r:bM} {C:V->Prop} (e:(match(generalizing:=false) kg [n,k] v L with|some L=>J<|bM.ok .a1 L A|none=>Y)=J r) (h:∀a b,J (bM.ok .a1 (aB (aB L n a) k b) A)=J r->C (.av [a,b])):C v:=by
 cases v with
 |av f=>cases f with|nil=>exact aq e|cons a f=>cases f with|nil=>exact aq e|cons b f=>cases f with|nil=>exact h a b e|cons _ _=>exact aq e
 |_=>exact aq e
def Uf (F:cL f) (b3:f.c.loc x=J n) (b4:f.c.loc D=J k) (b5:xn e=aa) (b6:cb Q w H B f (aU (c f.az) f.az i)<|bz e f.env):
  fH Q w H B f (fj c (.jS [n,k] i) f.az)<|ml (.Assign [.Tuple [.Name x a7,.Name D a8] b2 b1] e X) f.env:=by
 intro L d A s r I e
 refine pd (b:=f.az) e λb7 e=>Assign_Tuple (lb b6 I e λE u R O K M a4 S=> ?_) Uq (Um b5)
 revert a4
 refine U6 (v:=E) (C:=λE=>aT H K.heap O u E->_) S λa h S a4=>a4.e0 λc7 b8 T c8 Y a0 a1 b9 z=> ?_;refine b9.l7 λc0 c2 a2 c3 c4=> ?_;have a5:T.size=2:=kw.symm.trans<|al hC a2;refine Wo (items:=T) ((M.aP.gF).a6 b7) ⟨b8,Y,a0,_,a1⟩ (by refine U a5 ?_;rfl) rfl λp c5=> ?_;refine U a2 ?_;have c6:∀h o,K.heap.get? h=J o->p.get? h=J o:=λh o P=>c5 h o (dQ<|nO P) P;have N:bI Q w H B f L O R K O R {K with heap:=p}:=bI.keep M.aP (t:=K.toks) c6;show aV _ _ (W5 [nR (.Name x a7) f.env,nR (.Name D a8) f.env] [c0,c2]) _ _ _;exact bd<|ln<|tG<|pw F N.aP b3 (N.d2 M.aP c3) λa9 V=>bd<|ln<|tG<|pw F V.aP b4 (V.d2 N.aP<|N.d2 M.aP c4) λb0 a3=>cF<|.nx S<|(((M.trans N).c1 I).trans V).trans a3
def Mk {r:bM} {C:nP->V->V->Prop} (e:(match(generalizing:=false) b,hO b u v with|.Add,J r=>J<|bM.ok .a1 (aB L n r) A|.Sub,J r=>J<|bM.ok .a1 (aB L n r) A|_,_=>Y)=J r)
  (f:∀i a,J (bM.ok .a1 (aB L n<|.I<|i+a) A)=J r->C .Add (.I i) (.I a)) (h:∀i a,J (bM.ok .a1 (aB L n<|.I<|i-a) A)=J r->C .Sub (.I i) (.I a)):C b u v:=by
 cases b with
 |Add=>cases u with
  |I i=>cases v with|I a=>exact f i a e|_=>exact aq e
  |_=>exact aq e
 |Sub=>cases u with
  |I i=>cases v with|I a=>exact h i a e|_=>exact aq e
  |_=>exact aq e
 |_=>exact aq e
def T8 (F:cL f) {x:aG} {e:bn} {n:Nat} {i:a_} {U:nP} {a2 M:cl} (Y:f.c.loc x=J n) (a3:cb Q w H B f (aU (c f.az) f.az i)<|bz e f.env):
  fH Q w H B f (fj c (.ik n U i) f.az)<|ml (.AugAssign (.Name x a2) U e M) f.env:=by
 intro L d A s r h e
 refine R9 e λa4 X e=>wpAny_AugAssign_Name<|GK F h Y X λa0 O=>lb a3 h e λk D P z o E R S=> ?_;have O:=E.d2 h O
 have T:∀{k:V} {K:ai} {t:Nat},J (bM.ok .a1 (aB L n k) P)=J r->aT H o.heap z K k->aV (aR Q w) f.A (Dd f.env x K) (λ_ j=>kL Q w H B f L d A s r .next j) (fI Q w H B f L d A s r) {o with toks:=t}:=λe a5=>pw F (E.aP.toks _) Y a5 λj a=>.nx e (((E.trans<|.toks E.aP _).c1 h).trans a)
 revert O R
 refine Mk (u:=a4) (v:=k) (C:=λU a b=>aT H o.heap z D b->aT H o.heap z a0 a->aV (aR Q w) f.A (inplaceOp U a0 D) _ _ o) S (λi N e R O=>O.b9 λ_=>R.b9 λ_=>iadd_int<|T e<|.I _ _) λi N e R O=>O.b9 λ_=>R.b9 λ_=>isub_int<|T e<|.I _ _
def TD {K:ap->ae->R V} {t:fo Bool} {a:V->ae->cx} {r:bM} {P:Bool->aJ->Prop}
  (h:fJ Q w H B f K t) (I:bc Q w H B f L d A s) (e:fg (K L A) L a=J r) (M:∀v q,a v q=J r->∃b,v=.ad b)
  (N:∀b k E o,bI Q w H B f L d A s E k o->a (.ad b) k=J r->P b o):
  aV (aR Q w) f.A t P (fI Q w H B f L d A s r) s:=by
 refine zT e λx D e=>cE (h L d A s x I D ?_) (λn o i=>bS i λq m z F=>N n q m o F (z▸e:fg (J (.ok<|.ad n,q)) L a=J r)) λu o i=>i.on (C:=λx=>fg (J x) L a=J r->fI Q w H B f L d A s r u o) (λn k i e=>am (aH e)<|i.h2 I) e;obtain⟨_|v,k⟩:=x
 ·trivial
 ·exact M v k e
def Ua {h:bn} {a b:List hH} {u:a_} {x z:List cA} {i:cl} (D:fJ Q w H B f (aU (c f.az) f.az u)<|jq h f.env<|bz h f.env) (E:fH Q w H B f (bG c x f.az)<|nT a f.env) (F:fH Q w H B f (bG c z f.az)<|nT b f.env):
  fH Q w H B f (fj c (.aQ u x z) f.az)<|ml (.If h a b i) f.env:=by
 intro L d A s r I e
 refine wpAny_If<|TD D I e (λv q=>uO) λb o t C k n=> ?_;cases b with
 |true=>exact E.to I (k.c1 I) n|false=>exact F.to I (k.c1 I) n
def T9 {x:hH} {k:List hH} {i:cA} {M:List cA} (h:fH Q w H B f (fj c i f.az)<|ml x f.env) (t:fH Q w H B f (bG c M f.az)<|nT k f.env):fH Q w H B f (bG c (i::M) f.az)<|nT (x::k) f.env:=by
 intro L d A s r I e
 have e:(match fj c i f.az L A with
  |some (.ok .a1 L A)=>bG c M f.az L A|x=>x)=J r:=e
 cases b:fj c i f.az L A with
 |none=>have e:=b▸e;exact aq e|some D=>
  rw[b]at e;refine Xp<|cE (h _ _ _ _ _ I b) (λg K a=> ?_) λu K a=> ?_
  ·cases D with
   |a4=>exact a.elim|ok C E F=>
    refine ah a λn o z=> ?_;cases C with
    |a1=>exact z.i3<|t.to I o e|gm=>exact z.ks<|am (aH e)<|ax n o trivial|aO v=>exact z.i4 λu N=>am (aH e)<|ax n o N
  ·cases D with
   |ok=>exact a.elim|a4 n E F=>exact am (aH e) a
def NA {f:V} {r:bM} {C:V->V->Prop} (e:(match v,f with
  |.ref n,.I i=>match A[n]?with|some (.X a)=>if 0<=i/\i<=a.length then J<|.ok .a1 L<|A.set n<|.X<|a.take i.toNat else Y|_=>Y
  |_,_=>Y)=J r) (b:∀n (k:Nat) a,A[n]?=J (.X a)->k<=a.length->J (.ok .a1 L<|A.set n<|.X<|a.take k)=J r->C (.ref n) (.I k)):C v f:=by
 cases v with
 |ref n=>cases f with
  |I i=>
   have e:(match A[n]?with
    |some (.X a)=>if 0<=i/\i<=a.length then J<|.ok .a1 L<|A.set n<|.X<|a.take i.toNat else Y|_=>Y)=J r:=e
   cases z:A[n]?with
   |none=>have e:=z▸e;exact aq e|some o=>cases o with|X a=>have e:=z▸e;exact eC e λh e=>(J4 h.1).elim λk w=>by subst w;exact b n k a z (jV.mp h.2) e|_=>have e:=z▸e;exact aq e
  |_=>exact aq e
 |_=>exact aq e
end
end
section
open PySem PySem.W PySem.Calls PyProof.Rows
variable {A:cn} {w:bQ} {B:bT} {l h k:aY} {H d:bq} {j i:ae} {f:cj} {g v:ap} {s a:aJ}
def mq (f:cj):Prop:=∃b,f.fr=f.env::b
def oO.mp {C:aY} (D:eZ h C) (t:∀b,jL f b->∀o,h.get? b=J o->C.get? b=J o) (E:oO B f g H h):oO B f g H C:=by
 have r:∀{o:Option ai} {n:V},(∃u,o=J u/\aT B h H u n)->∃u,o=J u/\aT B C H u n:=λx=>x.imp λu y=>⟨y.1,y.2.c3 D⟩
 exact⟨ah E.fy λm F I=>ax m (eY F λo K L z b c=>iY o K L (t _ (.inl rfl) o z) b c)<|λx s n p q w=>r<|I x s n p q w,λx c e=>ah (E.cell x c e) λo s y=>ax o (s.imp λK z=>⟨t c (.inr ⟨x,e⟩) K z.1,z.2⟩)<|λs n p q w=>r<|y s n p q w,
  E.oh,λx c e=>⟨(E.jf x c e).1,bS (E.jf x c e).2 λo n z K=>cZ o n (t c (.inr ⟨x,e⟩) o z) K⟩,E.gO⟩
def B3 {K:aY} {t:Nat} {T:aE} {N:dw} {V:Array ai} (I:bc A w B l f g H j s) (m:ct A w B l f g H j s v d i a) (X:s.heap.get? T=Y) (Q:¬fb d T)
  (r:a.heap.get? T=J N) (c:N.cls=.type "traceback") (u:N.data=.fields V) (D:nb T a.heap K):ct A w B l f g H j s v d i {a with heap:=K,toks:=t}:=by
 have C:∀b o,s.heap.get? b=J o->b≠T:=λb o e=>lB X e;have R:eZ a.heap K:=λb o e q=>(D.2 b λz=>bt (c.symm.trans<|(al Obj.cls<|aH<|r.symm.trans<|am z e).trans q.1)<|by simp).trans e
 have S:∀{n:Nat} {p:aE×aE},d[n]?=J p->p.1≠T/\p.2≠T:=λ{n p} e=>⟨λz=>Q ⟨p,em e,.inl z.symm⟩,λz=>Q ⟨p,em e,.inr z.symm⟩⟩
 have h:=m.aP
 refine⟨m.eg.trans<|dn K t rfl,⟨m.cI.df,λb o e n z=>ah (m.cI.gI b o e n z) λa0 O q=>ax a0 ((D.2 b<|C b o e).trans O) q,λb z x=>x.elim λo e=>(m.cI.kp b z x).imp λa4 O=>(D.2 b<|C b o e).trans O⟩,
  ⟨⟨h.bC.bb,λn o p P E=>(h.bC.objs n o p P E).keep (λy e=>(D.2 _ (S E).1).trans e) (λy e=>(D.2 _ (S E).2).trans e) R,h.bC.gO,h.bC.gJ⟩,λb o e=>(D.2 b<|C b o<|I.cs b o e).trans<|h.cs b o e,h.jQ,?_,λF U=>⟨(h.fv F U).1,?_⟩,h.gF,h.gJ⟩,m.hT⟩
 ·exact h.env.mp R λb z o e=>(D.2 b<|(I.kp z).2.elim λo y=>C b o y.1).trans e
 ·exact ju (h.fv F U).2 λL o a1 a2 P E y M a3=>j_ L o a1 a2 P E ((D.2 L λz=>by have y:=r▸(z▸y);have M:=u▸((hB<|aH y)▸M);cases M).trans y) M a3
def TR {h:aY} (I:bc A w B l f g H j s) (x:Heap.SlotsOnly (f.fr.filterMap (·.frame)) s.heap h):ct A w B l f g H j s g H j {s with heap:=h,toks:=t}:=by have C:∀b,b∈f.fr.filterMap (·.frame)->l.get? b=Y/\¬fb H b/\∃o m r,s.heap.get? b=J o/\o.data=.dict m r:=λb N=>ah (VN.mp N) λD O e=>ju (I.fv D O).2 λL o m r E u P Q R=>(am (aH<|E.symm.trans e) ⟨u,R,o,m,r,P,Q⟩);have F:∀b o,s.heap.get? b=J o->(∀m r,o.data≠.dict m r)->h.get? b=J o:=λb o e n=>(x.2.1 b λz=>oM (C b z).2.2 λp m r y c=>n m r<|am (aH<|y.symm.trans e) c).trans e;have T:eZ s.heap h:=λb o e q=>F b o e<|fq q.2 λ_ _ c _ _ z=>nomatch c.symm.trans z;have K:∀b,fb H b->h.get? b=s.heap.get? b:=λb z=>x.2.1 b λq=>(C b q).2.1 z;have M:dr H s.heap H h:=.i1 λb o e n=>(x.2.2 b o e).imp λV y=>⟨y,λq=>al Obj.slots<|aH<|y.symm.trans<|F b o e q⟩;have S:dy A w B l H j h:=⟨I.bC.bb,λn o p E u=>(I.bC.objs n o p E u).keep (λU e=>(K _<|ax p (em u)<|.inl rfl).trans e) (λU e=>(K _<|ax p (em u)<|.inr rfl).trans e) T,I.bC.gO,I.bC.gJ⟩;exact bI.c1 I ⟨dn h t rfl,M,I.cI (t:={s with heap:=h,toks:=t}) M S (λb o e=>(x.2.1 b λz=>aq<|(C b z).1.symm.trans e).trans<|I.cs b o e)<|.b1 _,.b1 _⟩
def N3 {u:aY} {e n:Nat} {p:aE×aE} {E:List<|Nat×V} {y:Array ai} {x:ai} (I:bc A w B l f g H j s) (D:j[n]?=J (O.a3 7 E)) (F:H[n]?=J p)
  (h:s.heap.get? p.1=J {cls:=.ref<|B.ca 7,dict:=J p.2,data:=.fields y}) (M:y.size=6) (N:y[2]?=J .none) (C:u=s.heap.update p.1 (wa (·.setIfInBounds 1 x))):
  ct A w B l f g H j s g H j {s with heap:=u,toks:=e}/\u.get? p.1=J (wa (·.setIfInBounds 1 x) {cls:=.ref<|B.ca 7,dict:=J p.2,data:=.fields y}):=by
 have K:nb p.1 s.heap u:=U C<|vZ ..;have L:u.get? p.1=J (wa (·.setIfInBounds 1 x) {cls:=.ref<|B.ca 7,dict:=J p.2,data:=.fields y}):=by refine U C ?_;exact v_ _ h rfl
 refine⟨?_,L⟩
 have P:j.set n (O.a3 7 E)=j:=Vz λm=>by
  refine aZ (n=m) (λz=> ?_)<|λz=> ?_
  ·exact am z<|(gX<|qR D).trans D.symm
  ·exact ge z
 have o:=I.bC.objs n _ p D F
 have r:ej A w B u H p<|.a3 7 E:=⟨o.1,(aK<|.inr rfl).mpr (hM (y.setIfInBounds 1 x) L (by refine cJ Array.size_setIfInBounds ?_;exact M) (by refine cJ (Array.getElem?_setIfInBounds_ne<|by decide) ?_;exact N) λz=>bt z<|by decide),o.2.2.1,
  bS o.2.2.2 λQ q b c=>⟨Q,q,(K.2 _<|vU o.2.2.1).trans b,c.a2 (I.bC.e8 (ax p (em F)<|.inl rfl) K)<|.b1 H⟩⟩
 exact dq (I.aB (g:=e) D F (.inl rfl) K r<|.inl rfl) λc b _=>bI.c1 I ⟨dn u e rfl,b,P▸c,.b1 j⟩
theorem qb.fun (F:qb l H h b):h.FunFrames l b:=by
 induction b with
 |nil=>trivial|cons c r f=>have x:=F c rb;exact bB (by refine U x.1 ?_;decide) (ju x.2 λL o t u m n p q w=>fe L o m n p<|by refine U q ?_;intro _ z;cases z)<|f λe s=>F e<|ra _ s
def mB (A:cn) (w:bQ) (B:bT) (l:aY) (b:Option aE) (f:cj) (g:ap) (H:bq) (j:ae) (s:aJ) (r:bM) (u:ai) (a:aJ):Prop:=
 match r with
 |.ok .. =>False|.a4 n v i=>∃d p,ct A w B l f g H j s v d i a/\d[n]?=J p/\u=.ref p.1/\(∃c,i[n]?=J (O.a3 7 c))/\wE b s.heap d a.heap p.1
def tZ (A:cn) (w:bQ) (B:bT) (l:aY) (f:cj) (g:ap) (H:bq) (j:ae) (s:aJ) (r:bM) (u:ai) (a:aJ):Prop:=mB A w B l f.env.frame f g H j s r u a
def HJ (F:cL f) {D:List eE} (K:f.fr=f.env::D) {L:aE} (a1:f.env.frame=J L) {n:Nat} {i:ae} {d:bq} {p:aE×aE} {a2:List<|Nat×V} {y:ai} {o:Bool} {Q:Unit->aJ->Prop} {E:ai->aJ->Prop}
  (I:bc A w B l f g H j s) (m:ct A w B l f g H j s v d i a) (T:d[n]?=J p) (X:i[n]?=J (O.a3 7 a2)) (a8:∀N,tZ A w B l f g H j s (.a4 n v i) (.ref p.1) N->Q () N):
  aV (aR A w) f.A (do let r<-frameOf f.env;let B<-entryPlaceOf L o;let b<-WA y r .none (mm L) .none B;setField (.ref p.1) 1 b) Q E a:=by
 refine bd<|wpAny_frameOf_fun (by exact U F.fv<|U K rfl) (am K<|(m.aP.fv).fun) a1 λe M=> ?_;have h:=TR (t:=a.toks) m.aP (h:=e) (by refine U K ?_;exact M);refine bd (wpAny_entryPlaceOf λP a0=> ?_)
 delta WA newFields
 refine bd<|Di ?_<|a0.sizeOk5 _ _ _ _ _;have q:=bI.c1 h.aP<|bI.push h.aP {cls:=.type "traceback",dict:=Y,data:=.fields ([y,.ref L,.none,mm L,.none]++(if P.isEmpty then List.replicate 6 lk else P)).toArray};refine fT ((aK<|.inr rfl).mp (q.aP.bC.objs n _ p X T).2.1) λa9 a3 a5 b0 _=> ?_;have R:1<a9.size:=by refine U a5 ?_;decide
 have a6:=N3 (e:=a.toks) (x:=.ref e.objs.size) q.aP X T a3 a5 b0 rfl;have C:e.get? e.objs.size=Y:=oE<|bE _;have S:¬fb d e.objs.size:=λz=>ah (h.aP.bC.e7 z) λb2 b1 _=>aq<|C.symm.trans b1;have a7:e.objs.size≠p.1:=λz=>S<|ax p (em T)<|.inl z;have u:wE f.env.frame s.heap d _ p.1:=zs _ _ e.objs.size _ _ _ a6.2 rfl (Va R) a7 S ((m.trans h).b5 I (c:=e.objs.size) C) ((CS _ _<|vU a7).trans<|kz _ rfl) rfl rfl rfl<|.inr<|ax L a1 rfl;exact zk a3 rfl R<|a8 _<|ft d p (((m.trans h).trans q).trans a6.1) T rfl ⟨a2,X⟩ u
def mB.on {r:bM} {u:ai} {e:Option aE} {C:bM->ai->Prop} (q:mB A w B l e f g H j s r u a) (b:∀n v i d p c,ct A w B l f g H j s v d i a->d[n]?=J p->i[n]?=J (O.a3 7 c)->wE e s.heap d a.heap p.1->C (.a4 n v i) (.ref p.1)):C r u:=by
 cases r with
 |ok=>exact q.elim|a4 n v i=>exact gz q λd p m h z y o=>y.elim λc t=>U z<|b n v i d p c m h t o
def fI.on {r:bM} {u:ai} {C:bM->ai->Prop} (q:fI A w B l f g H j s r u a) (b:∀n v i d p c,ct A w B l f g H j s v d i a->d[n]?=J p->i[n]?=J (O.a3 7 c)->zE f.env.frame s.heap d a.heap p.1->C (.a4 n v i) (.ref p.1)):C r u:=by
 cases r with
 |ok=>exact q.elim|a4 n v i=>exact gz q λd p m e z y h=>y.elim λc o=>U z<|b n v i d p c m e o h
def BM (F:cL f) (S:mq f) {r:bM} {u:ai} (I:bc A w B l f g H j s) (q:fI A w B l f g H j s r u a) {E:ai->aJ->Prop} {Q:Unit->aJ->Prop} (h:∀b,tZ A w B l f g H j s r u b->Q () b):
  aV (aR A w) f.A (za u f.env) Q E a:=by
 refine q.on (C:=λr u=>(∀b,tZ A w B l f g H j s r u b->Q () b)->aV (aR A w) f.A (za u f.env) Q E a) (λn v i d p Y m J K e h=>S.elim λM c=>ju (m.aP.fv f.env<|U c rb).2 λL o a7 a8 D a9 b0 b1 b2=> ?_) h
 unfold za
 simp only[D];refine e.elim (λe=> ?_) λe=>bF e λa0 a1 N O P=>bd<|mn N O P ?_
 ·refine tO e λa0 a1 T b3 b4 x N O P b5 a2 a3 R a4 V y X=> ?_;refine bd<|mn N O P ?_;refine U (aK (show(ri T !=lk)=ac from bne_iff_ne.mpr nofun)) ?_;refine bd<|mn R V y ?_;refine X.elim (λz=> ?_) λz=>ah z λb6 a5 a6=> ?_
  ·exact(U z (U (aX (show¬((lk==mm L)=ac)fromλz=>nomatch cY z)) (bd (zk R V (Ck.mp y).1 (HJ F c D I (B3 (t:=a.toks) I m a3 a2 R a4 V (vZ a.heap T (wa (·.setIfInBounds 3 lk)))) J K h)))))
  ·exact U a6<|U (aH<|a5.symm.trans D)<|U (aK<|beq_self_eq_true _)<|cF<|h _<|ft d p m J rfl ⟨Y,K⟩ e
 ·exact U (aX (show¬((lk !=lk)=ac) by decide+kernel))<|HJ F c D I m J K h
def BL (I:bc A w B l f g H j s) (q:tZ A w B l f g H j s r u a)
  (h:∀b,mB A w B l c f g H j s r u b->Q () b):aV (aR A w) f.A (zc u c) Q E a:=by
 refine mB.on (C:=λr u=>(∀b,mB A w B l c f g H j s r u b->Q () b)->aV (aR A w) f.A (zc u c) Q E a) q (λn v i d p R m S V X h=>tO X λY a0 T a2 a3 x z D F J K M o N e y a1=> ?_) h
 unfold zc
 refine bd<|mn z D F ?_;refine U (aK (show(ri T !=lk)=ac from bne_iff_ne.mpr nofun)) ?_;have O:=(Ck.mp y).1;have P:=vZ a.heap T (wa (·.setIfInBounds 3 (c.elim lk λf=>mm f)));refine zk o e O<|h _<|ft d p (B3 (t:=a.toks) I m M K o N e P) S rfl ⟨R,V⟩<|zs Y a0 T _ _ (c.elim lk λf=>mm f) ((P.2 _<|vU J).trans z) D F J K M (v_ _ o<|Obj.isFreed_of_fields<|WR e _) ((Obj.cls_mapFields ..).trans N) (WR e _) (Va O) ?_;cases c with
 |none=>exact .inl rfl|some L=>exact .inr<|ax L rfl rfl
def IQ (F:cL f) (S:mq f) (I:bc A w B l f g H j s) (q:fI A w B l f g H j s r u a):
  notedBy (aR A w) f.A f.env (λe b=>C3 (aR A w) f.A f.env (fI A w B l f g H j s r) e b) u a:=
 BM F S I q λb t=>(by
   refine mB.on (C:=λo c=>tZ A w B l f g H j s r c b->C3 (aR A w) f.A f.env (fI A w B l f g H j s r) c b) t (λn v i d p y m D E h J=>tO h λR V T X Y x K L M a0 a1 a2 a3 a4 a5 N O=> ?_) t
   unfold C3
   refine bd<|mn K L M ?_;refine U (aX (show¬((ri T==lk)=ac)fromλz=>nomatch cY z)) ?_
   exact BL I J λc o=>(
     mB.on (C:=λz P=>fI A w B l f g H j s z P c) o λn v i d Q y m D E h=>ft d Q m D rfl ⟨y,E⟩<|.inl h))
def TE (F:cL f) (S:mq f) (I:bc A w B l f g H j s) (q:fI A w B l f g H j s r u a)
  (c:∀b,mB A w B l Y f g H j s r u b->Q () b):aV (aR A w) f.A (leaving f.env u) Q E a:=by
 unfold leaving
 exact bd<|BM F S I q λb e=>BL I e c
end
section
open PySem PySem.W PySem.Calls PyProof.Rows
variable {L:cn} {w:bQ} {H:bT} {A h y:aY} {j q:bq} {d p:ae} {f:cj} {v r:ap} {s t:aJ}
def NP:entryFor table "proto.unchain"=J Builtin.«proto.unchain»:=entryFor_of_tree<|by kernel_rfl
def SS {g:en} {f:aE} {x i:Int} {N:dw} {O:Array ai} {l:Option ai->aJ->Prop} (R:g.handled=J (.ref f)) (S:s.heap.get? f=J N) (V:N.data=.fields O) (X:O[2]?=J .none)
  (C:WP s.heap M x i D) (K:i<=0)
  (a0:∀y,(∀h o,s.heap.get? h=J o->y.get? h=J o)->l Y {s with heap:=y}):aV (aR L w) g (zb<|.ref M) l E s:=by
 have P:s.TypeIs (.ref M) "range_iterator":=ax _ C rfl
 unfold zb
 refine bd<|Xm<|wpAny_callSpecial?_slot (name:=eo "__next__") P WL
  (Xo WL P F.entry_range_iterator_next ?_<|F.args_range_iterator_next_1 _)
 show aV _ _ (C6 (.ref M) 0>>=_) _ _ s;refine bd<|mn C rfl (x:=mm x) rfl ?_;show aV _ _ (C6 (.ref M) 1>>=_) _ _ s;refine bd<|mn C rfl (x:=mm i) rfl ?_;show aV _ _ (C6 (.ref M) 2>>=_) _ _ s;refine bd<|mn C rfl (x:=mm D) rfl ?_;show aV _ _ (if i<=0 then _ else _) _ _ s;refine U (aK K) ?_;refine bd<|wpAny_rule ?_;refine bd ?_;show aV _ _ (newExc (.type "StopIteration") []>>=_) _ _ _;refine bd ?_;simp only[newExc,newTuple];refine bd (Di ?_<|by size_fits);refine bd (m:=firstArgMember _ _)<|zj (a:=lk) (by first|rfl|(simp only[firstArgMember];rfl)) ?_;refine Di ?_ (by size_fits)
 delta raiseNew;dsimp only
 have n:=hn {cls:=.type "tuple",dict:=Y,data:=.seq<|CE []} S;have a1:f≠(s.heap.push {cls:=.type "tuple",dict:=Y,data:=.seq<|CE []}).objs.size:=dQ<|nO n;refine bd<|wpAny_handled ?_;refine U (show g.in1.handled=J (.ref f)from R) ?_;dsimp only;refine U (aK<|by refine vI bne_iff_ne ?_;intro z;exact a1<|X7 z) ?_;refine bd<|ln<|wpAny_runValue<|K0 NP ?_;show aV _ _ (C6 (.ref f) 2>>=_) _ _ _;refine bd<|mn (hn _ n) V X ?_;refine U (aK<|by rfl) ?_;refine bd<|cF<|cF ?_;refine bd<|zk (kz _ rfl) rfl (by simp;exact dL (by decide:2<6)<|ck _ _)<|wpAny_throw ?_;refine bd<|wpAny_isInstance (T:="StopIteration") (b:=ac) (ax _ (v_ _ (kz _ rfl) rfl) rfl) isSubtype_stop ?_;refine cF<|a0 _ λh o e=> ?_;have I:=hn {cls:=.type "tuple",dict:=Y,data:=.seq<|CE []} e;refine cJ (CS _ _<|me<|nO I) ?_;exact hn _ I
def gi (a:aY) (j:bq) (b:aE):Prop:=a.get? b=Y/\¬fb j b
def nX (o:dw):Prop:=¬(o.cls=.type "tuple"/\∃a n,o.data=.seq a n)
def FZ {K:aY} {i:Nat} {F:List aE} (B:bc L w H A f v j d s) (m:ct L w H A f v j d s r q p t)
  (M:∀T∈F,gi s.heap q T/\∃O,t.heap.get? T=J O/\nX O) (D:∀b o,b∉F->t.heap.get? b=J o->K.get? b=J o):
  ct L w H A f v j d s r q p {t with heap:=K,toks:=i}:=by
 have C:∀b o,s.heap.get? b=J o->b∉F:=λb o e z=>aq<|(M b z).1.1.symm.trans e;have S:eZ t.heap K:=λb o e h=>D b o (λz=>ah (M b z).2 λO g a=>a<|aH (e.symm.trans g)▸h) e
 have U:∀{n:Nat} {a:aE×aE},q[n]?=J a->a.1∉F/\a.2∉F:=λ{n a} e=>⟨λz=>(M _ z).1.2<|ax a (em e)<|.inl rfl,λz=>(M _ z).1.2<|ax a (em e)<|.inr rfl⟩
 have g:=m.aP
 refine⟨m.eg.trans<|dn K i rfl,⟨m.cI.df,λb o e n z=>ah (m.cI.gI b o e n z) λV P h=>ax V (D b _ (C b o e) P) h,λb z x=>x.elim λo e=>(m.cI.kp b z x).imp λX P=>D b _ (C b o e) P⟩,
  ⟨⟨g.bC.bb,λn o a N I=>(g.bC.objs n o a N I).keep (λl e=>D _ _ (U I).1 e) (λl e=>D _ _ (U I).2 e) S,g.bC.gO,g.bC.gJ⟩,λb o e=>D b _ (C b o<|B.cs b o e)<|g.cs b o e,g.jQ,?_,λE R=>⟨(g.fv E R).1,?_⟩,g.gF,g.gJ⟩,m.hT⟩
 ·exact g.env.mp S λb z o e=>D b o ((B.kp z).2.elim λo l=>C b o l.1) e
 ·exact ju (g.fv E R).2 λl o Y a0 N I a1 a2 a3=>j_ l o Y a0 N I (D l _ (ju (B.fv E R).2 λa6 X _ _ a4 _ a5 _ _=>C _ _<|am (aH<|a4.symm.trans N) a5) a1) a2 a3
def w9 {x:aY} {T:aE} {l:dw} (B:bc L w H A f v j d s) (m:ct L w H A f v j d s r q p t) (o:gi s.heap q T)
  (g:t.heap.get? T=J l) (i:nX l) (C:vY T t.heap x):ct L w H A f v j d s r q p {t with heap:=x,toks:=a}:=
 FZ (F:=[T]) B m (λD h=>by refine U (dk.mp h) ?_;exact⟨o,l,g,i⟩) λb o n e=>C b o (λz=>n<|dk.mpr z) e
def ct.h3 {Q:aJ} {k:ap} {c:bq} {u:ae} (l:bc L w H A f k c u Q) (m:ct L w H A f v j d s r q p t) {o:dw} {n:Array ai} (e:s.heap.get? b=J o) (x:gi Q.heap j b)
  (g:o.data=.fields n):t.heap.get? b=J o/\gi Q.heap q b:=
    (bB (ah (m.cI.gI b o e x.2 λi=>(l.kp i).2.elim λz h=>aq<|x.1.symm.trans h.1) λD C a=>ye (a<|λ_ _ z=>nomatch g.symm.trans z) C) (x.1)<|λi=>ah m.cI.df λz a h=>x.2<|w8 (am a i) e h)
def DP (H:bT) (f:aY) (e:Bool) (j:bq) (h:aY) (l:List V) (B:aE):Prop:=∃(a:aE) (i:Nat) (b:Array ai),e=aa/\gi f j B/\IsTupIter h B a i/\IsTup h a b/\bg H h j (b.toList.drop i) l
def DN (f:aY) (j:bq) (h:aY) (l:List V) (B:aE):Prop:=∃(a b:Int) (n:Nat),gi f j B/\WP h B a n b/\l=(ic n).map (λ(e:Nat)=>V.I<|a+b*(e:Int))
def LI (g:aY) (e:Bool) (j:bq) (h:aY) (l:List V) (B:aE):Prop:=∃(f:String) (x:aG) (a:mh) (i:Nat),e=aa/\gi g j B/\(f="str_ascii_iterator"\/f="str_iterator")/\h.IsStrIter B f x a i/\l=(x.cps.toList.drop i).map (λb=>V.Z [b])
def Lx (e:aY) (b:Bool) (j:bq) (h:aY) (n i:Nat) (B:aE):Prop:=∃a:aE×aE,b=aa/\gi e j B/\j[n]?=J a/\h.IsListIter B a.1 i
def Ln (l:aY) (f:Bool) (j:bq) (h:aY) (n i:Nat) (e:aE):Prop:=∃(b:aE) (a:aE×aE) (g:ai),f=aa/\gi l j e/\gi l j b/\e≠b/\IsEnum h e b i g/\j[n]?=J a/\h.IsListIter b a.1 i
def Lu (H:bT) (b:aY) (a:Bool) (j:bq) (h:aY) (B:aE):cB->Prop|.b8 l=>DP H b a j h l B\/DN b j h l B\/LI b a j h l B|.b5 n i=>Lx b a j h n i B|.fi n i=>Ln b a j h n i B
def hN (H:bT) (b:aY) (a:Bool) (j:bq) (h:aY) (e:cB) (f:ai):Prop:=∃B,f=.ref B/\Lu H b a j h B e
def Lo (o:aY) (l:Bool) (j:bq) (h:aY) (n i:Nat) (s f:ai):Prop:=∃(e g a:aE) (b:aE×aE) (m:ai),s=.ref e/\f=.ref a/\l=aa/\gi o j e/\gi o j g/\e≠g/\IsEnumOut h e g i m a/\j[n]?=J b/\h.IsListIter g b.1 i
def oP (H:bT) (f:aY) (b:Bool) (j:bq) (h:aY) (e:cB) (g a:ai):Prop:=match e with|.fi n i=>Lo f b j h n i g a|e=>hN H f b j h e g
section
variable {Q:aJ} {k:ap} {c:bq} {u:ae}
def hN.dO (N:bc L w H A f k c u Q) (B:bc L w H A f v j d s) (m:ct L w H A f v j d s r q p t) {O:cB} {P:ai}
  (b:hN H Q.heap f.az j s.heap O P):hN H Q.heap f.az q t.heap O P:=by
 have R:=m.e8 B;refine b.imp λa b=>⟨b.1,?_⟩;have b:=b.2;cases O with
 |b8 l=>
  refine b.elim (λb=>.inl ?_) λb=>.inr<|b.elim (λb=>.inl ?_) λb=>.inr ?_
  ·exact kE b λg i e I o C F S=>bR C λJ K M z=>bx (m.h3 N K o z) λD E=>lr g i e I E (cM J D M z) (F.imp λT g=>⟨R _ _ g.1 ⟨g.2.1,g.2.2.elim λn h=>dn _ n h⟩,g.2⟩)<|S.a2 R m.cI.sub
  ·exact eY b λa F n o C e=>bx (m.h3 N C o rfl) λD E=>iY a F n E D e
  ·exact ju b λS x g i I o F C e=>bR C λJ K M z=>bx (m.h3 N K o z) λD E=>j_ S x g i I E F (cM J D M z) e
 |b5 n i=>exact fT b λe I o h C=>bR C λJ K M z=>bx (m.h3 N K o z) λD E=>hM e I E (m.mu h)<|cM J D M z|fi n i=>exact ro b λO e g I o F S T h C=>bR C λJ K M z=>bx (m.h3 N K F z) λD E=>bx (m.h3 N T o rfl) λU V=>wr O e g I V E S U (m.mu h)<|cM J D M z
def wt (e h y:aY):Prop:=∀b o a,e.get? b=J o->h.get? b=J a->y.get? b=J a
def zu (h y:aY):Prop:=∀b a,h.get? b=J a->(∀e,a.data≠.fields e)->y.get? b=J a
structure lw (L:cn) (w:bQ) (H:bT) (A:aY) (f:cj) (k:ap) (c:bq) (u:ae) (Q:aJ) (v:ap) (j:bq) (d:ae) (s t:aJ):Prop where
 dO:ct L w H A f k c u Q v j d t
 uQ:wt Q.heap s.heap t.heap
 hU:zu s.heap t.heap
def zu.av (a:zu h y):eZ h y:=λb o e f=>a b o e λ_ z=>fq f.2 λ_ _ g=>nomatch g.symm.trans z
def lw.of {F:aY} {K:Nat} {I:List aE} (M:bc L w H A f k c u Q) (m:ct L w H A f k c u Q v j d s) (C:∀T∈I,gi Q.heap j T/\∃x D,s.heap.get? T=J x/\x.data=.fields D) (E:∀b o,b∉I->s.heap.get? b=J o->F.get? b=J o):
  lw L w H A f k c u Q v j d s {s with heap:=F,toks:=K}:=
 ⟨FZ M m (λT h=>⟨(C T h).1,bS (C T h).2 λx D g a=>ax x g<|λz=>fq z.2 λ_ _ l=>nomatch a.symm.trans l⟩) E,λb o i N e=>E b i (λz=>aq<|(C b z).1.1.symm.trans N) e,λb i e n=>E b i (λz=>bS (C b z).2 λx D g a=>n D<|am (aH<|g.symm.trans e) a) e⟩
def lw.cC {l:aY} {C:Nat} {T:aE} {i:dw} {x:Array ai} (D:bc L w H A f k c u Q) (m:ct L w H A f k c u Q v j d s) (o:gi Q.heap j T) (g:s.heap.get? T=J i) (a:i.data=.fields x) (E:vY T s.heap l):
  lw L w H A f k c u Q v j d s {s with heap:=l,toks:=C}:=
 .of (I:=[T]) D m (λF h=>by refine U (dk.mp h) ?_;exact⟨o,i,x,g,a⟩) λb o n e=>E b o (λz=>n<|dk.mpr z) e
def DH (L:cn) (w:bQ) (H:bT) (A:aY) (f:cj) (k:ap) (c:bq) (u:ae) (Q:aJ) (v:ap) (j:bq) (d:ae) (s:aJ) (h:ai) (x:Option<|V×cB) (b:Option ai) (t:aJ):Prop:=match x with|none=>b=Y/\lw L w H A f k c u Q v j d s t|some (e,g)=>∃a,b=J a/\lw L w H A f k c u Q v j d s t/\aT H t.heap j a e/\oP H Q.heap f.az j t.heap g h a
def DG (L:cn) (w:bQ) (H:bT) (A:aY) (f:cj) (k:ap) (c:bq) (u:ae) (Q:aJ) (v:ap) (j:bq) (d:ae) (s:aJ) (B:aE) (x:Option<|V×cB):Prop:=aV (aR L w) f.A (zb<|.ref B) (DH L w H A f k c u Q v j d s (.ref B) x) (λ_ _=>False) s
variable {B:aE} {l:List V} {x:Option (V×cB)} {n i:Nat}
def UV (M:bc L w H A f k c u Q) (m:ct L w H A f k c u Q v j d s) (z:DP H Q.heap f.az j s.heap l B) (e:eO (.b8 l) d=J x):DG L w H A f k c u Q v j d s B x:=by
 refine kE z λa i g N o E F O=>bR E λa1 P a2 R=> ?_;cases l with
 |nil=>exact(am (aH e)<|next_tuple_end (m.aP.gF.a6 N) E F (
   Cj<|am (kw (xs:=g))<|Kd.mp<|Kj.mp O.length) λy b=>⟨rfl,.cC (C:=s.toks) M m o P R b⟩)
 |cons D l=>
  refine bF O λh T V X b=> ?_;have Y:g[i]?=J h:=pH.symm.trans (by refine am List.head?_drop<|U b ?_;rfl);have a0:g.toList.drop (i+1)=T:=by refine am List.tail_drop<|U b ?_;rfl
  exact am (aH e) (next_tuple_item E F Y λy C I=>have S:lw L w H A f k c u Q v j d s {s with heap:=y,toks:=s.toks}:=.cC M m o P R I.extBut;have K:=S.hU.av;hM h rfl S (V.c3 K) (ax B rfl<|.inl<|lr a (i+1) g N o C (F.imp λa3 a=>⟨K _ _ a.1 ⟨a.2.1,a.2.2.elim λn b=>dn _ n b⟩,a.2⟩)<|U a0<|X.c3 K))
def SV {n:Nat}:(ic<|n+1).map (λ(e:Nat)=>V.I<|a+b*(e:Int))=V.I a::(ic n).map (λ(e:Nat)=>V.I<|(a+b)+b*(e:Int)):=by refine U List.range_succ_eq_map<|U jW<|U q_ ?_;refine congr (al Ka<|al V.I<|by simp)<|Km λe _=>al V.I ?_;show a+b*((e+1:Nat):Int)=_;exact(U (Int.natCast_add _ _) (U (Ct _ _ _) (U (Cp _ _ _) (U (yG b _) (al (a+·) (al (b*(e:Int)+·)<|Int.mul_one b))))))
def S3 (D:bc L w H A f k c u Q) (m:ct L w H A f k c u Q v j d s) (h:DN Q.heap j s.heap l B) (e:eO (.b8 l) d=J x):DG L w H A f k c u Q v j d s B x:=by
 refine eY h λa g n o C K=> ?_
 subst K
 cases n with
 |zero=>
  refine am (aH e)<|?_;cases F:f.az with
  |false=>exact wpAny_pyNext_range_end (m.aP.gF.a6 F) C (by decide) λy E=>⟨rfl,.cC (C:=s.toks) D m o C rfl E⟩|true=>exact eY (F▸m.aP.gF:kG f.A ac j d) λi z S M N O=>fT ((aK<|.inr rfl).mp (m.aP.bC.objs i _ z O N).2.1) λT P U R _=>SS M P rfl R C (by decide) λy E=>⟨rfl,.cC (C:=s.toks) D m o C rfl λb o _ e=>E b o e⟩
 |succ n=>rw[SV]at e;exact am (aH e)<|wpAny_pyNext_range_item C (Vp.mpr<|hF n) λy b i=>hM _ rfl (.cC D m o C rfl i.extBut) (.I _ _)<|ax B rfl<|.inr<|.inl<|iY (a+g) g n o (am (show((n+1:Nat):Int)-1=(n:Int)from ow (n:Int) 1) b) rfl
def GS {g:V->V×cB} {C:Prop} (e:(match d[n]?with|some (.X l)=>(match l[i]?with|some a=>J<|J<|g a|none=>J Y)|_=>Y)=J x) (S:dy L w H A j d s.heap) {f:aE×aE} (D:j[n]?=J f)
  (E:∀b a h,s.heap.IsList f.1 b->b[i]?=J h->aT H s.heap j h a->J (g a)=x->C) (K:∀b,s.heap.IsList f.1 b->b[i]?=Y->Y=x->C):C:=by
 cases z:d[n]?with
 |none=>have e:=z▸e;exact aq e|some o=>cases o with
  |X l=>
   have e:=z▸e;have e:(match l[i]?with|some a=>J<|J<|g a|none=>J Y)=J x:=e;refine bF (S.objs n _ f z D).2 λb M N F _=> ?_;have I:s.heap.IsList f.1 b:=⟨_,N,rfl,M,rfl⟩;cases m:l[i]?with
   |none=>have e:=m▸e;exact K b I (Cj<|U (lQ F)<|Cx.mp m)<|aH e|some a=>have e:=m▸e;exact ah (F.d6 m) λh O P=>E b a h I (pH.symm.trans O) P<|aH e
  |_=>have e:=z▸e;exact aq e
def Gu (a0:bc L w H A f k c u Q) (m:ct L w H A f k c u Q v j d s) {V:cB} (a:hN H Q.heap f.az j s.heap V a5) (e:eO V d=J x):
  aV (aR L w) f.A (zb a5) (DH L w H A f k c u Q v j d s a5 x) (λ_ _=>False) s:=ah a λB h a6=>by
 subst h
 cases V with
 |b8 l=>exact a6.elim (λa=>UV a0 m a e) λa=>a.elim (λa=>S3 a0 m a e) λa=>(by
   refine ju a λT b C i P o F M K=>bR M λa7 a1 b1 a2=> ?_
   subst K
   have N:∀{a3:aY} {tk:Nat},vY B s.heap a3->lw L w H A f k c u Q v j d s {s with heap:=a3,toks:=tk}:=.cC a0 m o a1 a2;refine aZ (i<b.cps.size) (λE=> ?_)<|λE=> ?_
   ·have R:b.cps.toList.drop i=b.cps[i]::b.cps.toList.drop (i+1):=Kc (by refine U kw ?_;exact E);rw[R]at e;refine aH e▸F.elim (λz=> ?_) λz=> ?_
    ·subst z;exact wpAny_pyNext_ascii_item M (JY E) λy D O=>hM _ rfl (N O.extBut) (.Z ⟨#[b.cps[i]]⟩ _) ⟨B,rfl,.inr<|.inr<|j_ _ b C (i+1) P o (.inl rfl) D rfl⟩
    ·subst z;exact wpAny_pyNext_wide_item M (JY E) λy D O=>hM _ rfl (N O.extBut) (.Z ⟨#[b.cps[i]]⟩ _) ⟨B,rfl,.inr<|.inr<|j_ _ b C (i+1) P o (.inr rfl) D rfl⟩
   ·have R:b.cps[i]?=Y:=Cj<|aI E;rw[Cw<|by refine U kw ?_;exact aI E]at e;refine aH e▸F.elim (λz=> ?_) λz=> ?_
    ·subst z;exact wpAny_pyNext_ascii_end (m.aP.gF.a6 P) M R λy S=>⟨rfl,N (tk:=s.toks) S⟩
    ·subst z;exact wpAny_pyNext_wide_end (m.aP.gF.a6 P) M R λy S=>⟨rfl,N (tk:=s.toks) S⟩)
 |b5 n i=>exact(by
   refine fT a6 λE P o h M=>bR M λa7 a1 b1 a2=>GS (g:=λC=>(C,.b5 n<|i+1)) e m.aP.bC h (λF C K X R a8 z=> ?_) λF X R z=> ?_
   ·refine(am z<|wpAny_pyNext_list_item M X R λy D O=> ?_);have N:lw L w H A f k c u Q v j d s {s with heap:=y,toks:=s.toks}:=.cC a0 m o a1 a2 O.extBut;exact hM K rfl N (a8.c3 N.hU.av)<|ax B rfl<|hM E P o h D
   ·exact z▸wpAny_pyNext_list_end (m.aP.gF.a6 P) M X R λy S=>⟨rfl,.cC (C:=s.toks) a0 m o a1 a2 S⟩)
 |fi n i=>exact(by
   refine ro a6 λV E b3 P o O b2 S h M=>bR M λa7 a1 b1 a2=> ?_
   have N:∀{a3:aY} {tk:Nat},(∀b o,b≠B->b≠V->s.heap.get? b=J o->a3.get? b=J o)->lw L w H A f k c u Q v j d s {s with heap:=a3,toks:=tk}:=λb4=>.of (I:=[B,V]) a0 m (λT a9=>(bY.mp a9).elim (λz=>by refine U z ?_;exact⟨o,_,_,S,rfl⟩) λz=>by refine U (dk.mp z) ?_;exact⟨O,a7,_,a1,a2⟩) λb O a4 b0=>b4 b O (λz=>a4<|z▸rb) (λz=>a4<|z▸ra _ rb) b0
   refine GS (g:=λC=>(.av [.I i,C],.fi n<|i+1)) e m.aP.bC h (λF C K X R a8 z=> ?_) λF X R z=> ?_
   ·refine(am z<|wpAny_pyNext_enum_item S M X R b2 λy T D a9 b6 b7=> ?_);have N:=N (tk:=s.toks+1) b7;exact hM _ rfl N (.av a9 rfl rfl (.cons (.I _ _)<|.cons (a8.c3 N.hU.av) .b_) (show 2<=ar by decide))<|DC B V _ E _ rfl rfl P o O b2 T h D
   ·exact z▸wpAny_pyNext_enum_end (m.aP.gF.a6 P) S M X R λy D=>⟨rfl,N (tk:=s.toks) λb o _ a4 b0=>D b o a4 b0⟩)
def QB (M:bc L w H A f k c u Q) (m:ct L w H A f k c u Q v j d s)
  (h:oP H Q.heap f.az j s.heap (.fi n i) D b):aV (aR L w) f.A (K4 (.Tuple z g E) D b) (λ_ t=>lw L w H A f k c u Q v j d s t/\hN H Q.heap f.az j t.heap (.fi n i) D) (λ_ _=>False) s:=
 Ll h λe N a l F O P R o S J K x T=>by
  subst O P
  refine wpAny_letOwnedTupleGo_enum K λy I C=>⟨.cC (C:=s.toks) M m o K rfl C.extBut,e,rfl,wr N l F R o S J I x ?_⟩;exact bR T λU V X Y=>cM U (C.extBut _ _ (vU J) V) X Y
end
end
section
open PySem PySem.W PySem.Calls PyProof.Rows
variable {H:cn} {w:bQ} {L:bT} {Q h p:aY} {B y:bq} {j u:ae} {f:cj} {A l:ap} {s m:aJ}
def LH (c:Bool) (a:Nat) (r:Except Nat (List V)×ae):Prop:=match r.1 with|.ok d=>∃b,gb c a d=J b/\eO b r.2≠Y|.error _=>True
def zD (H:cn) (w:bQ) (L:bT) (Q:aY) (f:cj) (a:Nat) (A:ap) (B:bq) (j:ae) (s:aJ) (r:Except Nat (List V)×ae) (c:ai) (m:aJ):Prop:=match r.1 with|.ok d=>∃b y,gb f.az a d=J b/\bI H w L Q f A B j s y r.2 m/\hN L s.heap f.az y m.heap b c|.error _=>False
def rD (H:cn) (w:bQ) (L:bT) (Q:aY) (f:cj) (k:Nat->List V->ae->R V) (a:Nat) (d:List a_) (b:bn):Prop:=
 ∀A B j s r,bc H w L Q f A B j s->gn k f.az d A j=J r->LH f.az a r->
  aV (aR H w) f.A (bz b f.env) (λx c=>aV (aR H w) f.A (pyIter x) (zD H w L Q f a A B j s r) (cR H w L Q f A B j s r) c) (cR H w L Q f A B j s r) s
def Is (f: -1000000<=a/\a<=1000000) (g: -1000000<=b/\b<=1000000) (i:c=1\/c=2\/c= -1):0<=tz a b c/\tz a b c<=2000000:=by
 have h:∀{a b d:Int},-1000000<=a->b<=1000000->1<=d->0<=(if a<b then(b-a-1)/d+1 else 0)/\(if a<b then(b-a-1)/d+1 else 0)<=2000000:=λ{a b d} o s n=>by
  refine aZ (a<b) (λz=> ?_)<|λz=> ?_
  ·refine U (aK z) ?_;have e:0<=b-a-1:=Int.sub_nonneg_of_le<|Int.sub_pos_of_lt z;have q:=Int.ediv_le_self d e;have r:=Int.ediv_nonneg e (nL (by decide) n)
   omega
  ·refine U (aX z) ?_;decide
 refine i.elim (λz=> ?_) λz=>z.elim (λz=> ?_) λz=> ?_
 ·subst z;exact h f.1 g.2 (by decide)
 ·subst z;exact h f.1 g.2 (by decide)
 ·subst z;exact h g.1 f.2<|by decide
def uK (h: -2000000<=x/\x<=2000000):Wt x=ac:=nI.mpr ⟨decide_eq_true<|nL (by decide) h.1,decide_eq_true<|Cr h.2<|by decide⟩
def TS (i: -1000000<=a/\a<=1000000) (g: -1000000<=b/\b<=1000000) (n:c=1\/c=2\/c= -1):Wu a b c=ac:=by
 have z:=Is i g n;have w:∀{e:Int},-1000000<=e/\e<=1000000->Wt e=ac:=λh=>uK ⟨nL (by decide) h.1,nL h.2<|by decide⟩;have t:∀{d:Int},-1000000<=d->d<=1000000-> -2000000<=b+d/\b+d<=2000000:=λh f=>⟨Vi g.1 h,Vi g.2 f⟩
 unfold Wu
 refine U (w i)<|U (w g)<|U (uK ⟨nL (by decide) z.1,z.2⟩) ?_;refine n.elim (λz=> ?_) λz=>z.elim (λz=> ?_) λz=> ?_
 ·subst z;refine U (aK<|by decide)<|U (uK (x:=b+(1-1))<|t (by decide)<|by decide)<|U (tn _) ?_;rfl
 ·subst z;refine U (aK<|by decide)<|U (uK (x:=b+(2-1))<|t (by decide)<|by decide)<|U (tn _) ?_;rfl
 ·subst z;refine U (aX<|by decide)<|U (uK (x:=b+(-1+1))<|t (by decide)<|by decide)<|U (tn _) ?_;rfl
def Fa {b:List V} {c:cB} {C:List V->cB->Prop} (h:qB 2 b=J c) (a:∀n,C [.ref n]<|.fi n 0):C b c:=by
 cases b with
 |nil=>exact aq h|cons v b=>cases v with
  |ref n=>cases b with|nil=>exact am (aH h)<|a n|cons _ _=>exact aq h
  |_=>exact aq h
def Ir {d:List V} {e:cB} {C:List V->cB->Prop} (h:qB 1 d=J e) (f:∀a,-(ar:Int)<=a/\a<=ar->C [.I a] (.b8<|(qN 0 a 1).map V.I))
  (g:∀a b c,(-(ar:Int)<=a/\a<=ar)->(-(ar:Int)<=b/\b<=ar)->(c=1\/c=2\/c= -1)->C [.I a,.I b,.I c] (.b8<|(qN a b c).map V.I)):C d e:=by
 cases d with
 |nil=>exact aq h|cons v d=>cases v with
  |I a=>cases d with
   |nil=>exact eC h λq h=>am (aH h)<|f a q|cons v d=>cases v with
    |I b=>cases d with
     |nil=>exact aq h|cons v d=>cases v with
      |I c=>cases d with|nil=>exact eC h λq h=>(am (aH h)<|g a b c ⟨q.1,q.2.1⟩ ⟨q.2.2.1,q.2.2.2.1⟩ q.2.2.2.2)|cons _ _=>exact aq h
      |_=>exact aq h
    |_=>exact aq h
  |_=>exact aq h
def GU {n i:Nat} {g:V->V×cB} {x:Option<|Option<|V×cB} (e:x=(match j[n]?with|some (.X a)=>(match a[i]?with|some v=>J<|J<|g v|none=>J Y)|_=>Y)) (h:x≠Y):∃a,j[n]?=J (O.X a):=by
 cases z:j[n]?with
 |none=>have e:=z▸e;exact(h e).elim|some o=>cases o with|X a=>exact⟨a,rfl⟩|_=>have e:=z▸e;exact(h e).elim
section
variable {k:Nat->List V->ae->R V}
def Bm {y:bq} {c:aJ} (I:bc H w L Q f A B j s) (b:bI H w L Q f A B j s y u c) (h:c.heap.get? a=Y):gi s.heap y a:=⟨b.b5 I h,λz=>ah (b.aP.bC.e7 z) λo e _=>aq<|h.symm.trans e⟩
def Bn {y:bq} {b:aJ} (I:bc H w L Q f A B j s) (a:bI H w L Q f A B j s y u b):gi s.heap y b.heap.objs.size:=Bm I a<|oE<|bE _
def R8 (e:br x (λv j=>br (ok [] j) λa j=>ok (v::a) j)=J r):br x (λv j=>ok [v] j)=J r:=by
 cases x with
 |none=>exact e|some x=>obtain⟨_|_,_⟩:=x<;>exact e
def T6 (a1:cb H w L Q f (aU k f.az C)<|bz F f.env):rD H w L Q f k 0 [C] F:=by
 intro A B j s r I e a2
 have e:br (aU k f.az C A j) (λv j=>ok [v] j)=J r:=R8 e;refine iz a1 I e λv U R N h K X T=> ?_;have a3:=aH T
 subst a3
 refine ah (a2:∃Y,_/\_) λY O a4=> ?_;have a5:=O;refine pd (b:=f.az) (x:=qB 0 [v]) (by cases S:f.az<;>rw[S]at O<;>exact O) λS O=> ?_;have P:∀{V:dw},hN L s.heap f.az N (h.heap.push V) Y (.ref h.heap.objs.size)->zD H w L Q f 0 A B j s (.ok [v],R) (.ref h.heap.objs.size) {h with heap:=h.heap.push V}:=λr=>dD Y N a5 (K.trans<|bI.push K.aP _) r;have o:=Bn I K;cases v with
 |av M=>exact X.e0 λa V E a6 D c d a0 z=>
   have t:IsTup h.heap a E:=⟨V,D,c,a6,d⟩
   iter_tuple t<|P<|am (aH O)<|ax _ rfl<|.inl<|lr a 0 E S o (cM _ (kz _ rfl) rfl rfl) (t.push _)<|a0.c3 λq o e _=>hn _ e
 |Z M=>
  refine X.d0 λz t q=> ?_
  subst q
  cases a:z.cps.all (· <128)with
  |true=>exact wpAny_pyIter_ascii a<|P<|aH O▸(ax _ rfl<|.inr<|.inr<|j_ _ z t 0 S o (.inl rfl) (cM _ (kz _ rfl) rfl rfl) rfl)|false=>exact wpAny_pyIter_wide a<|P<|aH O▸(ax _ rfl<|.inr<|.inr<|j_ _ z t 0 S o (.inr rfl) (cM _ (kz _ rfl) rfl rfl) rfl)
 |ref a=>
  refine X.c7 λc d=> ?_;have O:=aH O
  subst O
  refine(GU (n:=a) (i:=0) (g:=λv=>(v,.b5 a 1)) rfl a4).elim λM D=>bF (K.aP.bC.objs a _ c D d).2 λE q t a0 z=> ?_;exact wpAny_pyIter_list ⟨_,t,rfl,q,rfl⟩<|P<|ax _ rfl<|hM c S o d<|cM _ (kz _ rfl) rfl rfl
 |_=>exact aq O
def T5 (n:de H w L Q) (F:cL f) {T:List bn} (a8:f.c.gl x=ac) (R:lz x=J (.type "range")) (a9:(hJ E<|gM T f.env).any (·.1)=aa)
  (b0:mA H w L Q f (gn k f.az a5)<|nU<|hJ E<|gM T f.env):rD H w L Q f k 1 a5<|.Call (.Name x a7) T [] E:=by
 intro A B j s r I e X
 refine yK (uU n F I a8 R<|rU a9<|cE (b0 A B j s _ I e) (λb1 i q=> ?_) λ_ _ z=>z) (uB rfl)
 revert X
 refine q.on λS u K D a6 X=>⟨A4 _ _ _,ah (X:∃O,_/\_) λO Y b7=> ?_⟩;have b2:qB 1 S=J O:=by cases b3:f.az<;>rw[b3]at Y<;>exact Y
 have P:∀(a b c:Int) (g d v:mh) (a0:Nat),-(ar:Int)<=a/\a<=ar-> -(ar:Int)<=b/\b<=ar->c=1\/c=2\/c= -1->O=.b8 ((qN a b c).map V.I)->
   aV (aR H w) f.A (pyIter<|.ref i.heap.objs.size) (zD H w L Q f 1 A B j s (.ok S,u)) (cR (b:=List V) H w L Q f A B j s (.ok S,u)) {i with heap:=i.heap.push {cls:=.type "range",data:=.fields #[.int a g,.int b d,.int c v]},toks:=a0}:=by
  intro a b c g d v a0 M R N a1
  have h:=D.trans<|bI.keep D.aP (m:=i.heap.push {cls:=.type "range",data:=.fields #[.int a g,.int b d,.int c v]}) (t:=a0) λb o e=>hn _ e;refine wpAny_pyIter_range (IsRange.new ..) (TS M R N) ⟨O,K,Y,h.trans<|bI.push h.aP _,_,rfl,?_⟩;refine U a1<|U q_ ?_;exact .inr<|.inl<|iY a c _ (Bn I h) (am ((J9 (Is M R N).1).symm)<|kz _ rfl) rfl
 refine Ir (C:=λh o=>h=S->o=O->_) b2 (λa M a2 a3=> ?_) (λa b c M a4 N a2 a3=> ?_) rfl rfl
 ·subst a2;exact a6.e4 λd h=>h.b9 λg=>call_range_1<|P 0 a 1 _ _ _ _ (by decide) M (.inl rfl) a3.symm
 ·subst a2
  refine a6.b7 λd b1 h o=>o.i0 λb9 b4 b5 b6=>h.b9 λ_=>b5.b9 λ_=>b6.b9 λ_=> ?_;have c0:(ar:Int)=1000000:=rfl;exact call_range_3 (λz=>bt (z▸N)<|by decide) (P a b c _ _ _ _ M a4 N a3.symm)<|.inl<|PyProof.noPylong_small<|by rcases N with z|z|z<;>subst z<;>decide
def T4 (q:de H w L Q) (F:cL f) {d:aG} {a2 K:cl} {R:List bn} {X:List a_} (a3:f.c.gl d=ac) (a4:lz d=J (.type "enumerate")) (a5:(hJ K<|gM R f.env).any (·.1)=aa)
  (a6:mA H w L Q f (gn k f.az X)<|nU<|hJ K<|gM R f.env):rD H w L Q f k 2 X<|.Call (.Name d a2) R [] K:=by
 intro A B j s r a e S
 refine yK (uU q F a a3 a4<|rU a5<|cE (a6 A B j s _ a e) (λb8 N D=> ?_) λ_ _ z=>z) (uB rfl)
 revert S
 refine D.on λY u M h a7 S=>⟨A4 _ _ _,ah (S:∃a0,_/\_) λa0 T a8=> ?_⟩;refine pd (b:=f.az) (x:=qB 2 Y) (by cases U:f.az<;>rw[U]at T<;>exact T) λU a9=> ?_;refine Fa (C:=λo v=>o=Y->v=a0->_) a9 (λc b0 b1=> ?_) rfl rfl
 subst b0 b1
 refine a7.e4 λO b2=>b2.c7 λo a1=>(GU (n:=c) (i:=0) (g:=λv=>(.av [.I (0:Nat),v],.fi c 1)) rfl a8).elim λP E=>bF (h.aP.bC.objs c _ o E a1).2 λV b3 b4 b5 z=> ?_;refine call_enumerate_list ⟨_,b4,rfl,b3,rfl⟩ λp v b6 b9 b7=>Xt v ⟨.fi c 0,M,T,h.trans<|bI.keep h.aP (t:=N.toks) b7,_,rfl,?_⟩;exact wr _ o _ U (Bm a h<|oE<|ig _) (Bn a h) (Wg _) v a1 b6
end
end
section
open PySem PySem.W PySem.Calls PyProof.Rows
variable {Q:cn} {w:bQ} {L:bT} {A h c:aY} {j l:bq} {d p:ae} {f:cj} {H a:ap} {s t:aJ}
def wC (K:ap->ae->Prop) (r:bM):bM->Prop|.ok (.aO v) H d=>r=.ok (.aO v) H d|.ok _ H d=>K H d|.a4 e H d=>r=.a4 e H d
def LQ (b:ap->ae->cx) (K:ap->ae->Prop) (r:bM) (H:ap) (x:Except Nat V) (d:ae):Prop:=match x with|.ok (.ad ac)=>∃e,b H d=J e/\wC K r e|.ok (.ad aa)=>r=.ok .a1 H d|.error e=>r=.a4 e H d|_=>False
def qh (e:ap->ae->R V) (b:ap->ae->cx) (r:bM):Nat->ap->ae->Prop|0,_,_=>False|n+1,H,d=>∃x p,e H d=J (x,p)/\LQ b (qh e b r n) r H x p
def JS {K:ap×ae->cx} {C:Nat->ap->ae->bM->Prop} {r:bM} {o:cx} (h:(o.bind λs=>match sL s with
  |some q=>K q|none=>J s)=J r) (f:∀H d,K (H,d)=J r->∃n,C n H d r):∃n b,o=J b/\wC (λH d=>C n H d r) r b:=
 el h λb e h=>by
  cases b with
  |a4 g H d=>exact⟨0,_,e,(aH h).symm⟩|ok g H d=>cases g with|a1=>exact(f H d h).imp λn z=>⟨_,e,z⟩|gm=>exact(f H d h).imp λn z=>⟨_,e,z⟩|aO v=>exact⟨0,_,e,(aH h).symm⟩
def Jq (h:op v=J e):v=.ad e:=by
 cases v with
 |ad b=>exact al V.ad<|aH h|_=>exact aq h
def U8 (f:ap->ae->R V) (b:ap->ae->cx) (H:ap) (d:ae) (r:bM) (h:Ch f b H d=J r):∃n,qh f b r n H d:=by
 refine Ba (M:=λg r=>∃n,qh f b r n g.1 g.2) (λm s g r h=>el h λx q h=> ?_) (H,d) r h;obtain⟨H,d⟩:=g;obtain⟨x,p⟩:=x;cases x with
 |error e=>exact⟨1,_,p,q,(aH h).symm⟩|ok v=>
  refine el h λi e h=> ?_;have e:=Jq e
  subst e
  cases i with
  |true=>exact bS (JS (K:=m) (o:=b H p) (C:=λn H d r=>qh f b r n H d) h λH d e=>s _ r e) λn k e z=>⟨n+1,_,p,q,k,e,z⟩|false=>exact⟨1,_,p,q,(aH h).symm⟩
def qa (x:Nat) (b:ap->ae->cx) (r:bM):Nat->cB->ap->ae->Prop|0,_,_,_=>False|n+1,g,H,d=>∃y,eO g d=J y/\match y with|none=>r=.ok .a1 H d|some (v,f)=>∃e,b (aB H x v) d=J e/\wC (qa x b r n f) r e
def PL (x:Nat) (b:ap->ae->cx) (i:cB) (H:ap) (d:ae) (r:bM) (h:mJ x b i H d=J r):∃n,qa x b r n i H d:=by
 refine Ba (M:=λf r=>∃n,qa x b r n f.1 f.2.1 f.2.2) (λk m f r h=>el h λy q h=> ?_) (i,H,d) r h;obtain⟨i,H,d⟩:=f;cases y with
 |none=>exact⟨1,Y,q,(aH h).symm⟩|some y=>exact bS (JS (K:=λq=>k (y.2,q)) (o:=b (aB H x y.1) d) (C:=λn H d r=>qa x b r n y.2 H d) h λH d e=>m _ r e) λn g e z=>⟨n+1,J y,q,g,e,z⟩
section
variable {B:Bool->Nat->List V->ae->R V}
def Ej (F:cL f) (S:mq f) {O:ap->ae->cx} {m:fo oC} (T:fH Q w L A f O m) {r:bM} {C:ap} {E:bq} {D:ae} {M:aJ} (I:bc Q w L A f H j d s) (N:ct Q w L A f H j d s C E D M)
  {K:ap->ae->Prop} (h:∃x,O C D=J x/\wC K r x) {P:oC->aJ->Prop} (R:∀i o k b,ct Q w L A f C E D M i o k b->K i k->P .next b/\P .cont b) (ret:∀u b,kL Q w L A f H j d s r (.ret u) b->P (.ret u) b):
  aV (aR Q w) f.A m P (notedBy (aR Q w) f.A f.env λu t=>C3 (aR Q w) f.A f.env (fI Q w L A f H j d s r) u t) M:=by
 refine ah h λx e h=>cE (T _ _ _ _ _ N.aP e) (λX b y=> ?_) λu b q=>IQ F S I ?_
 ·cases x with
  |a4=>exact y.elim|ok g i k=>
   refine ah y λo n z=> ?_;cases g with
   |a1=>exact z.i3 (R i o k b n h).1|gm=>exact z.ks (R i o k b n h).2|aO v=>exact z.i4 λu V=>ret u b<|U (h:r=_)<|ax o (N.trans n) V
 ·cases x with
  |ok=>exact q.elim|a4 n i k=>exact U (h:r=_)<|q.from I N
def Ug (F:cL f) (S:mq f) {K:bn} {b:List hH} {V:a_} {X:List cA} {O:cl} (a5:fJ Q w L A f (aU (B f.az) f.az V)<|jq K f.env<|bz K f.env) (a6:fH Q w L A f (bG B X f.az)<|nT b f.env):
  fH Q w L A f (fj B (.while V X) f.az)<|ml (.While K b [] O) f.env:=by
 intro H j d s r I e
 refine(U8 _ _ _ _ _ e).elim λn a7=> ?_;refine wpAny_While<|codeAny_whileLoop (λk t=>∃h M C,ct Q w L A f H j d s h M C t/\qh (λH d=>aU (B f.az) f.az V H d) (λH d=>bG B X f.az H d) r k h C) (λk a3 J=>oM J λh M C N g=> ?_) n<|rr H j d (.b1 I) a7;cases k with
 |zero=>exact g.elim|succ k=>
  refine bS g λx a2 q g=>cE (a5 _ _ _ _ _ N.aP q ?_) (λb P y=>bS y λR T z Y=> ?_) λu P y=>IQ F S I ?_
  ·cases x with
   |error=>trivial|ok v=>cases v with|ad b=>exact⟨b,rfl⟩|_=>exact g.elim
  ·have z:=iX z;have g:=z.2▸z.1▸g;have m:=N.trans<|Y.c1 N.aP;cases b with
   |true=>have a4:∀i D o E,ct Q w L A f h T R P i D o E->qh (λH d=>aU (B f.az) f.az V H d) (λH d=>bG B X f.az H d) r k i o->∃m,m<k+1/\∃h M C,ct Q w L A f H j d s h M C E/\qh (λH d=>aU (B f.az) f.az V H d) (λH d=>bG B X f.az H d) r m h C:=λi D o E a0 g=>⟨k,iE k,i,D,o,m.trans a0,g⟩;exact Ej F S a6 I m g (λi D o E a0 g=>⟨a4 i D o E a0 g,a4 i D o E a0 g⟩) λ_ _ z=>z
   |false=>exact zh<|(g:r=_)▸.a1 m
  ·cases x with
   |error n=>exact U (g:r=_)<|(y.h2 N.aP).from I N|ok v=>exact y.elim
noncomputable def jg:cB->Bool|.fi _ _=>ac|_=>aa
def Qs {b:cB} {C:cB->Prop} (h:jg b=ac) (k:∀n i,C<|.fi n i):C b:=by
 cases b with
 |fi n i=>exact k n i|_=>exact cW h
def oP.eg {f:aY} (h:jg e=aa) (r:oP L f b j s.heap e g u):hN L f b j s.heap e g:=by
 cases e with
 |fi=>exact hv h|_=>exact r
def Hy {n i:Nat} {g:V->V×cB} {x:V×cB} (e:(match d[n]?with|some (.X b)=>(match b[i]?with|some v=>J<|J<|g v|none=>J Y)|_=>Y)=J (J x)):∃v,g v=x:=by
 cases z:d[n]?with
 |none=>have e:=z▸e;exact aq e|some o=>cases o with
  |X b=>
   have e:=z▸e;have e:(match b[i]?with|some v=>J<|J<|g v|none=>J Y)=J (J x):=e;cases y:b[i]?with
   |none=>have e:=y▸e;exact aq<|aH e|some v=>have e:=y▸e;exact⟨v,aH<|aH e⟩
  |_=>have e:=z▸e;exact aq e
def Hx {k f:cB} {v:V} (h:eO k d=J (J (v,f))):jg f=jg k:=by
 cases k with
 |b8 b=>cases b with|nil=>exact aq<|aH h|cons e b=>exact(al jg (iX<|aH<|aH h).2.symm:)
 |b5 n i=>exact(Hy (g:=λv=>(v,.b5 n<|i+1)) h).elim λv e=>(al jg (iX e).2.symm:)|fi n i=>exact(Hy (g:=λv=>(.av [.I i,v],.fi n<|i+1)) h).elim λv e=>(al jg (iX e).2.symm:)
def QA {f:List V} (h:qB b f=J g):jg g=(b==2):=by
 cases b with
 |zero=>cases f with
  |nil=>exact aq h|cons v f=>cases v with
   |av e=>cases f with|nil=>exact am (aH h) rfl|cons _ _=>exact aq h
   |Z e=>cases f with|nil=>exact am (aH h) rfl|cons _ _=>exact aq h
   |ref n=>cases f with|nil=>exact am (aH h) rfl|cons _ _=>exact aq h
   |_=>exact aq h
 |succ k=>cases k with|zero=>exact Ir (C:=λ_ g=>jg g=aa) h (λ_ _=>rfl) λ_ _ _ _ _ _=>rfl|succ k=>cases k with|zero=>exact Fa (C:=λ_ g=>jg g=ac) h λ_=>rfl|succ k=>exact aq h
def Gt {f:Bool} (h:gb f b g=J e):jg e=(b==2):=pd h λ_ h=>QA h
def PK {x:R<|List V} {g n:Nat} {b:ap->ae->cx} {o:Bool} {r:bM} {C:Prop} (e:(match(generalizing:=false) x with
  |some (.ok h,d)=>(match(generalizing:=false) gb o g h with
   |some i=>mJ n b i H d|none=>Y)
  |some (.error e,d)=>J<|.a4 e H d|none=>Y)=J r) (k:∀h f i,x=J (.ok h,f)->gb o g h=J i->mJ n b i H f=J r->C) (s:∀n f,x=J (.error n,f)->bM.a4 n H f=r->C):C:=by
 cases q:x with
 |none=>have e:=q▸e;exact aq e|some m=>
  rw[q]at e;obtain⟨u|h,f⟩:=m
  ·exact s u f q<|aH e
  ·have e:(match(generalizing:=false) gb o g h with
    |some i=>mJ n b i H f|none=>Y)=J r:=e
   cases z:gb o g h with
   |none=>have e:=z▸e;exact aq e|some i=>rw[z]at e;exact k h f i q z e
def T_ (F:cL f) (S:mq f) {O:aG} {n V:Nat} {a7:List a_} {X:bn} {P:List hH} {b2:List cA} {c1 a3:cl} (c2:f.c.loc O=J n) (c3:(V==2)=aa) (b9:rD Q w L A f (B f.az) V a7 X)
  (a0:∀v,yZ X f.env v=gg v) (c4:fH Q w L A f (bG B b2 f.az)<|nT P f.env):fH Q w L A f (fj B (.for n V a7 b2) f.az)<|ml (.For (.Name O c1) X P [] a3) f.env:=by
 intro H j d s r I e
 refine PK (x:=gn (B f.az) f.az a7 H d) (b:=λH d=>bG B b2 f.az H d) (o:=f.az) e (λd0 N T q a8 e=> ?_) λd1 N q e=>e▸wpAny_For (cE (b9 H j d s _ I q trivial) (λv a5 y=>cE y (λb6 M z=>z.elim) λu M z=>z.h2 I) λu M z=>z.h2 I) a0;refine(PL _ _ _ _ _ _ e).elim λk a9=> ?_
 have c5:eO T N≠Y:=by
  cases k with
  |zero=>exact a9.elim|succ k=>exact ah a9 λy z _ w=>aq<|w.symm.trans z
 refine wpAny_For (cE (b9 H j d s _ I q<|ax T a8 c5) (λv a5 y=>cE y (λb6 M z=>bF z λb0 h b7 a2 c6=> ?_) λu M z=>z.elim) λu M z=>z.elim) a0;have b7:=aH (a8.symm.trans b7)
 subst b7
 refine codeAny_forLoop (λk t=>∃T i h o,ct Q w L A f H j d s i h o t/\hN L s.heap f.az h t.heap T b6/\jg T=aa/\qa n (λH d=>bG B b2 f.az H d) r k T i o) (λk a5 a4=>Lh a4 λT i h o a2 b1 c7 g=> ?_) k<|Dx T H h N (a2.c1 I) c6 ((Gt a8).trans c3) a9;cases k with
 |zero=>exact g.elim|succ k=>
  refine ah g λy q g=>cE (Gu I a2 b1 q) (λd2 M z=> ?_) λ_ _ z=>z.elim;cases y with
  |none=>exact z.1▸zh (U (g:r=_)<|.a1 z.2.dO)|some y=>
   obtain⟨v,b0⟩:=y;refine fT z λu z b8 c8 c9=> ?_
   subst z
   have b3:=(Hx q).trans c7;refine tG<|pw F b8.dO.aP c2 c8 λb4 a6=> ?_;have m:=b8.dO.trans a6;have b1:=(oP.eg b3 c9).dO I b8.dO.aP a6
   have c0:∀C E D K,ct Q w L A f (aB i n v) h o b4 C E D K->qa n (λH d=>bG B b2 f.az H d) r k b0 C D->∃R,R<k+1/\∃T i h o,ct Q w L A f H j d s i h o K/\hN L s.heap f.az h K.heap T b6/\jg T=aa/\qa n (λH d=>bG B b2 f.az H d) r R T i o:=λC E D K b5 g=>⟨k,iE k,b0,C,E,D,m.trans b5,b1.dO I m.aP b5,b3,g⟩
   exact Ej F S c4 I m g (λC E D K b5 g=>⟨c0 C E D K b5 g,c0 C E D K b5 g⟩) λ_ _ z=>z
end
end
section
open PySem PySem.W PySem.Calls PyProof.Rows
variable {g:cn} {w:bQ} {L:bT} {u h B:aY} {H p:bq} {d v:ae} {f:cj} {j t:ap} {s Q:aJ}
def nu {l:List<|aG×fC}:ip l n x=J (m,k)->(∃i,m=n+i/\l[i]?=J (x,k))/\l.lookup x=J k:=by
 induction l generalizing n with
 |nil=>exact aq|cons y r c=>
  intro h
  have h:(if y.1==x then J (n,y.2)else ip r (n+1) x)=J (m,k):=h;refine U gt ?_;cases e:y.1==x with
  |true=>rw[e]at h;exact have z:=iX<|aH h;have e:=cY e;(U (show(x==y.1)=ac from beq_iff_eq.mpr e.symm) ⟨ax 0 (z.1.symm)<|al J<|KG e z.2,al J z.2⟩)
  |false=>rw[e]at h;exact U (show(x==y.1)=aa from beq_eq_false_iff_ne.mpr λz=>ne_of_beq_false e z.symm) ⟨ah (c h).1 λi a b=>ax (i+1) (a.trans<|gv n 1 i) b,(c h).2⟩
def AV (a:ip l n x=J (m,k)) (b:ip l n y=J (m,e)):x=y:=ah (nu a).1 λi f h=>ah (nu b).1 λc o q=>al KH<|aH<|h.symm.trans<|U (CG<|f.symm.trans o) q
def HQ {b:List<|aG×fC}:qD b=ac->∀{x:aG} {k:fC},(x,k)∈b->b.lookup x=J k:=by
 induction b with
 |nil=>exactλ_ _ _ h=>eG (l:=[]) h|cons y r c=>
  intro h x k f
  have h:(!(r.any λz=>z.1==y.1)&&qD r)=ac:=h;refine cJ gt ?_;refine(bY.mp f).elim (λz=> ?_) λz=> ?_
  ·exact am z<|U (beq_self_eq_true _) rfl
  ·have i:(x==y.1)=aa:=beq_eq_false_iff_ne.mpr λw=>by have a:=dh h;rw[List.any_eq_true.mpr (⟨(x,k),z,beq_iff_eq.mpr w⟩:∃e,e∈r/\(e.1==y.1)=ac)]at a;exact cW a
   exact U i<|c (ed h) z
def FV {l:List e} {f:e->b->fo (ForInStep b)} (a:e->b->b) (c:b) (h:∀x∈l,∀c,f x c=gg (.yield<|a x c)):to l c f=gg (l.foldl (λc x=>a x c) c):=by
 induction l generalizing c with
 |nil=>rfl|cons x l i=>rw[List.forIn_cons,h x rb,pure_bind];exact i _ λy k=>h y<|ra _ k
noncomputable def ul (b:eE) (c:List<|aG×aE) (x:aG×fC):List<|aG×aE:=if(x.2==kA)=ac then match b.cells.lookup x.1 with
  |some a=>(x.1,a)::c|none=>c
  else c
def um (a:eE) (l:List<|aG×fC) (c:List<|aG×aE):List<|aG×aE:=l.foldl (ul a) c
def Er {b:eE} {c:List<|aG×aE} {y:aG×fC} {C:List (aG×aE)->Prop} (f:C c) (i:∀a,y.2=.free->b.cells.lookup y.1=J a->C ((y.1,a)::c)):C<|ul b c y:=by
 unfold ul
 refine aZ ((y.2==kA)=ac) (λe=> ?_)<|λe=> ?_
 ·refine U (aK e) ?_;cases h:b.cells.lookup y.1 with
  |none=>exact f|some a=>exact i a (cY e) h
 ·exact U (aX e) f
def zZ {f:eE} {x:aG} {a:aE} {l:List<|aG×fC} {c:List<|aG×aE}:(um f l c).lookup x=J a->c.lookup x=J a\/((x,kA)∈l/\f.cells.lookup x=J a):=by
 induction l generalizing c with
 |nil=>exact .inl|cons y r i=>
  refineλh=>(i h).elim (Er (C:=λe=>e.lookup x=J a->c.lookup x=J a\/((x,kA)∈y::r/\f.cells.lookup x=J a)) .inl λb k m z=> ?_) λz=>.inr ⟨ra _ z.1,z.2⟩;rw[gt]at z;cases e:x==y.1 with
  |true=>rw[e]at z;exact .inr ⟨bY.mpr<|.inl<|KG (cY e) k.symm,U (cY e)<|am z m⟩|false=>rw[e]at z;exact .inl z
def M5 {f:eE} {x:aG} {l:List<|aG×fC} {c:List<|aG×aE}:(∃a,c.lookup x=J a)->∃a,(um f l c).lookup x=J a:=by
 induction l generalizing c with
 |nil=>exact id|cons y r i=>
  refineλh=>i<|Er (C:=λe=>∃a,e.lookup x=J a) h λb _ _=> ?_;refine U gt ?_;cases x==y.1 with
  |true=>exact⟨b,rfl⟩|false=>exact h
def M4 {e:eE}:(x,kA)∈b->(∃a,e.cells.lookup x=J a)->∃a,(um e b c).lookup x=J a:=by
 induction b generalizing c with
 |nil=>exactλh _=>eG (l:=[]) h|cons y r i=>
  refineλk f=>(bY.mp k).elim (λz=>M5 (l:=r)<|f.imp λa f=> ?_) λz=>i z f;refine am z ?_
  show(match e.cells.lookup x with
   |some a=>(x,a)::c|none=>c).lookup x=J a
  refine U f ?_;show(match x==x with|true=>J a|false=>c.lookup x)=J a;exact U (beq_self_eq_true _) rfl
def hQ (f:cj) (a:eA) (C:aE):cj:={env:=compEnvC a (um f.env a.names []) C f.env,A:=f.A,c:=gp f.c a,az:=f.az,fr:=f.fr}
noncomputable def sP (a:eE) (x:aG) (k:fC):fC:=if(k==kA&&a.scope.kind==wb&&a.kindOf x==J mf)then .cell else k
def xY {b:eA} (h:b.names.lookup x=J k):(relabel b a).names.lookup x=J (sP a x k):=by
 show(b.names.map λ(n,k)=>if(k==kA&&a.scope.kind==wb&&a.kindOf n==J mf)then(n,mf)else(n,k)).lookup x=_
 revert h
 induction b.names with
 |nil=>exact aq|cons y r c=>
  intro h
  have m:(if(y.2==kA&&a.scope.kind==wb&&a.kindOf y.1==J mf)then(y.1,mf)else(y.1,y.2))=(y.1,sP a y.1 y.2):=by unfold sP;split<;>rfl
  rw[gt]at h
  show(match x==(if(y.2==kA&&a.scope.kind==wb&&a.kindOf y.1==J mf)then(y.1,mf)else(y.1,y.2)).1 with
   |true=>J (if(y.2==kA&&a.scope.kind==wb&&a.kindOf y.1==J mf)then(y.1,mf)else(y.1,y.2)).2|false=>_)=_
  refine U m ?_;cases e:x==y.1 with
  |true=>rw[e]at h;exact U (cY e)<|am (aH h) rfl|false=>rw[e]at h;exact c h
def Iv:sP a x .free=.cell\/sP a x .free=.free:=by
 unfold sP
 refine aZ ((kA==kA&&a.scope.kind==wb&&a.kindOf x==J mf)=ac) (λe=> ?_)<|λe=> ?_
 ·exact .inl<|aK e
 ·exact .inr<|aX e
def qs {c:dR} {b:eA} {x:aG} {i:Nat} {C:Prop} (h:(gp c b).loc x=J i) (e:ip b.names 100 x=J (i,.local)->100<=i->C) (f:b.names.lookup x=J .free->c.loc x=J i->C):C:=by
 have h:(match ip b.names 100 x with|some (n,.local)=>J n|some (_,.free)=>c.loc x|_=>Y)=J i:=h;cases q:ip b.names 100 x with
 |none=>have h:=q▸h;exact aq h|some y=>
  rw[q]at h;obtain⟨n,k⟩:=y;cases k with
  |«local»=>exact e (q.trans<|al (λn=>J (n,NameKind.local))<|aH h)<|aH h▸ah (nu q).1 λi a _=>a▸ck 100 i|free=>exact f (nu q).2 h|_=>exact aq h
def A_ {f:cj} {c:eA} {x:aG} {i:Nat} {C:Prop} (K:nl f c) (a:100<=i) (b:f.c.loc x=J i):C:=(oB.mpr a<|K.gJ x i b).elim
theorem uH {b:eA} {C:aE} (F:cL f) (K:nl f b):cL (hQ f b C) where
 kind:=K.kind
 sm:=F.sm
 uj:=F.uj
 loc:=λx i h=>qs h (λq _=>have l:=(nu q).2;⟨.inl<|Xb l,K.EO _<|nB l⟩) λl _=>
  have a:=nB l
  ⟨.inr ⟨Iv.imp (λe=>(xY l).trans<|al J e) λe=>(xY l).trans<|al J e,M4 a (K.sj x a).2⟩,K.EO _ a⟩
 inj:=λx y i h B=>qs h (λq l=>qs B (λa _=>AV q a) λ_ e=>A_ K l e) λ_ e=>qs B (λ_ l=>A_ K l e) λ_ c=>F.inj x y i e c
 gl:=λx h=>by
  have h:(match ip b.names 0 x with|some (_,.globalImplicit)=>ac|_=>aa)=ac:=h;cases q:ip b.names 0 x with
  |none=>rw[q]at h;exact cW h|some y=>
   rw[q]at h;obtain⟨n,k⟩:=y;cases k with
   |globalImplicit=>exact xY (nu q).2|_=>exact cW h
 glob:=F.glob
 attr:=F.attr
 jK:=F.jK
 exc:=F.exc
 fv:=F.fv
 un:=λx y a h B=>(zZ h).elim aq λz=>(zZ B).elim aq λk=>F.un x y a z.2 k.2
 pF:=F.pF
 wQ:=F.wQ
 fh:=λm h=>cW h
 of:=λx h=>cW h
def G3 {j:ap} (h:i<100):gK j i=j i:=aK h
def G2 {j:ap} (h:100<=i):gK j i=Y:=aX<|oB.mpr h
def No (F:cL f) (K:nl f r) (I:bc g w L u f j H d s) (P:¬fb H C) (R:u.get? C=Y) (S:∀x a,f.env.cells.lookup x=J a->a≠C) (T:s.heap.Ns C m)
  (V:∀x i c,(gp f.c r).loc x=J i->n i=J c->100<=i->∃k,m x=J k/\aT L s.heap H k c) (A:∀i,i<100->n i=j i):bc g w L u (hQ f r C) n H d s:=by
 have E:∀x a,(um f.env r.names []).lookup x=J a->(x,kA)∈r.names/\f.env.cells.lookup x=J a:=λx a h=>(zZ h).elim aq id;refine⟨I.bC,I.cs,I.jQ,⟨(ax m T<|λx i c M N D=>qs M (λ_ l=>V x i c M N l) λl _=> ?_),λx a h=> ?_,P,λx a h=>I.env.jf x a (E x a h).2,λx a h=>S x a (E x a h).2⟩,I.fv,I.gF,λb X=>X.elim (λz=>U z R) λz=>z.elim λx e=>I.gJ b<|.inr ⟨x,(E x b e).2⟩⟩
 ·have D:=aH<|(xY (a:=f.env) l).symm.trans D;exact Iv.elim (λe=>nomatch e.symm.trans D) λe=>nomatch e.symm.trans D
 ·exact bx (E x a h) λO a0=>(I.env.cell x a a0).imp λo y=>⟨y.1,λi c M N D=>qs M (λq _=>nomatch (HQ K.Bk O).symm.trans (nu q).2) λ_ e=>y.2 i c e ((A i<|K.gJ x i e).symm.trans N)<|(K.sj x O).1.elim (λz=>by refine U z ?_;decide) λz=>by refine U z ?_;decide⟩
def bI.mt (m:bI g w L u f j H d s p v Q) (e:s.heap.get? b=J o) (x:gi a H b):gi a p b:=⟨x.1,xJ m.cI x.2 e⟩
def bI.i5 {i:aJ} {a:ap} {c:bq} {h:ae} (m:bI g w L u f a c h i H d s) (l:ct g w L u f a c h i a p v Q) (k:wt i.heap s.heap Q.heap):bI g w L u f a c h i p v Q:=⟨l.eg,⟨l.cI.df,λb o e n=>(m.cI.gI b o e n).imp λq y=>⟨k b o _ e y.1,y.2⟩⟩,l.aP,l.hT⟩
def hN.df {O:aY} {F:Bool} {P:List aE} {I:cB} {R:ai} (S:∀b o,b∉P->h.get? b=J o->B.get? b=J o) (U:∀T∈P,∃o,h.get? T=J o/\(∀K,o.data≠.fields K)/\nX o)
  (r:hN L O F H h I R):hN L O F H B I R:=by
 have E:∀{b:aE} {o:dw} {K:Array ai},h.get? b=J o->o.data=.fields K->B.get? b=J o:=λ{b o K} e m=>S b o (λz=>bR (U b z) λM N n _=>n K<|am (aH<|e.symm.trans N) m) e;have V:eZ h B:=λb o e q=>S b o (λz=>bR (U b z) λM N _ n=>n<|aH (e.symm.trans N)▸q) e;refine r.imp λa r=>⟨r.1,?_⟩;have r:=r.2;cases I with
 |b8 l=>
  refine r.elim (λr=>.inl ?_) λr=>.inr<|r.elim (λr=>.inl ?_) λr=>.inr ?_
  ·exact kE r λf i c w o s x y=>bR s λA C D k=>lr f i c w o (cM A (E C k) D k) (x.imp λX f=>⟨V _ _ f.1 ⟨f.2.1,f.2.2.elim λn q=>dn _ n q⟩,f.2⟩)<|y.c3 V
  ·exact eY r λa c n o s e=>iY a c n o (E s rfl) e
  ·exact ju r λc x f i w o y s e=>bR s λA C D k=>j_ c x f i w o y (cM A (E C k) D k) e
 |b5 n i=>exact fT r λc w o q s=>bR s λA C D k=>hM c w o q<|cM A (E C k) D k|fi n i=>exact ro r λI c f w o M l x q s=>bR s λA C D k=>wr I c f w o M l (E x rfl) q<|cM A (E C k) D k
def QC {A:en} {E:ai->aJ->Prop} {b:ai->aJ->Prop} {K:aY} {m:Bool} {C:cB} {D:ai} (r:hN L K m H s.heap C D) (k:b D s):aV (aR g w) A (pyIter D) b E s:=ah r λI q F=>by
 subst q
 cases C with
 |b8 l=>
  refine F.elim (λr=>kE r λf i a J o h c M=>wpAny_pyIter_tupleiter (show s.heap.IsTupleIter _ _ _ from h) k) λr=>r.elim (λr=>eY r λa c n o h e=>wpAny_pyIter_rangeiter h k) λr=>ju r λN x f i J o y h e=>y.elim (λz=> ?_) λz=> ?_
  ·subst z;exact wpAny_pyIter_striter_ascii h k
  ·subst z;exact wpAny_pyIter_striter_wide h k
 |b5 n i=>exact fT F λa J o q h=>wpAny_pyIter_listiter h k|fi n i=>exact ro F λC a c J o f l e q h=>Xt e k
end
section
open PySem PySem.W PySem.Calls PyProof.Rows
variable {c:cn} {w:bQ} {d:bT} {v h Q:aY} {g L:bq} {b k:ae} {f:cj} {a p:ap} {s j:aJ}
def oK (t:List Nat) (f o:ap->ae->R V) (a:ap) (l:List V) (r:ae):Nat->cB->ae->List V->Prop|0,_,_,_=>False|n+1,H,b,i=>∃y,eO H b=J y/\match y with|none=>l=i/\r=b|some (h,s)=>∃p e k,kg t h a=J p/\f p b=J (.ok<|.ad e,k)/\if e=ac then∃u m,o p k=J (.ok u,m)/\i.length<ar/\oK t f o a l r n s m (i++[u])else oK t f o a l r n s k i
def HO {f:m×ae} (h:kn r=J f):r=J (.ok f.1,f.2):=el h λx e h=>by
 obtain⟨x,b⟩:=x;cases x with
 |error _=>exact aq h|ok l=>exact am (aH h) e
def Nl (B:List Nat) (t x:ap->ae->R V) (H:cB) (a:ap) (b:ae) (i:List V) (r:Except Nat (List V)×ae) (h:wM B t x H a b i=J r):∃l m,r=(.ok l,m)/\∃n,oK B t x a l m n H b i:=by
 refine Ba (M:=λf r=>∃l m,r=(.ok l,m)/\∃n,oK B t x a l m n f.1 f.2.1 f.2.2) (λF D f r h=>el h λy o h=> ?_) (H,b,i) r h;obtain⟨H,b,i⟩:=f;cases y with
 |none=>exact⟨i,b,(aH h).symm,1,Y,o,rfl,rfl⟩|some y=>
  refine el h λp E h=>el h λs A h=>el h λw I h=> ?_;have A:=HO A;rw[Jq I]at A;cases w with
  |true=>exact el h λu K h=>eC h λN h=>bS (D _ _ h) λl m e z=>z.elim λn C=>⟨l,m,e,n+1,J y,o,p,ac,s.2,E,A,u.1,u.2,HO K,N,C⟩|false=>exact bS (D _ _ h) λl m e z=>z.elim λn C=>⟨l,m,e,n+1,J y,o,p,aa,s.2,E,A,C⟩
def Nm {A:en} {R:rh->aJ->Prop} {K e B:bn} {M:List bn} {t:eA} {O:cl} {H i:ai} {l:eE} (I:Nat->aJ->Prop)
  (P:∀n s,I n s->aV (aR c w) A (zb H) (λr u=>match r with
   |none=>R (.ok .next) u|some f=>aV (aR c w) A (K4 e H f) (λ_ y=>aV (aR c w) A (nR e l f) (λ_ C=>
     aV (aR c w) A (to M ac λo r=>if r=ac then do let ok<-jq o l<|bz o l;gg (tp ok)else gg<|tp r) (λok z=>
      if ok=ac then aV (aR c w) A (bz K l) (λx D=>
       aV (aR c w) A (gw (.builtin "list.append") [i,x]) (λ_ E=>∃m,m<n/\I m E) (λ_ _=>False) D) (λ_ _=>False) z
      else∃m,m<n/\I m z) (λ_ _=>False) C) (λ_ _=>False) y) (λ_ _=>False) u) (λ_ _=>False) s)
  (n:Nat) (h:I n s):mj (aR c w) A (.compLoop (.ListComp K [⟨e,B,M,0⟩] t O) 0 H i l) R s:=by
 refine codeAny_loop rfl I (λn s X=> ?_) n h;show aV _ A ((compTurn (.ListComp K [⟨e,B,M,0⟩] t O) 0 H i l).onRaise<|λx=>do za x l;Xg x) _ _ s;refine Xs<|K_ ?_;refine U (compTurn_list _ _ _ _ _ _ _ _ _) ?_;refine bd<|oH<|bd<|cE (P n s X) (λr u F=> ?_) λ_ _ Q=>Q;cases r with
 |none=>exact cF F|some f=>
  refine bd<|cE F (λ_ y N=> ?_) λ_ _ Q=>Q;refine bd<|cE N (λ_ C S=>bd<|cE S (λok z J=> ?_) λ_ _ Q=>Q) λ_ _ Q=>Q;cases ok with
  |false=>exact cF ⟨rfl,J⟩|true=>exact bd<|bd<|cE J (λx D T=>bd<|cE T (λ_ E V=>cF<|cF ⟨rfl,V⟩) λ_ _ Q=>Q) λ_ _ Q=>Q
structure pW where
 prog:cn
 w:bQ
 hw:bT
 nt:aY
 f:cj
 ib:ap
 tj:bq
 tm:ae
 s:aJ
 D:aE
 C:aE
variable {B:pW} {i:List V} {H:cB} {q:ai}
def pW.I (B:pW):Prop:=bc B.prog B.w B.hw B.nt B.f B.ib B.tj B.tm B.s
structure gN (B:pW) (i:List V) (L:bq) (k:ae) (j:aJ):Prop where
 dO:bI B.prog B.w B.hw B.nt B.f B.ib B.tj B.tm B.s L k j
 kZ:gi B.s.heap L B.D
 kY:gi B.s.heap L B.C
 km:B.D≠B.C
 X:∃items n,j.heap.get? B.D=J (yT items n)/\bg B.hw j.heap L items.toList i
 fy:∃m,j.heap.Ns B.C m
 bb:i.length<=ar
 ug:lm<B.D
structure hK (B:pW) (H:cB) (q:ai) (i:List V) (L:bq) (k:ae) (j:aJ):Prop extends gN B i L k j where
 sp:hN B.hw B.s.heap B.f.az L j.heap H q
def gN.k4 (e:gN B i L k j):∃o,j.heap.get? B.C=J o/\(∃f h,o.data=.dict f h):=e.fy.elim λm n=>eY n λo f h l r _=>⟨o,l,f,h,r⟩
def nX.k6 {o:dw} (e:∃f h,o.data=.dict f h):nX o:=λz=>fq z.2 λ_ _ y=>fq e λ_ _ e=>nomatch e.symm.trans y
def gN.m0 {l:aY} {t:Nat} (e:gN B i L k j) (m:ct B.prog B.w B.hw B.nt B.f B.ib B.tj B.tm B.s B.ib L k {j with heap:=l,toks:=t}) (f:wt B.s.heap j.heap l) (r:eZ j.heap l)
  (s:∀o,j.heap.get? B.D=J o->l.get? B.D=J o) (u:∃m,l.Ns B.C m):gN B i L k {j with heap:=l,toks:=t}:=
 ⟨e.dO.i5 m f,e.kZ,e.kY,e.km,bS e.X λh n w x=>cZ h n (s _ w)<|x.c3 r,u,e.bb,e.ug⟩
def gi.uQ {T:aE} {o:dw} {m n:aY} (o:gi m g T) (r:vY T h n):wt m h n:=λf t l s e=>r f l (lB o.1 s) e
def Fg {T:aE} {o:dw} {r:aY} (f:h.get? T=J o) (n:nX o) (s:vY T h r):eZ h r:=λl t e m=>s l t (λz=>n<|aH ((z▸e).symm.trans f)▸m) e
def hN.cC {T:aE} {o:dw} {s t:aY} {m:Bool} (f:h.get? T=J o) (n:nX o) (u:∀w,o.data≠.fields w) (x:vY T h t) (r:hN d s m g h H q):hN d s m g t H q:=r.df (P:=[T]) (λl o y e=>x l o (λz=>y<|dk.mpr z) e) λA h=>by refine U (dk.mp h) ?_;exact cM o f u n
def hK.r0 {r:aY} {t:Nat} {m:aG->Option ai} (I:B.I) (X:hK B H q i L k j) (n:nb B.C j.heap r) (w:r.Ns B.C m):hK B H q i L k {j with heap:=r,toks:=t}/\eZ j.heap r:=
 ah X.k4 λh l f=>
 have s:nX h:=.k6 f
 have u:=Fg l s n.extBut
 ⟨⟨X.m0 (w9 I (X.dO.c1 I) X.kY l s n.extBut) (X.kY.uQ (o:=h) n.extBut) u (λh e=>n.extBut _ _ X.km e) ⟨m,w⟩,X.sp.cC l s (λ_ z=>fq f λ_ _ f=>nomatch f.symm.trans z) n.extBut⟩,u⟩
def hK.m1 {w:eA} {f:ae} (I:B.I) (X:hK B H q i L k j) (m:bI B.prog B.w B.hw B.nt (hQ B.f w B.C) t L k j e f l):hK B H q i e f l:=
 have s:=(
   ⟨m.eg,m.cI,X.dO.aP.cI m.cI m.aP.bC m.aP.cs m.hT,m.hT⟩)
 ⟨⟨X.dO.trans s,bS X.X λ_ _ u _=>s.mt u X.kZ,ah X.k4 λo x _=>s.mt x X.kY,X.km,bS X.X λr n u y=>cZ r n (s.cI.eg u (X.kZ.2)<|λ_ _ z=>nomatch z)<|s.h1 X.dO.aP y,m.aP.env.fy.imp λm h=>h.1,X.bb,X.ug⟩,
  X.sp.dO I X.dO.aP<|s.c1 X.dO.aP⟩
def gN.cT {f:aJ} (e:gN B i L k j) (l:lw B.prog B.w B.hw B.nt B.f B.ib B.tj B.tm B.s B.ib L k j f):gN B i L k f:=⟨e.dO.i5 l.dO l.uQ,e.kZ,e.kY,e.km,bS e.X λh n s t=>cZ h n (l.hU _ _ s λ_ z=>nomatch z)<|t.c3 l.hU.av,e.fy.imp λm n=>eY n λo u w x r y=>iY o u w (l.hU _ _ x λ_ z=>nomatch r.symm.trans z) r y,e.bb,e.ug⟩
theorem hK.push {u:ai} {f:V} {h:ai->aJ->Prop} {E:ai->aJ->Prop} (I:B.I) (X:hK B H q i L k j) (F:aT B.hw j.heap L u f) (J:i.length<ar)
  (K:∀s,hK B H q (i++[f]) L k {j with heap:=s}->h .none {j with heap:=s}):aV (aR B.prog B.w) B.f.A (gw (.builtin "list.append") [.ref B.D,u]) h E j:=by
 refine bS X.X λe n w C=>wpAny_list_append_plain (items:=e) ⟨n,w⟩ (λs x r=>K s ?_)<|nz C X.bb
 refine x.elim λM y=> ?_
 have A:nX<|yT e n:=λz=>bt z.1 (by simp)
 have D:=Fg w A r.extBut
 exact⟨⟨X.dO.i5 (w9 (a:=j.toks) I (X.dO.c1 I) X.kZ w A r.extBut)<|X.kZ.uQ (o:=yT e n) r.extBut,X.kZ,X.kY,X.km,(cZ (e.push u) M y<|by refine U Vc ?_;exact(C.c3 D).j8<|F.c3 D),
  X.fy.imp λm n=>eY n λl N O P R S=>iY l N O (r.extBut _ _ (vU X.km) P) R S,by refine U bH ?_;exact J,X.ug⟩,X.sp.cC w A (λ_ z=>nomatch z) r.extBut⟩
end
section
open PySem PySem.W PySem.Calls PyProof.Rows
variable {e:cn} {w:bQ} {z:bT} {h₀ h h':aY} {μ d:bq} {L m:ae} {f:cj} {r ρ':ap} {s H:aJ}
variable {B:pW} {q:List V} {n it':cB} {y:ai} {A:eA}
def ua (f:cj) (A:eA) (u:List Nat) (k:Nat) (t:bn):Prop:=
 (∃x g i,(k==2)=aa/\(gp f.c A).loc x=J i/\100<=i/\u=[i]/\t=.Name x g)\/
 ∃x a g h l c i j,(k==2)=ac/\(gp f.c A).loc x=J i/\100<=i/\(gp f.c A).loc a=J j/\100<=j/\u=[i,j]/\t=.Tuple [.Name x g,.Name a h] c l
theorem gN.aP {f:aG->Option ai} (F:cL B.f) (K:nl B.f A) (I:B.I) (c:gN B q d m H) (s:H.heap.Ns B.C f)
  (t:∀x i v,(gp B.f.c A).loc x=J i->l i=J v->100<=i->∃g,f x=J g/\aT B.hw H.heap d g v) (p:∀i,i<100->l i=B.ib i):bc B.prog B.w B.hw B.nt (hQ B.f A B.C) l d m H:=
 No F K c.dO.aP c.kY.2 (bc.dU I c.kY.1) (λx a h j=>bS (I.env.jf x a h).2 λo v w _=>aq<|c.kY.1.symm.trans<|am j w) s t p
def hK.st (F:cL B.f) (K:nl B.f A) (I:B.I) (X:hK B n y q d m H) (l:H.heap.Ns B.C c) (o:(gp B.f.c A).loc x=J i) (p:100<=i)
  (s:∀f,hK B n y q d m f->f.heap.Ns B.C (λg=>if g=x then J a else c g)->eZ H.heap f.heap->Q () f):
  aV (aR B.prog B.w) B.f.A (Dd (hQ B.f A B.C).env x a) Q (λ_ _=>False) H:=
 Xv (
   qs o (λh _=>Xb (nu h).2) λ_ j=>A_ K p j) l (λD h j=>bx (X.r0 (t:=H.toks+1) I j h) λv w=>s _ v h w)<|by refine U ((uH (C:=B.C) F K).kind) ?_;rfl
def wo (B:pW) (A:eA) (n:cB) (y:ai) (q:List V) (r:ap) (μ:bq) (L:ae) (s:aJ):Prop:=hK B n y q μ L s/\bc B.prog B.w B.hw B.nt (hQ B.f A B.C) r μ L s
def MI {P:cl} {f:V} (F:cL B.f) (K:nl B.f A) (I:B.I) (X:hK B n y q d m H) (E:(gp B.f.c A).loc x=J a) (M:100<=a) (Q:aT B.hw H.heap d c f) (g:J (aB (gK B.ib) a f)=J ρ'):
  aV (aR B.prog B.w) B.f.A (nR (.Name x P) (hQ B.f A B.C).env c) (λ_ s=>wo B A n y q ρ' d m s) (λ_ _=>False) H:=by
 refine X.fy.elim λt R=>tG<|X.st F K I R E M λs N D S=>⟨N,N.aP F K I D (λl h T Y a0 a1=> ?_) λh O=> ?_⟩
 ·refine mU (t:=gK B.ib) (b:=a) (c:=f) (a:=h) (e:=T) (U (aH g) a0) (λo w=>ax c (aK<|(uH (C:=B.C) F K).inj l x a (am o Y) E)<|am w<|Q.c3 S) λ_ p=>aq<|(G2 a1).symm.trans p
 ·exact am (aH g)<|U (qX _ _ _ _)<|U (aX<|dQ<|dL O M)<|U (G3 O) rfl
def MK {Y:Nat} {O:ai} {f:V} (F:cL B.f) (K:nl B.f A) (I:B.I) (X:hK B n y q d m H) (c2:(gp B.f.c A).loc x=J E) (c3:100<=E) (b5:(gp B.f.c A).loc D=J M) (c4:100<=M) (d1:B.f.az=aa)
  (d2:aT B.hw H.heap d O<|.av [a,f]) (s:J (aB (aB (gK B.ib) E a) M f)=J ρ'):
  aV (aR B.prog B.w) B.f.A (nR (.Tuple [.Name x b9,.Name D c0] Y d0) (hQ B.f A B.C).env O) (λ_ Q=>wo B A n y q ρ' d m Q) (λ_ _=>False) H:=by
 refine d2.e0 λe6 d3 R e7 g a0 a1 d4 N=>d4.l7 λc5 c6 b0 d5 d6=> ?_;have b6:R.size=2:=kw.symm.trans<|al hC b0;refine Wo (items:=R) (X.dO.aP.gF.a6 d1) ⟨d3,g,a0,_,a1⟩ (by refine U b6 ?_;rfl) rfl λh' d7=> ?_;refine U b0 ?_;have a4:∀f o,H.heap.get? f=J o->h'.get? f=J o:=λf o p=>d7 f o (dQ<|nO p) p;refine X.fy.elim λP a2=> ?_;have S:h'.Ns B.C P:=eY a2 λo d8 d9 e0 e1 e2=>iY o d8 d9 (a4 _ _ e0) e1 e2;have b1:hK B n y q d m {H with heap:=h'}:=⟨X.m0 ((X.dO.trans<|bI.keep X.dO.aP (t:=H.toks) a4).c1 I) (λf o b2 _ s=>a4 f b2 s) (λf o p _=>a4 f o p) (λo s=>a4 _ _ s) ⟨P,S⟩,X.sp.df (P:=[]) (λf o _ s=>a4 f o s) λT h=>eG (l:=[]) h⟩;show aV _ _ (W5 [nR (.Name x b9) _,nR (.Name D c0) _] [c5,c6]) _ _ _;refine bd<|ln<|tG<|b1.st F K I S c2 c3 λc7 b3 a5 a6=>bd<|ln<|tG<|b3.st F K I a5 b5 c4 λQ a3 a7 a8=>cF ⟨a3,a3.aP F K I a7 (λb7 b4 c8 b8 e3 e4=> ?_) λb4 a9=> ?_⟩
 ·exact have inj:=(uH (C:=B.C) F K).inj;have c9:eZ H.heap Q.heap:=λf o s p=>a8 _ _ (a6 _ _ (a4 _ _ s) p) p;mU (t:=aB (gK B.ib) E a) (b:=M) (c:=f) (a:=b4) (e:=c8) (U (aH s) e3) (λN w=>ax c6 (aK<|inj b7 D M (am N b8) b5)<|am w<|d6.c3 c9) λe5 p=>mU (t:=gK B.ib) (b:=E) (c:=a) (a:=b4) (e:=c8) p (λN w=>ax c5 (cJ (aX (show¬b7=D fromλw=>e5<|aH<|(w▸b8:(hQ B.f A B.C).c.loc D=J b4).symm.trans b5))<|aK<|inj b7 x E (am N b8) c2)<|am w<|d5.c3 c9) λ_ p=>aq<|(G2 e4).symm.trans p
 ·exact am (aH s)<|U (qX _ _ _ _)<|U (qX _ _ _ _)<|U (aX<|dQ<|dL a9 c4)<|U (aX<|dQ<|dL a9 c3)<|U (G3 a9) rfl
def MF {i j:Nat} {v:V} {r:ap} {C:V->Prop} (c:kg [i,j] v r=J ρ') (g:∀a f,J (aB (aB r i a) j f)=J ρ'->C (.av [a,f])):C v:=by
 cases v with
 |av l=>cases l with|nil=>exact aq c|cons a l=>cases l with|nil=>exact aq c|cons f l=>cases l with|nil=>exact g a f c|cons _ _=>exact aq c
 |_=>exact aq c
def Nn {u:List Nat} {k:Nat} {target:bn} {f:ai} (F:cL B.f) (K:nl B.f A) (I:B.I) (X:gN B q d m H) (T:ua B.f A u k target) (a6:(k==2)=ac->B.f.az=aa) (a2:jg it'=(k==2)) (M:aT B.hw H.heap d f l)
  (h:kg u l (gK B.ib)=J ρ') (N:oP B.hw B.s.heap B.f.az d H.heap it' y f):
  aV (aR B.prog B.w) B.f.A (K4 target y f) (λ_ t=>aV (aR B.prog B.w) B.f.A (nR target (hQ B.f A B.C).env f) (λ_ w=>wo B A it' y q ρ' d m w) (λ_ _=>False) t) (λ_ _=>False) H:=by
 refine T.elim (λT=>kE T λx a7 i O R S U Y=> ?_) λT=>T.elim λa8 a0=>a0.elim λa9 a1=>a1.elim λc b0=>b0.elim λD b1=>b1.elim λh b2=>b2.elim λg b3=>(λx P a7 b7 b8 Q T=>T.elim λp b4=>b4.elim λs E=>(λi j O R S b5 b6 U Y=> ?_) p s E.1 E.2.1 E.2.2.1 E.2.2.2.1 E.2.2.2.2.1 E.2.2.2.2.2.1 E.2.2.2.2.2.2) a8 a9 c D h g b3
 ·subst U Y
  exact zj (a:=()) rfl<|MI F K I ⟨X,oP.eg (a2.trans O) N⟩ R S M h
 ·subst U Y
  revert M
  refine MF (v:=l) (C:=λl=>aT B.hw H.heap d f l->_) h λp s h M=> ?_
  revert N
  refine Qs (C:=λit'=>oP B.hw B.s.heap B.f.az d H.heap it' y f->aV _ _ _ (λ_ t=>aV (aR B.prog B.w) B.f.A (nR _ (hQ B.f A B.C).env f) (λ_ w=>wo B A it' y q ρ' d m w) (λ_ _=>False) t) _ _) (a2.trans O) λa3 a4 N=> ?_;exact cE (QB I (X.dO.c1 I) N) (λ_ a5 o=>MK F K I ⟨X.cT o.1,o.2⟩ R S b5 b6 (a6 O) (M.c3 o.1.hU.av) h) λ_ _ o=>o.elim
section
variable {b:Nat->List V->ae->R V}
structure tK (e:cn) (w:bQ) (z:bT) (h₀:aY) (f:cj) (b:Nat->List V->ae->R V) (A:eA) (u:List Nat) (k:Nat) (ol oX:List a_) (ie:a_) (Ad target iter:bn) (ifs:List bn):Prop where
 F:cL f
 K:nl f A
 ol:rD e w z h₀ f b k ol iter
 AK:∀v,yZ iter f.env v=gg v
 T:ua f A u k target
 oX:∀C,fJ e w z h₀ (hQ f A C) (hq b f.az oX) (to ifs ac λc r=>if r=ac then do let ok<-jq c (hQ f A C).env<|bz c (hQ f A C).env;gg (tp ok)else gg<|tp r)
 Ad:∀C,cb e w z h₀ (hQ f A C) (aU b f.az ie)<|bz Ad (hQ f A C).env
def T3 {x:R<|List V} {k:Nat} {s:Bool} {g:cB->ae->R V} {f:Except Nat V×ae} {C:Prop} (a:br x (λo L=>match gb s k o with
  |some n=>g n L|none=>Y)=J f) (l:∀o c n,x=J (.ok o,c)->gb s k o=J n->g n c=J f->C) (t:∀h c,x=J (.error h,c)->f=(.error h,c)->C):C:=qm a λp j a=>by
 obtain⟨h|o,c⟩:=p
 ·exact t h c j (aH a).symm
 ·have a:(match gb s k o with
   |some n=>g n c|none=>Y)=J f:=a
  cases i:gb s k o with
  |none=>have a:=i▸a;exact aq a|some n=>have a:=i▸a;exact l o c n j i a
variable {u:List Nat} {k:Nat} {src cond:List a_} {ie:a_} {elt target iter:bn} {ifs:List bn}
def MM (h:V.ad a=.ad c):a=c:=by cases h;rfl
def Np {T:Option<|ai->fo Unit} {s:ae} (P:tK B.prog B.w B.hw B.nt B.f b A u k src cond ie elt target iter ifs) (I:B.I) (b0:(k==2)=ac->B.f.az=aa)
  (b1:∀d H,gN B l d s H->K1 (aR B.prog B.w) B.f.A E T Q (.ref B.D) B.C (.ok .next) H) (X:hK B n y q d m H) (a5:jg n=(k==2)) (f:oK u (λr L=>hq b B.f.az cond r L) (λr L=>aU b B.f.az ie r L) (gK B.ib) l s g n m q):
  mj (aR B.prog B.w) B.f.A (.compLoop (.ListComp elt [⟨target,iter,ifs,0⟩] A a4) 0 y (.ref B.D) (hQ B.f A B.C).env) (K1 (aR B.prog B.w) B.f.A E T Q (.ref B.D) B.C) H:=by
 refine Nm (λg H=>∃n o i q,hK B n y q o i H/\jg n=(k==2)/\oK u (λr L=>hq b B.f.az cond r L) (λr L=>aU b B.f.az ie r L) (gK B.ib) l s g n i q) (λg a8 D=>zn D λn o i q X a5 f=> ?_) g<|tR n d m q X a5 f;cases g with
 |zero=>exact f.elim|succ g=>
  refine ah f λh p f=>cE (Gu I (X.dO.c1 I) X.sp p) (λb9 Y a=> ?_) λ_ _ a=>a.elim;cases h with
  |none=>have f:l=q/\s=i:=f;exact a.1▸b1 o Y (U f.1<|U f.2<|X.cT a.2)
  |some h=>
   obtain⟨v,it'⟩:=h;refine fT a λj a b2 a6 b3=> ?_
   subst a
   have f:∃ρ' c m,kg u v (gK B.ib)=J ρ'/\hq b B.f.az cond ρ' i=J (.ok<|.ad c,m)/\if c=ac then∃j K,aU b B.f.az ie ρ' m=J (.ok j,K)/\q.length<ar/\oK u _ _ (gK B.ib) l s g it' K (q++[j])else oK u _ _ (gK B.ib) l s g it' m q:=f
   refine eY f λρ' c t b4 b5 f=> ?_;have R:=(Hx p).trans a5;refine cE (Nn P.F P.K I (X.cT b2) P.T b0 R a6 b4 b3) (λ_ M a=>cE a (λ_ M a=> ?_) λ_ _ a=>a) λ_ _ a=>a;refine cE (P.oX B.C ρ' o i M _ a.2 b5 ⟨c,rfl⟩) (λF a0 h=>bS h λx C w N=> ?_) λ_ _ a=>a;have w:=iX w;have b6:c=F:=MM (Vg w.1)
   subst b6
   have a7:=w.2
   subst a7
   have O:=a.1.m1 I N;cases c with
   |false=>exact⟨g,iE g,it',C,t,q,O,R,f⟩|true=>exact bF f λa1 x b7 b8 f=>cE (P.Ad B.C ρ' C t a0 _ N.aP b7) (λj a9 h=>ah h.dO λS a2 a6=>(O.m1 I a2).push I a6 b8 λc0 a3=>⟨g,iE g,it',S,x,q++[a1],a3,R,f⟩) λ_ _ a=>a
def EJ {b4 c5:cl} {a7:Except Nat V×ae} {b2:Option<|ai->fo Unit} {a1:ai->aJ->Prop} {O:ai->aJ->Prop} (P:tK e w z h₀ f b A u k src cond ie elt target iter ifs) (I:bc e w z h₀ f r μ L s)
  (i:aU b f.az (.fh ie u k src cond) r L=J a7) (c3:∀K m t H,a7=(.error K,m)->cR e w z h₀ f r μ L s a7 t H->O t H)
  (c6:∀M D C d m H,gN ⟨e,w,z,h₀,f,r,μ,L,s,D,C⟩ M d m H->a7=(.ok<|.ref m.length,m++[.X M])->K1 (aR e w) f.A O b2 a1 (.ref D) C (.ok .next) H):
  aV (aR e w) f.A (Xa (.ListComp elt [⟨target,iter,ifs,0⟩] A b4) A f.env c5 (K5 []) aa (bz iter f.env) b2) a1 O s:=by
 refine wpAny_comprehension_free rfl P.AK ((by
   simp only[closureFor];rw[FV (λo c=>ul f.env c o) [] λo p c=> ?_]
   ·rfl
   ·obtain⟨K,R⟩:=o
    unfold ul
    dsimp only;refine aZ ((R==kA)=ac) (λi=> ?_)<|λi=> ?_
    ·refine U (aK i)<|U (aK i) ?_;refine((λj v=>(P.K.sj j v).2) K<|am (cY i) p).elim λa c0=> ?_
     unfold cellOf
     refine(U c0 ?_)
     rfl
    ·exact U (aX i)<|U (aX i) rfl)) P.K.kind (λj v F=>HQ P.K.Bk<|by refine am F ?_;exact v) ?_
 refine T3 (x:=gn b f.az src r L) (s:=f.az) (g:=λn L=>br (wM u (λr L=>hq b f.az cond r L) (λr L=>aU b f.az ie r L) n (gK r) L []) λM L=>ew M L) i (λd4 a0 n a2 a6 i=> ?_)
  λK a0 a2 c=>cE (P.ol r μ L s _ I a2 trivial) (λv b5 p=>cE p (λy j c=>c.elim) λt j p=>c3 K a0 t j c<|U c p) λt j p=>c3 K a0 t j c<|U c p
 refine qm i λc4 c7 i=>bS (Nl _ _ _ _ _ _ _ _ c7) λM b6 c N=>N.elim λR N=> ?_
 subst c
 have i:a7=(.ok<|.ref b6.length,b6++[.X M]):=eC i λ_ o=>nG o
 have c8:eO n a0≠Y:=by
  cases R with
  |zero=>exact N.elim|succ R=>exact ah N λp c _ w=>aq<|w.symm.trans c
 refine cE (P.ol r μ L s _ I a2<|ax n a6 c8) (λv b5 p=>cE p (λy j c=>bF c λit' a8 c1 a4 c9=> ?_) λt j c=>c.elim) λt j c=>c.elim;have c1:=aH (a6.symm.trans c1)
 subst c1
 refine Di<|wpAny_newFunctionEnv P.K.cell (by intro p d0;simp at d0) (λa9 a3 S=> ?_) P.K.kind;dsimp only at a3 S ⊢;generalize b3:j.heap.push {cls:=.type "list",dict:=Y,data:=.seq ([]:List ai).toArray}=c2 at a3 S ⊢;have b8:c2.objs.size=j.heap.objs.size+1:=by exact am b3<|U (KL _ _) rfl
 have b7:∀F o,j.heap.get? F=J o->a9.get? F=J o:=λF o b9=>S.extBut F o (by refine U b8 ?_;exact dQ<|tx<|nO b9)<|hn _<|am b3<|hn _ b9;have d1:a9.get? j.heap.objs.size=J (yT #[] 0):=S.extBut _ _ (by refine U b8 ?_;exact dQ<|iE _)<|hn _<|am b3<|kz _ rfl;have b0:∀a,j.heap.objs.size<=a->gi s.heap a8 a:=λa c0=>Bm I a4<|oE c0
 have a5:hK ⟨e,w,z,h₀,f,r,μ,L,s,j.heap.objs.size,c2.objs.size⟩ n y [] a8 a0 {j with heap:=a9,toks:=j.toks+([]:List<|aG×ai).length}:=⟨⟨a4.trans<|bI.keep a4.aP b7,b0 _<|bE _,b0 _ (by refine U b8 ?_;exact ig _),by refine U b8 ?_;exact dQ<|iE _,cZ (#[]) 0 d1<|.b_,⟨_,a3⟩,cr _,bS I.jQ λF o b9 d2=>dK d2<|nO<|a4.aP.cs _ _ b9⟩,c9.df (P:=[]) (λF o _ i=>b7 F o i) λT h=>eG (l:=[]) h⟩
 have d3:(k==2)=ac->f.az=aa:=λc=>by
  cases T:f.az with
  |false=>rfl|true=>rw[T]at a6;rw[cY c]at a6;exact aq a6
 have b1:=Np (B:=⟨e,w,z,h₀,f,r,μ,L,s,j.heap.objs.size,c2.objs.size⟩) (a4:=b4) (T:=b2) (Q:=a1) (E:=O) P I d3 (λd H T=>c6 _ _ _ _ _ _ T i) a5 (Gt a6) N;exact codeAny_compStart_list b1<|QC a5.sp b1
def gN.m2 (I:B.I) (a:gN B l d m H):bI B.prog B.w B.hw B.nt B.f B.ib B.tj B.tm B.s (d++[(B.D,B.D)]) (m++[.X l]) H:=by
 have S:=a.dO.aP.bC;have F:∀{s:Nat} {p:aE×aE},d[s]?=J p->p.1≠B.D/\p.2≠B.D:=λ{s p} t=>⟨λc=>a.kZ.2 ⟨p,em t,.inl c.symm⟩,λc=>a.kZ.2 ⟨p,em t,.inr c.symm⟩⟩
 have M:dy B.prog B.w B.hw B.nt (d++[(B.D,B.D)]) (m++[.X l]) H.heap:=by
  refine⟨by refine U bH<|U bH<|U S.bb ?_;rfl,λs o p C D=>(pi D).elim (λh=> ?_) λh=> ?_,λi j p v C D K=>(pi C).elim (λh=>(pi D).elim (λc=>S.gO i j p v h c K) λc=> ?_) λh=>(pi D).elim (λc=> ?_) λc=>(K<|h.1.trans c.1.symm).elim,λp E=>(fB.mp E).elim (S.gJ p) λc=> ?_⟩
  ·exact(S.objs s o p ((iW<|am S.bb<|qR h).symm.trans C) h).iw _
  ·exact have C:(m++[O.X l])[m.length]?=J o:=am S.bb<|am h.1 C;(U h.2<|am (aH<|qx.symm.trans C) ⟨rfl,bS a.X λx s g w=>dD x s g (w.a2 (.b1 H.heap)<|.iw d _) a.bb⟩)
  ·exact have f:=F h;(U c.2<|mu (f.1) (f.1) (f.2)<|f.2)
  ·exact have f:=F c;(U h.2<|mu (f.1.symm) (f.2.symm) (f.1.symm)<|f.2.symm)
  ·exact U (dk.mp c)<|bB (bc.dU I a.kZ.1) (bc.dU I a.kZ.1) a.ug
 have g:dr B.tj B.s.heap (d++[(B.D,B.D)]) H.heap:=ah a.dO.cI.df λi h j=>⟨(ax (i++[(B.D,B.D)]) (by exact U h<|U (bD _ _ _) rfl)<|λp E=>(fB.mp E).elim (j p) λc=>by refine U (dk.mp c) ?_;exact⟨a.kZ.1,a.kZ.1⟩),a.dO.cI.gI⟩;have K:gA B.tm<|m++[.X l]:=a.dO.hT.trans<|.c4 _ _;exact⟨a.dO.eg,g,bc.cI I g M a.dO.aP.cs K,K⟩
def gN.d2 {l:List V} (a:gN B l d m H):aT z h (d++[(B.D,B.D)]) (.ref B.D)<|.ref m.length:=.ref (p:=(B.D,B.D))<|am a.dO.aP.bC.bb qx
def gN.k8 (c:gN B l d m H):gi B.s.heap (d++[(B.D,B.D)]) B.C:=
 ⟨c.kY.1,λa=>a.elim λp a=>(fB.mp a.1).elim (λf=>c.kY.2<|ax p f<|a.2) λf=>by
  have a:=a.2;rw[dk.mp f]at a
  exact a.elim (λg=>c.km g.symm) λg=>c.km g.symm⟩
def IL (P:tK e w z h₀ f b A u k src cond ie elt target iter ifs):cb e w z h₀ f (aU b f.az<|.fh ie u k src cond)<|bz (.ListComp elt [⟨target,iter,ifs,0⟩] A p) f.env:=by
 intro r μ L s E I a
 unfold wq
 refine U (eval_ListComp _ _ _ _) ?_;refine EJ (b2:=Y) P I a (λ_ _ _ _ _ c=>c) λl D C d m H X F=>X.fy.elim λh J=>ax h J<|λh' v=> ?_;refine U F ?_;have x:=gN.m2 (B:=⟨e,w,z,h₀,f,r,μ,L,s,D,C⟩) I X;refine ah X.k4 λc g i=> ?_;have j:=w9 (a:=H.toks) I (x.c1 I) X.k8 g (.k6 i) v.extBut;exact .of (x.i5 j<|X.kY.uQ (o:=c) v.extBut) X.d2
end
section
variable {b:Bool->Nat->List V->ae->R V}
def T7 {u:List Nat} {k:Nat} {src cond:List a_} {ie:a_} {elt target iter:bn} {ifs:List bn} {h:Nat} {V:cl}
  (F:cL f) (a2:f.c.loc c=J h) (P:tK e w z h₀ f (b f.az) A u k src cond ie elt target iter ifs):
  fH e w z h₀ f (fj b (.aN h<|.fh ie u k src cond) f.az)<|ml (.Assign [.Name c V] (.ListComp elt [⟨target,iter,ifs,0⟩] A N) p) f.env:=by
 have O:∃j,ze (.ListComp elt [⟨target,iter,ifs,0⟩] A N) (J<|.Name c V) p.line f.env=gg j:=⟨_,rfl⟩;refine O.elim λj O=> ?_;cases j with
 |false=>exact I_ F a2 O<|IL P|true=>
  intro r μ L s K I a
  refine U (exec_Assign_Name_used _ _ _ _ O) ?_;refine bd<|oH<|bd ?_;show aV _ _ (do let _<-Xa (.ListComp elt [⟨target,iter,ifs,0⟩] A N) A f.env _ (K5 []) aa (bz iter f.env)<|J<|nR (.Name c V) f.env) _ _ s;refine zT (x:=aU (b f.az) f.az (.fh ie u k src cond) r L) (g:=λv L=>J<|.ok .a1 (aB r h v) L) a λa6 M a=> ?_;refine bd<|cE (EJ (b2:=J<|nR (.Name c V) f.env) (a1:=λ_ H=>kL e w z h₀ f r μ L s K .next H) (O:=fI e w z h₀ f r μ L s K) P I M (λb2 m Y H i o=> ?_) λl D C d m H X a7=> ?_) (λ_ H v=>cF<|cF v) λ_ _ i=>i
  ·subst i
   exact am (aH a)<|o.h2 I
  ·subst a7
   have a:=aH a
   subst a
   have a3:=gN.m2 (B:=⟨e,w,z,h₀,f,r,μ,L,s,D,C⟩) I X;refine tG<|pw F a3.aP a2 X.d2 λR v=>X.fy.elim λa8 h=>eY h λa9 S T b0 a4 b1=> ?_;have a0:¬jL f C:=λi=>(I.kp i).2.elim λb3 o=>aq<|X.kY.1.symm.trans o.1;refine ah (v.cI.gI C a9 b0 X.k8.2 a0) λb4 a5 _=>ax a8 (iY _ S T a5 a4 b1)<|λh' O=>.a1<|w9 (a:=R.toks) I ((a3.c1 I).trans v) X.k8 a5 (.k6<|dn S T a4) O.extBut
end
end
section
open PySem PySem.W PySem.Calls PyProof.Rows
variable {L:cn} {w:bQ} {B:bT} {b h c:aY} {d k:bq} {l i:ae} {f:cj} {H u:ap} {s Q:aJ}
def SQ {D:aY} {h:Nat} (g:de L w B b) (I:bc L w B b f H d l s) (m:l[n]?=J (O.a3 1 j)) (o:d[n]?=J p):
  bI L w B b f H d l s d (l.set n<|.a3 7 j) s:=by
 have e:=I.bC.objs n _ p m o;refine fT ((aK<|.inl rfl).mp e.2.1) λq v A C _=> ?_;have r:ej L w B s.heap d p<|.a3 7 j:=⟨by decide,(aK<|.inr rfl).mpr (hM q (by refine U g.hk.eg ?_;exact v) A C<|λz=>bt z<|by decide),e.2.2⟩;exact dq (I.aB (l:=s.heap) (g:=s.toks) m o (.inl rfl) (X3 ..) r<|.inr ⟨rfl,rfl⟩) λx y z=>⟨dn _ _ rfl,y,x,z⟩
section
variable {a:Bool->Nat->List V->ae->R V}
def SP {v:V} {r:bM} {C:V->bM->Prop} (e:(match v with
  |.ref n=>match l[n]?with|some (.a3 1 h)=>J<|.a4 n H<|l.set n<|.a3 7 h|_=>Y
  |_=>Y)=J r) (g:∀n h,l[n]?=J (.a3 1 h)->C (.ref n) (.a4 n H<|l.set n<|.a3 7 h)):C v r:=by
 cases v with
 |ref n=>
  have e:(match l[n]?with
   |some (.a3 1 h)=>J<|.a4 n H<|l.set n<|.a3 7 h|_=>Y)=J r:=e
  cases q:l[n]?with
  |none=>have e:=q▸e;exact aq e|some o=>
   have e:=q▸e;cases o with
   |a3 f h=>cases f with|zero=>exact aq e|succ f=>cases f with|zero=>exact am (aH e)<|g n h q|succ f=>exact aq e
   |_=>exact aq e
 |_=>exact aq e
def Ub (F:cL f) (o:de L w B b) {x:bn} {y:a_} {p:cl} (a6:cb L w B b f (aU (a f.az) f.az y)<|bz x f.env):fH L w B b f (fj a (.hW y) f.az)<|ml (.Raise (J x) Y p) f.env:=by
 refineλH d l s r I e=>pd e λa7 e=> ?_;refine U (arm_exec_Raise _ _ _ _) ?_;refine bd<|oH ?_;show aV _ _ (raiseStmt f.env (J (do let v<-bz x f.env;wh p;gg v)) Y) _ _ s
 unfold raiseStmt
 refine bd<|bd<|lb a6 I e λv A m z h j S K=>bd<|oH<|cF ?_;refine SP (l:=m) (C:=λv r=>aT B h.heap z A v->aV (aR L w) f.A _ (kL L w B b f H d l s r) (fI L w B b f H d l s r) h) K (λn T M S=> ?_) S;refine S.c7 λp V=> ?_;refine fT ((aK<|.inl rfl).mp (j.aP.bC.objs n _ p M V).2.1) λa8 a1 b6 b7 O=> ?_;have O:=O rfl;obtain⟨b8,q,N,b9,a9,b0,a2,c0,b1,c2,b2,c3,c4,c5,c6,c7,c8,X,P,c9,d0,b3,b4,b5,d1,d2,d3,d4⟩:=o.dN;have a5:=j.aP.cs _ _ b3;have a0:(ri (B.ca 1)::a9).contains (.type "BaseException")=ac:=by exact U Kb<|U (b5.hasType b4.hasBase)<|U (tn _) rfl
 have D:fI L w B b f H d l s (.a4 n H<|m.set n<|.a3 7 T) (.ref p.1) h:=⟨z,p,(j.trans<|SQ (D:=h.heap) (h:=h.toks) o j.aP M V).c1 I,V,rfl,⟨T,gX<|qR M⟩,.inr<|dD _ a8 a1 rfl O⟩
 have E:=I.gF.a6 a7
 revert D
 generalize fI L w B b f H d l s (.a4 n H<|m.set n<|.a3 7 T)=d5
 intro D
 clear j e M
 obtain⟨d6,g,R,d7,d8⟩:=h
 repeat (first|with_reducible refine zi a1 ?_ |with_reducible refine zi a5 ?_ |(with_reducible refine Xq a5 ?_;refine U a0 ?_)|wp_step)
 refine U O ?_;refine cF ?_;refine U (aX<|by simp) ?_;exact cF<|wpAny_raiseNew_none E D
noncomputable def r_ (f:cj) (e:ai):cj:={f with A:=f.A.mark<|J e,az:=ac}
def AB (F:cL f):cL<|r_ f e:=⟨F.kind,F.sm,F.uj,F.loc,F.inj,F.gl,F.glob,F.attr,F.jK,F.exc,F.fv,F.un,F.pF,F.wQ,λj h=>have g:=F.fh j h;⟨g.1,g.2,g.3,g.4,g.5,g.6⟩,F.of⟩
def bc.m3 {p:aE×aE} {n:Nat} {e:List<|Nat×V} (I:bc L w B b f H d l s) (g:l[n]?=J (O.a3 7 e)) (h:d[n]?=J p):bc L w B b (r_ f<|.ref p.1) H d l s:=⟨I.bC,I.cs,I.jQ,have E:=I.env;⟨E.fy,E.cell,E.oh,E.jf,E.gO⟩,I.fv,iY n p e rfl h g,I.gJ⟩
def Qb {f:Bool} (h:kG A f d l) (e:f=aa):kG A f k i:=by subst e;exact h
def ct.r1 (I:bc L w B b f H d l s) (m:ct L w B b (r_ f e) g d l s u k i Q) (h:f.az=aa):ct L w B b f H d l s u k i Q:=
 ⟨m.eg,⟨m.cI.df,m.cI.gI,m.cI.kp⟩,(
   ⟨m.aP.bC,m.aP.cs,m.aP.jQ,have E:=m.aP.env;⟨E.fy,E.cell,E.oh,E.jf,E.gO⟩,m.aP.fv,Qb I.gF h,m.aP.gJ⟩),m.hT⟩
def JO {e j:Nat} {v:V} {C:Prop} (q:(λj=>if j=e then Y else H j) j=J v) (f:j≠e->H j=J v->C):C:=by
 refine aZ (j=e) (λz=> ?_)<|λz=> ?_
 ·exact aq<|(aK z).symm.trans q
 ·exact f z<|(aX z).symm.trans q
def Uh {x:aG} {A:Nat} {X:cl} {C:Unit->aJ->Prop} {M:ai->aJ->Prop} (F:cL f) (I:bc L w B b f H d l s) (a0:f.c.loc x=J A) (a4:f.env.kindOf x=J .local)
  (b1:∀Q,ct L w B b f H d l s (λj=>if j=A then Y else H j) d l Q->C () Q):aV (aR L w) f.A (do bindName f.env x .none;Xh f.env x X) C M s:=by
 refine bd<|Xn<|pw (M:=.a6) F I a0 rfl λO D=> ?_;have R:=D.aP.env;refine ah R.fy λm b2 a5=> ?_;have S:∀{j:Nat} {K:V},j≠A->H j=J K->aB H A .a6 j=J K:=λP q=>by refine U (qX _ _ _ _)<|U (aX P) ?_;exact q
 refine(a5 x A .a6 a0 (by exact cJ (qX _ _ _ _)<|aK rfl) a4).elim λn b3=> ?_
 unfold Xh
 refine wpAny_onRaise<|cE (wpAny_unbindName_local (E:=λ_ _=>False) a4 b2 b3.1 (by refine U F.kind ?_;rfl) λc b4 T N=> ?_) (λ_ _ z=>z) λ_ _ z=>z.elim;have a7:jL f f.env.locals:=.inl rfl;have b5:=xU D.aP a7 N;have a8:∀{o:Option ai} {w:V},(∃n,o=J n/\aT B O.heap d n w)->∃n,o=J n/\aT B c d n w:=λz=>z.imp λn y=>⟨y.1,y.2.c3 b5⟩;refine b1 _<|D.trans<|eY T λa9 a1 a2 b0 b6 _=>Bo (g:=O.toks) D.aP a7 N ⟨a9,b0⟩ (λo c2 c4 e g=>rr a9 a1 a2 b0 b6) ⟨(ax _ T<|λy j a3 p q r=>JO q λP q=> ?_),λy h e=> ?_,R.oh,λy h e=>⟨(R.jf y h e).1,bS (R.jf y h e).2 λo b7 b8 b9=>cZ o b7 ((N.2 h<|R.gO y h e).trans b8) b9⟩,R.gO⟩
 ·exact(a8<|a5 y j a3 p (S P q) r).imp λb4 z=>⟨(aX λw=>P<|aH<|(w▸p).symm.trans a0).trans z.1,z.2⟩
 ·exact ah (R.cell y h e) λo c0 c1=>ax o (c0.imp λc5 g=>⟨(N.2 h<|R.gO y h e).trans g.1,g.2⟩)<|λj a3 p q r=>JO q λP q=>a8<|c1 j a3 p (S P q) r
def Qa {R:rh->aJ->Prop}
  (h:aV (aR L w) A (zc e Y) (λ_ o=>aV (aR L w) A (bindName m n e) (λ_ p=>aV (aR L w) A (nT (g::j) m) (λf q=>R (.ok f) q) (λ_ _=>False) p) (λ_ _=>False) o) (λ_ _=>False) s):
  mj (aR L w) A (.handlers e [.ExceptHandler Y (J n) (g::j) r] m) R s:=by
 refine W_ ?_;show aV _ A (do return Fin.done (<-(handleWith e m [.ExceptHandler Y (J n) (g::j) r]).onRaise<|λx=>do za x m;Xg x)) _ _ s;refine bd (Xs<|K_ ?_)
 unfold handleWith
 refine bd<|oH<|bd<|cE h (λ_ o t=>bd<|cE t (λ_ p v=>bd<|Xm<|cE v (λf q x=>cF<|cF x) λ_ _ z=>z.elim) λ_ _ z=>z.elim) λ_ _ z=>z.elim
def N1 {A:en} {E:ai->aJ->Prop} {p:aE×aE} {n:Nat} {o:List<|Nat×V} {e:Bool->aJ->Prop} (g:de L w B b) (I:bc L w B b f H d l s) (r:l[n]?=J (O.a3 7 o)) (t:d[n]?=J p) (v:e ac s):
  aV (aR L w) A (excMatches (.ref p.1)<|.ref<|B.ca 1) e E s:=by
 refine fT ((aK<|.inr rfl).mp (I.bC.objs n _ p r t).2.1) λM x P R S=> ?_;obtain⟨T,q,N,X,Y,y,m,a0,z,a1,C,a2,a3,a4,a5,a6,a7,j,h,a8,a9,D,F,K,b0,b1,b2,b3⟩:=g.dN;exact wpAny_excMatches_sub_self (I.cs _ _ D) x (by exact U g.hk.eg rfl) (K.hasType F.hasBase) v
def UL {q:Type} {o:Option bM} {g:Nat->ap->ae->Option bM} {r:bM} {C:Prop} (e:(match o with
  |some (.a4 n H l)=>g n H l|r=>r)=J r) (m:∀j,o=J j->(∀n f h,j=.a4 n f h->g n f h=J r)->(∀p f h,j=.ok p f h->j=r)->C):C:=by
 cases o with
 |none=>exact aq e|some j=>
  refine m j rfl (λn f h z=> ?_) λp f h z=> ?_
  ·subst z;exact e
  ·subst z;exact aH e
def P_ {o:Option bM} {x:Nat} {r:bM} {C:Prop} (e:(match o with
   |some (.ok f H l)=>J<|.ok f (λj=>if j=x then Y else H j) l|_=>Y)=J r) (g:∀f H l,o=J (.ok f H l)->bM.ok f (λj=>if j=x then Y else H j) l=r->C):C:=by
 cases o with
 |none=>exact aq e|some o=>cases o with|ok f H l=>exact g f H l rfl<|aH e|a4=>exact aq e
def mr.dO {v:zp} {g:oC} (I:bc L w B b f H d l s) (m:ct L w B b f H d l s u k i Q) (z:mr B s.heap d v g):mr B Q.heap k v g:=by
 cases v with
 |aO v=>exact z.i4 λe r=>m.d2 I r|a1=>exact z.i3 trivial|gm=>exact z.ks trivial
def Ue (F:cL f) (S:mq f) (K:de L w B b) {M:List hH} {E x:aG} {n:Nat} {R:hH} {b3:List hH} {b9 b0:List cA} {c0 c1 p:cl} (d1:E==("PrologError":aG)) (d2:f.c.gl E=ac) (c3:f.c.loc x=J n) (d3:f.env.kindOf x=J .local)
  (d4:fH L w B b f (bG a b9 f.az)<|nT M f.env) (d5:∀D,fH L w B b (r_ f D) (bG a b0 ac)<|nT (R::b3) f.env):
  fH L w B b f (fj a (.try b9 n b0) f.az)<|ml (.Try M [.ExceptHandler (J<|.Name E c0) (J x) (R::b3) c1] [] [] p) f.env:=by
 refineλH d l s r I D=>pd D λd6 D=> ?_
 refine UL (q:=Unit) (g:=λm h o=>match bG a b0 ac (aB h n<|.ref m) o with
  |some (.ok f H l)=>J<|bM.ok f (λj=>if j=n then Y else H j) l|_=>Y) D λV q b4 z=> ?_
 refine wpAny_Try_except<|cE (d4 _ _ _ _ _ I q) (λc4 a6 y=> ?_) λN a6 y=> ?_
 ·cases V with
  |a4=>exact y.elim|ok a1 h o=>
   refine am (z _ _ _ rfl) ?_;cases c4 with
   |next=>exact zh y|_=>exact y
 ·refine BM F S I y λc5 a7=>BL (c:=Y) I a7 λO a8=> ?_
  refine mB.on (C:=λV N=>(∀m h o,V=.a4 m h o->(match bG a b0 ac (aB h n<|.ref m) o with
   |some (.ok f H l)=>J<|bM.ok f (λj=>if j=n then Y else H j) l|_=>Y)=J r)->aV (aR L w) f.A (handleBy N f.env [.ExceptHandler (J<|.Name E c0) (J x) (R::b3) c1]) _ _ O) a8 (λm h o j b1 z X b2 b5 d7 b4=> ?_) b4
  have d8:=X.aP.m3 b5 b2;refine wpAny_handleBy_cons (codeAny_handlers_test<|K_ ?_) (show(ri b1.1)≠byPass from nofun);refine GJ (v:=.c2 1) K (AB (e:=.ref b1.1) F) d8 d2 (by refine U (cY d1) ?_;rfl) λP d9=>d9.h4 (C:=λP=>aV (aR L w) (r_ f<|.ref b1.1).A (excMatches (.ref b1.1) P) _ _ O) ?_;refine N1 K X.aP b5 b2 ?_;refine U (aK rfl) ?_;refine P_ (b4 m h o rfl) λa1 b6 b7 e0 e1=>Qa ?_;refine tO d7 λe8 e9 T f0 f1 f2 e2 e3 e4 f3 e5 e6 c6 e7 c7 b8 _=> ?_
  unfold zc
  refine bd<|mn e2 e3 e4 ?_;refine U (aK (show(ri T !=lk)=ac from bne_iff_ne.mpr nofun)) ?_;refine zk c6 c7 (Ck.mp b8).1 ?_;have a0:=B3 (t:=O.toks) I X e6 e5 c6 e7 c7 (vZ O.heap T (wa (·.setIfInBounds 3 ((Y:Option aE).elim lk λf=>mm f))));refine Xn<|pw (M:=.ref m) (AB F) (a0.aP.m3 b5 b2) c3 (.ref b2) λc8 a2=> ?_;refine cE (d5 _ _ _ _ _ _ a2.aP e0) (λc4 c9 y=>ah y λa5 a9 z=> ?_) λ_ _ y=>y.elim;have j:=(a2.trans a9).r1 a0.aP d6;exact Uh F j.aP c3 d3 λd0 a3=>am e1<|ax a5 ((a0.trans j).trans a3)<|mr.dO j.aP a3 z
end
end
section
open PySem PySem.W PySem.Calls PyProof.Rows
variable {g:cn} {w:bQ} {u:bT} {A h t:aY} {d b:bq} {Q o:ae} {f:cj} {H L:ap} {s B:aJ}
def xt {e:Type} {P:List aG} {l:List e} {j:Nat} {x:aG}:P.Nodup->P[j]?=J x->(P.zip l).lookup x=l[j]?:=by
 induction P generalizing l j with
 |nil=>exactλ_=>aq|cons p P f=>
  refineλi h=> ?_;have c:=mZ.mp i;cases l with
  |nil=>rfl|cons a l=>
   refine U List.zip_cons_cons<|U gt ?_;cases j with
   |zero=>refine U (show(x==p)=ac from beq_iff_eq.mpr (aH h).symm) ?_;rfl|succ j=>exact have h:P[j]?=J x:=h;(U (show(x==p)=aa from beq_eq_false_iff_ne.mpr λz=>c.1<|am z<|em h)<|f c.2 h)
def Rb {a c:List<|aG×e}:(a++c).lookup x=(a.lookup x).or (c.lookup x):=by
 induction a with
 |nil=>rfl|cons y a f=>
  refine U List.cons_append<|U gt<|U gt ?_;cases x==y.1 with
  |true=>rfl|false=>exact f
noncomputable def sh (x:aG×ai) (c:List<|aG×ai):List<|aG×ai:=if(c.lookup x.1).isNone=ac then c++[(x.1,x.2)]else c
def PF {l c:List<|aG×ai}:(l.foldl (λc x=>sh x c) c).lookup n=(c.lookup n).or (l.lookup n):=by
 induction l generalizing c with
 |nil=>exact Option.or_none.symm|cons x l f=>
  refine(f (c:=sh x c)).trans ?_;refine U gt ?_;cases q:c.lookup x.1 with
  |none=>refine U (show sh x c=c++[(x.1,x.2)]from aK<|by refine U q ?_;rfl)<|U Rb<|U gt<|U Option.or_assoc ?_;cases n==x.1<;>rfl
  |some a=>
   refine U (show sh x c=c from aX<|by refine U q ?_;exact nofun) ?_;cases e:n==x.1 with
   |true=>refine U (cY e)<|U q ?_;rfl|false=>rfl
noncomputable def qP (P:List aG) (a D:List ai) (n:aG):Option ai:=((P.zip a).lookup n).or<|((P.drop<|P.length-D.length).zip D).lookup n
def lA (P:List aG) (a D:List ai):List<|aG×ai:=P.filterMap λn=>(qP P a D n).map (n,·)
def zU {f:Type} {c:aG->Option f} {P:List aG}:((P.filterMap λn=>(c n).map (n,·)).map (·.1)).Sublist P:=by
 induction P with
 |nil=>exact .slnil|cons p P e=>
  refine U VA ?_;cases c p with
  |none=>exact e.cons p|some a=>exact e.cons_cons p
def xz {P:List aG} (h:x∈P) (e:qP P c D x=J a):(x,a)∈lA P c D:=VN.mpr (ax x h (al (hm (x,·)) e))
def BQ {P:List aG} {c D:List ai} {x:aG} {j:Nat} {a:ai} (f:P.Nodup) (h:P[j]?=J x) (e:c[j]?=J a):qP P c D x=J a:=by
 unfold qP
 refine(U (xt f h)<|U e ?_)
 rfl
def TQ {P:List aG} {D:List ai} (f:P.Nodup) (h:P[j]?=J x) (n:c[j]?=Y) (z:P.length+k=j+D.length) (i:D.length<=P.length) (e:D[k]?=J a):qP P c D x=J a:=by
 unfold qP
 have z:P.length-D.length+k=j:=(Nat.sub_add_comm i).symm.trans<|U z<|Nat.add_sub_cancel j D.length;refine(U (xt f h) (U n (U (xt (f.sublist<|List.drop_sublist _ _) ((VC.trans (al (P[·]?) z)).trans h))<|U e ?_)))
 rfl
def Ci [Decidable c] {f:fo j} (h:¬c) (k:aV M e f i E s):aV M e (if c then a else f) i E s:=U (aX h) k
def Sl {p:ty} (a:p.posonlyargs=[]) (c:p.kwonlyargs=[]) (e:p.vararg=Y) (f:p.kwarg=Y):p={p with posonlyargs:=[],kwonlyargs:=[],vararg:=Y,kwarg:=Y}:=by
 cases p
 subst a c e f
 rfl
def ML {j:oD} {p D:List ai} {P:List aG} (y:P=j.params.args.map (·.arg)) (z:j.params.posonlyargs=[]) (C:j.params.kwonlyargs=[]) (F:j.params.vararg=Y) (I:j.params.kwarg=Y)
  (J:P.Nodup) (K:p.length<=P.length) (N:D.length<=P.length) (O:P.length-D.length<=p.length)
  (R:∀(M:tA) (m:en) (E:ai->aJ->Prop) (f:Option (Array ai)->aJ->Prop),(∀h,(h.getD #[]).toList=D->f h s)->aV M m (seqItems? j.defaults) f E s):BindsTo s j ⟨p,[]⟩<|lA P p D:=by
 intro M m E f S
 unfold bindArgs
 refine(U (Sl z C F I) ?_)
 subst y
 dsimp only;refine bd<|cF<|bd<|R _ _ _ _ λh T=> ?_;refine U T ?_
 have w:D.drop (D.length-(j.params.args.map (·.arg)).length)=D:=by
  refine(U (CN N) ?_)
  rfl
 have r:∀q,q=D->¬(!(List.filter (λn=>(VK n ((j.params.args.map (·.arg)).zip p)).isNone) (List.take ((j.params.args.map (·.arg)).length-q.length) (j.params.args.map (·.arg)))).isEmpty)=ac:=λq e=>by
  rw[e,List.filter_eq_nil_iff.mpr λx k=>(List.mem_iff_getElem?.mp k).elim λi a=> ?_]
  ·exact nofun
  ·rw[List.getElem?_take]at a;exact eC a λv a=>U (xt J a)<|U (fd<|dL v O) nofun
 refine Ci (c:=(bj (p.length>(j.params.args.map (·.arg)).length)&&ac)=ac) (by refine U (nJ _)<|U decide_eq_true_eq ?_;exact oB.mpr K)<|Ci (r _ w) ?_;refine bd (zj (FV (l:=((j.params.args.map (·.arg)).drop _).zip _) sh ((j.params.args.map (·.arg)).zip p) λx _ a=> ?_)<|bd<|cF<|Ci (c:=(![].isEmpty)=ac) nofun (cF ?_))
 ·obtain⟨k,v⟩:=x;exact(apply_ite (λx=>(gg (tp x):fo _)) ((a.lookup k).isNone=ac) (a++[(k,v)]) a).symm
 ·have i:∀P q,q=D->(P++[]).filterMap (λn=>(VK n<|((P.drop<|P.length-q.length).zip q).foldl (λa x=>sh x a)<|P.zip p).map (n,·))=lA P p D:=λP q e=>by exact(U (dI _) (U e (al (List.filterMap · _) (funext λn=>al (hm (n,·)) PF))))
  exact Eq.mpr (al (f · s)<|i _ _ w) S
def MH {l:List Nat} {m r:List V} {H:ap}:kM l m r=J H->m.length<=l.length->
  r.length<=l.length/\l.length<=r.length+m.length/\∀i v,H i=J v->∃j,l[j]?=J i/\(r[j]?=J v\/r[j]?=Y/\∃k,m[k]?=J v/\l.length+k=j+m.length):=by
 induction l generalizing m r H with
 |nil=>cases r with|nil=>exactλh _=>(am (aH h)<|bB (bE _) (cr _)<|λ_ _=>aq)|cons=>exact aq
 |cons p l E=>cases r with
  |cons v r=>
   refineλh F=>hu (D:=λH=>(v::r).length<=(p::l).length/\(p::l).length<=(v::r).length+m.length/\∀i x,H i=J x->∃j,(p::l)[j]?=J i/\((v::r)[j]?=J x\/(v::r)[j]?=Y/\∃k,m[k]?=J x/\(p::l).length+k=j+m.length)) h λL t=> ?_;refine aZ (m.length<=l.length) (λs=> ?_)<|λs=> ?_
   ·have t:=(aK s)▸t;refine dq (E t s) λa n c=>⟨dv a,U (jo _ _)<|dv n,λi x C=>mU C (λz w=>ax 0 (al J z.symm)<|.inl<|al J w) λ_ q=>ah (c i x q) λj e y=>⟨j+1,e,y.imp id λy=>⟨y.1,ah y.2 λk e z=>ax k e<|?_⟩⟩⟩;rw[jo, <-z,gY,jo]
   ·rw[aX s]at t;cases m with
    |nil=>exact(s<|cr _).elim|cons f m=>exact dq (E t<|jn F) λa n c=>⟨dv a,aF (bo s)<|hE _ _,λi x C=>mU C (λz w=>ax 0 (al J z.symm)<|.inl<|al J w) λ_ q=>ah (c i x q) λj e y=>⟨j+1,e,y.imp id λy=>⟨y.1,ah y.2 λk e z=>ax (k+1) e (have z:l.length+k=j+m.length:=z;(CF l.length 1 k 1).trans (U z<|CF j m.length 1 1))⟩⟩⟩
  |nil=>cases m with
   |nil=>exact aq|cons f m=>
    refineλh F=>eC h λs h=>hu (D:=λH=>0<=(p::l).length/\(p::l).length<=0+(f::m).length/\∀i x,H i=J x->∃j,(p::l)[j]?=J i/\(([]:List V)[j]?=J x\/([]:List V)[j]?=Y/\∃k,(f::m)[k]?=J x/\(p::l).length+k=j+(f::m).length)) h λL t=> ?_;refine dq (E t<|bp s) λa n c=>⟨cr _,am ((eb _).symm)<|dv<|bp s.symm,λi x C=>mU C (λz w=>ax 0 (al J z.symm)<|.inr ⟨rfl,0,al J w,?_⟩) λ_ q=>ah (c i x q) λj e y=>⟨j+1,e,.inr ⟨rfl,y.elim aq λy=>ah y.2 λk e z=>ax (k+1) e<|?_⟩⟩⟩
    ·exact(al (· +1) s.symm).trans (eb _).symm
    ·have z:l.length+k=j+m.length:=z;exact(CF l.length 1 k 1).trans<|U z<|CF j m.length 1 1
def MG {l:List<|aG×ai}:n∉l.map (·.1)->yW a l m n=m n:=by
 induction l generalizing m with
 |nil=>exactλ_=>rfl|cons y r c=>
  refineλh=>(c (m:=if a y.1=J .local then _ else m) λz=>h<|ra _ z).trans ?_;refine aZ (a y.1=J .local) (λe=> ?_)<|λe=> ?_
  ·exact(U (aK e)<|aX λz=>h<|bY.mpr<|.inl z)
  ·exact U (aX e) rfl
def MD {l:List<|aG×ai}:n∉l.map (·.1)->yV a l m n=m n:=by
 induction l generalizing m with
 |nil=>exactλ_=>rfl|cons y r c=>
  refineλh=>(c (m:=if a y.1=J .local then m else _) λz=>h<|ra _ z).trans ?_;refine aZ (a y.1=J .local) (λe=> ?_)<|λe=> ?_
  ·exact U (aK e) rfl
  ·exact U (aX e)<|aX λz=>h<|bY.mpr<|.inl z
def zQ (f:c n=J .local) {a:List<|aG×ai}:(a.map (·.1)).Nodup->(n,v)∈a->yW c a m n=J v:=by
 induction a generalizing m with
 |nil=>exactλ_ h=>eG (l:=[]) h|cons y r i=>
  refineλe h=>(bY.mp h).elim (λz=> ?_) λz=>i (mZ.mp e).2 z
  subst z
  exact(MG (mZ.mp e).1).trans<|by refine U (aK f) ?_;exact aK rfl
def ME (f:c n≠J .local) {a:List<|aG×ai}:(a.map (·.1)).Nodup->(n,v)∈a->yV c a m n=J v:=by
 induction a generalizing m with
 |nil=>exactλ_ h=>eG (l:=[]) h|cons y r i=>
  refineλe h=>(bY.mp h).elim (λz=> ?_) λz=>i (mZ.mp e).2 z
  subst z
  exact(MD (mZ.mp e).1).trans<|by refine U (aX f) ?_;exact aK rfl
def Eu {n:Nat} {x:aG} {k:fC} {r:List<|aG×fC} {a:List<|aG×aE} {C:List (aG×aE)->Prop} (h:k=.cell->C (rj (n+1) r<|(x,n)::a)) (t:k≠.cell->C (rj n r a)):C<|rj n ((x,k)::r) a:=by
 unfold rj
 refine aZ ((k==mf)=ac) (λe=> ?_)<|λe=> ?_
 ·exact U (aK e)<|h<|cY e
 ·exact U (aX e)<|t λz=>e<|beq_iff_eq.mpr z
def M7 {e:List<|aG×fC} {n:Nat} {f:List<|aG×aE} {x:aG}:(∃a,f.lookup x=J a)->∃a,(rj n e f).lookup x=J a:=by
 induction e generalizing n f with
 |nil=>exact id|cons y r i=>
  refine Eu (C:=λc=>_->∃a,c.lookup x=J a) (λ_ h=>i ?_) λ_ h=>i h;refine U gt ?_;cases x==y.1 with
  |true=>exact⟨_,rfl⟩|false=>exact h
def Ev {f:List<|aG×fC} {n:Nat} {i:List<|aG×aE} {x:aG}:(x,mf)∈f->∃a,(rj n f i).lookup x=J a:=by
 induction f generalizing n i with
 |nil=>exactλh=>eG (l:=[]) h|cons y r j=>exact Eu (C:=λc=>_->∃a,c.lookup x=J a) (λ_ h=>(bY.mp h).elim (λz=>M7 ⟨n,U gt<|U (show(x==y.1)=ac from beq_iff_eq.mpr<|al KH z) rfl⟩) j) λe h=>(bY.mp h).elim (λz=>(e<|al rf z.symm).elim) j
end
section
open PySem PySem.W PySem.Calls PyProof.Rows
variable {j:cn} {w:bQ} {H:bT} {B h L:aY} {l u:bq} {Q r:ae} {f:cj} {t i:ap} {s g:aJ}
noncomputable def Gq:ScopeKind->Bool|.function=>ac|_=>aa
def z6 (d:he):Bool:=Gq d.scope.kind&& !d.scope.isCoroutine&& !d.scope.isGenerator&&qD d.scope.names&&(d.scope.names.all λy=>y.2 != .free&&y.1 !=("__debug__":aG)&&y.1 !=("__classdict__":aG))&&
 d.args.posonlyargs.isEmpty&&d.args.kwonlyargs.isEmpty&&d.args.vararg.isNone&&d.args.kwarg.isNone&&bj (d.args.args.map (·.arg)).Nodup&&(d.args.defaults.length<=d.args.args.length)&&
 (d.args.args.all λa=>d.scope.names.lookup a.arg==J .local||d.scope.names.lookup a.arg==J .cell)
structure rn (d:he):Prop where
 kind:d.scope.kind=.function
 Nj:d.scope.isCoroutine=aa
 od:d.scope.isGenerator=aa
 Bk:qD d.scope.names=ac
 names:∀y∈d.scope.names,y.2≠.free/\(y.1==("__debug__":aG))=aa/\(y.1==("__classdict__":aG))=aa
 Sz:d.args.posonlyargs=[]
 QZ:d.args.kwonlyargs=[]
 fS:d.args.vararg=Y
 QY:d.args.kwarg=Y
 nE:(d.args.args.map (·.arg)).Nodup
 EW:d.args.defaults.length<=d.args.args.length
 Sk:∀a∈d.args.args,d.scope.names.lookup a.arg=J .local\/d.scope.names.lookup a.arg=J .cell
def GB {k:ScopeKind} (h:Gq k=ac):k=.function:=by
 cases k with
 |function=>rfl|_=>exact cW h
def Nx (h:z6 d=ac):rn d:=by
 unfold z6 at h
 simp only[JZ,Cn,CA,Option.isNone_iff_eq_none,decide_eq_true_eq,vM,Bool.or_eq_true,beq_iff_eq,bne_iff_ne]at h;refine bx h λw n=> ?_;refine bx w λw m=> ?_;obtain⟨⟨⟨⟨⟨⟨⟨⟨⟨a,b⟩,c⟩,x⟩,e⟩,f⟩,o⟩,q⟩,k⟩,s⟩:=w;exact⟨GB a,b,c,x,λy z=>have e:=e y z;(bB (e.1.1) (beq_eq_false_iff_ne.mpr e.1.2)<|beq_eq_false_iff_ne.mpr e.2),f,o,q,k,s,m,n⟩
def qv (d:he) (e:oD) (b a:aE) (A:en) (hd:Bool) (fr:List eE):cj:={env:=mi e b a,A:=A.deeper<|mi e b a,c:=uw d.scope,az:=hd,fr:=mi e b a::fr}
def sA {b:eA} (h:sz b x=J a):∃k,ip b.names 0 x=J (a,k)/\xl k=ac/\a<100:=by
 have h:(match ip b.names 0 x with
  |some (n,k)=>if xl k&&bj (n<100)then J n else Y|none=>Y)=J a:=h
 cases q:ip b.names 0 x with
 |none=>have h:=q▸h;exact aq h|some y=>have h:=q▸h;exact eC h λc h=>am (aH h)<|cM (y.2) rfl (dh c)<|mG<|ed c
def P6 {a:eA} (h:AR a x=ac):a.names.lookup x=J .globalImplicit:=by
 have h:(match ip a.names 0 x with
  |some (_,.globalImplicit)=>ac|_=>aa)=ac:=h
 cases q:ip a.names 0 x with
 |none=>rw[q]at h;exact cW h|some y=>
  rw[q]at h;obtain⟨n,k⟩:=y;cases k with
  |globalImplicit=>exact(nu q).2|_=>exact cW h
def Q_ {f:cj} (b:xl k=ac) (e:f.env.kindOf x=J k) (c:k≠.free) (d:k=.cell->∃a,f.env.cells.lookup x=J a):HA f.env x:=by
 cases k with
 |«local»=>exact .inl e|cell=>exact .inr ⟨.inl e,d rfl⟩|free=>exact(c rfl).elim|_=>exact cW b
def O5 {d:he} {s:oD} {A:en} {w:List eE} {f:Nat} (D:rn d) (I:s.scope=d.scope) (O:s.globals=js) (P:s.builtins=tE) (R:A.frames=J w) (M:zB A<|f+1) (S:∀x y c,(rj (b+1) s.scope.names []).lookup x=J c->(rj (b+1) s.scope.names []).lookup y=J c->x=y):cL<|qv d s b a A F w:=
 have C:∀{x k},d.scope.names.lookup x=J k->(qv d s b a A F w).env.kindOf x=J k:=λ{x k} q=>(al (λK:eA=>K.names.lookup x) I).trans q;have N:∀{x},(x,mf)∈d.scope.names->∃T,(qv d s b a A F w).env.cells.lookup x=J T:=λ{x} m=>Ev (n:=b+1) (i:=[]) (U I m)
 {kind:=(al WX I).trans D.kind
  sm:=O
  uj:=P
  loc:=λx o h=>bR (sA h) λk q V _=>
   have E:=(nu q).2;have z:=nB E
   ⟨Q_ V (C E) (D.names _ z).1 λe=>N<|am e z,(D.names _ z).2⟩
  inj:=λx y o h L=>bR (sA h) λk q _ _=>bR (sA L) λY X _ _=>AV q X
  gl:=λx h=>C (P6 h)
  glob:=rfl
  attr:=rfl
  jK:=rfl
  exc:=rfl
  fv:=al (hm (mi s b a::·)) R
  un:=S
  pF:=aF (hD (aF (by decide)<|CI 20<|hF f) A.units) M.2
  wQ:=aF (hD (aF (by decide)<|CI 3<|hF f) A.depth) M.1
  fh:=λK h=>have h:IJ d.scope K=ac:=h;have E:=λx m=>vM.mp (ed h) x m;⟨GB<|dh<|dh h,ed<|dh h,λx m=>bne_iff_ne.mp<|dh<|dh<|dh<|E x m,λx m=>(Co.mp<|ed<|dh<|dh<|E _ m).elim (λz=>(Co.mp z).elim (λz=>cW z) λz=>⟨.inl<|C<|cY z,N<|nB<|cY z⟩) λz=>((D.names _<|nB<|cY z).1 rfl).elim,λx m=>⟨beq_eq_false_iff_ne.mpr<|bne_iff_ne.mp<|ed<|dh<|E x m,beq_eq_false_iff_ne.mpr<|bne_iff_ne.mp<|ed<|E x m⟩,λx o h=>bR (sA h) λ_ _ _ e=>e⟩
  of:=λx h=>C<|cY h}
def xQ {n o:Type} {d:n->Option o} {c:List n} {f:List o}:iy d c=J f->f.length=c.length/\∀(e:Nat) b,f[e]?=J b->∃a,c[e]?=J a/\d a=J b:=by
 induction c generalizing f with
 |nil=>exactλh=>aH h▸⟨rfl,λ_ _=>aq⟩|cons a c q=>
  intro h
  have h:(match d a,iy d c with
   |some b,J c=>J<|b::c|_,_=>Y)=J f:=h
  cases m:d a with
  |none=>have h:=m▸h;exact aq h|some b=>
   rw[m]at h;cases k:iy d c with
   |none=>have h:=k▸h;exact aq h|some w=>
    rw[k]at h;refine(am (aH h) ⟨al (· +1) (q k).1,λe x s=> ?_⟩);cases e with
    |zero=>exact ax a rfl<|m.trans s|succ e=>exact(q k).2 e x s
def qJ {c:Type} {a b:Option c} (k:∀o,a=J o->b=J o) (e:b=Y):a=Y:=by
 cases a with
 |none=>rfl|some o=>exact aq<|e.symm.trans<|k o rfl
section
variable {m v:aG->Option ai} {p:aJ}
def H4 (X:yO s f.env.locals m f.env.cells v p) (z:jL f b):s.heap.get? b=Y:=oE<|z.elim (λz=>U z X.toInCall.fresh) λz=>z.elim λx e=>aF X.toInCall.fresh<|ky<|X.above x b<|C8 e
def M1 {m:List<|aG×ai} {A:en} (k:pS j w H B A f.az N l Q s) (T:f.fr=f.env::N) (V:f.env.scope.kind=.function) (a0:f.env.frame=J f.env.locals) (a1:f.A.handled=A.handled)
  (X:yO s f.env.locals (yW f.env.kindOf m λ_=>Y) f.env.cells (yV f.env.kindOf m λ_=>Y) p) (S:(m.map (·.1)).Nodup)
  (a2:∀x d h,f.c.loc x=J d->t d=J h->∃a,(x,a)∈m/\aT H s.heap l a h):bc j w H B f t l Q p:=
 have q:=X.toInCall.keep;have a3:eZ s.heap p.heap:=λb o e _=>q b o e;have y:∀{b},jL f b->B.get? b=Y/\¬fb l b:=λ{b} z=>have e:=H4 X z;⟨qJ (k.cs b) e,λz=>ah (k.bC.e7 z) λo a4 _=>aq<|e.symm.trans a4⟩;have E:∀{x d h} {n:aG->Option ai},(∀a,(x,a)∈m->n x=J a)->f.c.loc x=J d->t d=J h->∃a,n x=J a/\aT H p.heap l a h:=λ{x d h n} a5 F I=>ah (a2 x d h F I) λa K a6=>ax a (a5 a K) (a6.c3 a3)
 ⟨k.bC.keep q,λb o e=>q b o<|k.cs b o e,k.jQ,⟨(ax _ X.toInCall.ns<|λx d h F I O=>E (λa K=>zQ O S K) F I),λx c e=>ax _ (X.cell x c e)<|λd h F I O=>E (λa K=>ME O S K) F I,
  (y<|.inl rfl).2,λx c e=>⟨(y<|.inr ⟨x,e⟩).2,ah (X.cell x c e) λa7 a8 a9=>cZ a7 _ a8 a9⟩,λx c e=>me<|X.above x c<|C8 e⟩,
  λD M=>(bY.mp (T▸M:D∈f.env::N)).elim (λz=>U z ⟨V,eY X.toInCall.ns λo P R b0 b1 _=>j_ f.env.locals o P R a0 (y<|.inl rfl).1 b0 b1 (y<|.inl rfl).2⟩) λM=>⟨(k.fv D M).1,ju (k.fv D M).2 λC o P R b2 b3 b4 b5 b6=>j_ C o P R b2 b3 (q _ _ b4) b5 b6⟩,
  by have:=k.gF;unfold kG at*;refine U a1 ?_;exact this,λb b7=>(y b7).1⟩
def ct.m4 (X:yO s f.env.locals m f.env.cells v p) (m:ct j w H B f t l Q p x c k n):tJ j w H B l Q s c k n:=⟨.trans (fq X.toInCall.same λh a q=>dn h a q) m.eg,⟨ah m.cI.df λA y d=>ax A y<|λa q=>⟨qJ (X.toInCall.keep _) (d a q).1,qJ (X.toInCall.keep _) (d a q).2⟩,λb o e C=>m.cI.gI b o (X.toInCall.keep b o e) C λz=>aq<|(H4 X z).symm.trans e⟩,m.aP.bC,m.aP.cs,m.hT⟩
end
def MU {d:he} {f:bL} {C:bL->Prop} (h:En d=J f) (k:∀c e b,iy (λa=>sz d.scope a.arg) d.args.args=J c->iy nA d.args.defaults=J e->rT (uw d.scope) d.body=J b->C ⟨c,e,b⟩):C f:=by
 have h:(match iy (λa=>sz d.scope a.arg) d.args.args,iy nA d.args.defaults,rT (uw d.scope) d.body with
  |some c,J e,J b=>J ⟨c,e,b⟩|_,_,_=>Y)=J f:=h
 cases m:iy (λa=>sz d.scope a.arg) d.args.args with
 |none=>have h:=m▸h;exact aq h|some c=>cases n:iy nA d.args.defaults with|none=>have h:=n▸(m▸h);exact aq h|some e=>cases o:rT (uw d.scope) d.body with|none=>have h:=o▸(n▸(m▸h));exact aq h|some b=>have h:=o▸(n▸(m▸h));exact am (aH h)<|k c e b m n o
def MZ {n k:Nat} {c:Bool} {b:List V} {a:Except Nat V×ae} {C:Prop} (h:dT (n+1) c k b Q=J a) (q:∀f t,bN k=J f->kM f.params f.np b=J t->lE (bG (dT n) f.body c t Q)=J a->C):C:=by
 have h:(match bN k with
  |some f=>match kM f.params f.np b with|some t=>lE<|bG (dT n) f.body c t Q|none=>Y
  |none=>Y)=J a:=h
 cases d:bN k with
 |none=>have h:=d▸h;exact aq h|some f=>
  rw[d]at h
  have h:(match kM f.params f.np b with
   |some t=>lE<|bG (dT n) f.body c t Q|none=>Y)=J a:=h
  cases e:kM f.params f.np b with
  |none=>have h:=e▸h;exact aq h|some t=>rw[e]at h;exact q f t d e h
def ER (h:de j w H B) {d:he} (a3:kQ[k]?=J d) (C:rn d) {A:en} {I:List ai} {K:List V} {R:rh->aJ->Prop} (y:∀b o,B.get? b=J o->s.heap.get? b=J o) (a4:A.depth<1000)
  (D:iy nA d.args.defaults=J K) (a5:I.length<=d.args.args.length) (a6:d.args.args.length<=I.length+K.length)
  (q:∀F m p,bg H s.heap [] F K->m.scope=d.scope->m.globals=js->m.builtins=tE->
   yO s (mi m s.heap.objs.size<|H.dg k).locals (yW (mi m s.heap.objs.size<|H.dg k).kindOf (lA (d.args.args.map (·.arg)) I F) λ_=>Y) (mi m s.heap.objs.size<|H.dg k).cells (yV (mi m s.heap.objs.size<|H.dg k).kindOf (lA (d.args.args.map (·.arg)) I F) λ_=>Y) p->
   mj (aR j w) A (.func d.body<|mi m s.heap.objs.size<|H.dg k) R p):mj (aR j w) A (.call (.ref<|H.dg k) ⟨I,[]⟩) R s:=by
 obtain⟨o,m,a7,a8,N,a9,O,b0,b1,b2,b3,P⟩:=h.FQ k d a3
 have S:∃F:List ai,bg H s.heap [] F K/\∀(M:tA) (A:en) (E:ai->aJ->Prop) (f:Option (Array ai)->aJ->Prop),(∀o,(o.getD #[]).toList=F->f o s)->aV M A (seqItems? m.defaults) f E s:=P.elim (λq=>(ax ([]) (am (aH (q.2▸D:iy nA []=J K)) .b_)<|λM A E f c=>by refine U q.1 ?_;exact cF<|c Y rfl)) λq=>Lj q λT c3 a c4 x z X b4 b5 b6=>(ax a.toList (am (aH<|b5.symm.trans D)<|b6.c3 λb o e _=>y b o e)<|λM A E f c=>by refine U z ?_;exact Xu (y _ _ X) b4<|c _ rfl)
 refine ah S λF a1 e=> ?_;have T:(d.args.args.map (·.arg)).length=d.args.args.length:=bX _;have a2:=a1.length.trans (xQ D).1;have b7:BindsTo s m ⟨I,[]⟩ (lA (d.args.args.map (·.arg)) I F):=ML (by exact U N rfl) (by refine U N ?_;exact C.Sz) (by refine U N ?_;exact C.QZ) (by refine U N ?_;exact C.fS) (by refine U N ?_;exact C.QY) C.nE (by refine U T ?_;exact a5) (by refine U T<|U a2 ?_;exact C.EW) (by refine U T<|U a2 ?_;exact Nat.sub_le_iff_le_add.mpr<|am ((xQ D).1) a6) e;refine codeAny_call_function a4 (y _ _ a7) a8 (by refine U O ?_;exact C.Nj) (by refine U O ?_;exact C.od) a9 (b3.keeps y)<|b7 _ _ _ _ ?_;refine U b2 ?_;refine wpAny_newFunctionEnv_cells (by refine U O ?_;exact C.kind) (λx b8=>ah (rc.mp<|zU.mem<|List.mem_map_of_mem b8) λa b9 a0=> ?_) λc0 c1 p X=> ?_
 ·exact(U O<|am a0<|(C.Sk a b9).imp id λz=>⟨z,by refine(Ev (n:=s.heap.objs.size+1) (i:=[])<|nB z).elim λc c2=> ?_;refine U c2 ?_;rfl⟩)
 ·subst c1
  exact⟨(h.HE.keeps y).keeps X.toInCall.keep,q F m p a1 O b0 b1 X⟩
def M3 (F:de j w H B) (D:∀(k:Nat) d,kQ[k]?=J d->rn d) {n:Nat} {Y:Bool}
  (d6:∀(f:cj),cL f->mq f->oa f.A n->f.az=Y->∀d2 d3,rT f.c d2=J d3->fH j w H B f (bG (dT n) d3 f.az) (nT d2 f.env)):pX j w H B F (n+1) Y:=by
 refineλk d7 Q h e=>MZ e λb8 t d8 a0 e=>el d8 λd a2 c1=>⟨F.Gy k d a2,λo a7 l s d9 b9 K d4=> ?_⟩;have a5:=D k d a2;refine MU (C:=λb8=>kM b8.params b8.np d7=J t->lE (bG (dT n) b8.body Y t Q)=J h->mj (aR j w) o (.call (.ref<|H.dg k) ⟨d9,[]⟩) (kD j w H B l Q s h) s) c1 (λd5 e0 b c2 a8 c3 a0 e=> ?_) a0 e;have a9:=xQ c2;have b0:e0.length<=d5.length:=by refine U ((xQ a8).1)<|U a9.1 ?_;exact a5.EW
 have c4:=d4.length;refine dq (MH a0 b0) λe1 e2 e3=>ER F a2 a5 K.cs (dK (aF (ck _ _) b9.1)<|by decide) a8 (c4▸a9.1▸e1) (c4▸a9.1▸e2) λg8 c0 p c5 e4 e5 e6 X=>W9 ?_;have c6:cL<|qv d c0 s.heap.objs.size (H.dg k) o Y a7:=O5 a5 e4 e5 e6 K.DV b9 λx y c c7 e7=>name_of_addr X.apart (C8 c7)<|C8 e7
 have I:=M1 (f:=qv d c0 s.heap.objs.size (H.dg k) o Y a7) (t:=t) K rfl c6.kind rfl rfl X (a5.nE.sublist zU) λx O M c7 e8=>ah (e3 O M e8) λP e9 a6=>ah (a9.2 P O e9) λa f0 c8=>by have q:(d.args.args.map (·.arg))[P]?=J x:=(U lg<|U f0<|al J<|bR (sA c7) λ_ z _ _=>bR (sA c8) λ_ E _ _=>(AV z E).symm);have R:=em q;have S:(d.args.args.map (·.arg)).length=d5.length:=(bX _).trans a9.1.symm;exact a6.elim (λa6=>ah (d4.d6 a6) λE N b1=>ax E (xz R<|BQ a5.nE q N) b1) λa6=>ah a6.2 λT e z=>ah (c5.d6 e) λE N b1=>ax E (xz R<|TQ a5.nE q (Cx.mpr<|U c4<|Cx.mp a6.1) (by refine U S<|U c5.length ?_;exact z) (by refine U S<|U c5.length ?_;exact b0) N)<|b1.a2 (λ_ _ e _=>e) λ_ _=>aq
 have b2:mq<|qv d c0 s.heap.objs.size (H.dg k) o Y a7:=⟨a7,rfl⟩;have f1:oa (qv d c0 s.heap.objs.size (H.dg k) o Y a7).A n:=⟨aF (bp (al (· +2)<|gv o.depth 1<|3*n)) b9.1,aF (bp (al (· +17)<|gv o.units 3<|20*n)) b9.2⟩;cases q:bG (dT n) b Y t Q with
 |none=>have e:=q▸e;exact aq e|some R=>
 rw[q]at e;refine cE (d6 _ c6 b2 f1 rfl _ _ c3 t l Q p R I q) (λg9 b3 y=> ?_) λE b3 y=> ?_
 ·cases R with
  |a4=>exact y.elim|ok T a3 N=>
   refine ah y λS b4 z=> ?_;have c:=b4.m4 X;cases T with
   |a1=>
    have e:(mW V.a6,N)=h:=aH e
    subst e
    exact z.i3<|ax S c rfl
   |gm=>exact aq e|aO M=>
    have e:(mW M,N)=h:=aH e
    subst e
    exact z.i4 λE b1=>ax S c b1
 ·refine TE c6 b2 I y λb5 b6=>mB.on (C:=λR E=>lE (J R)=J h->kD j w H B l Q s h (.error E) b5) b6 (λm a3 N S z f2 b7 f3 f4 f5 e=> ?_) e;have e:(Except.error m,N)=h:=aH e
  subst e
  exact ft S z (b7.m4 X) f3 rfl ⟨f2,f4⟩<|tO f5 λf6 c9 T f7 f8 h0 f9 g0 g1 g2 g3 g4 g5 g6 g7 d0 d1=>Dz f6 c9 T f7 f8 f9 g0 g1 g2 g3 (qJ (X.toInCall.keep _) g4) g5 g6 g7<|d1.elim (λq=>am q d0) λq=>ah q λ_ q _=>aq q
end
section
open PySem PySem.W PySem.Calls PyProof.Rows
variable {d:cn} {w:bQ} {H:bT} {o h u:aY} {B x:bq} {g a:ae} {f:cj} {j m:ap} {s q:aJ}
section
variable {y c:Type} {P Q:y->c->Prop}
def eX.imp {l:List y} {e:List c} (h:∀f b,P f b->Q f b):eX P l e->eX Q l e:=by
 induction e generalizing l with
 |nil=>exact id|cons b e s=>exactλn=>n.b7 (c:=λl=>eX Q l<|b::e) λf l n p=>.cons (h f b n)<|s p
theorem eX.length {l:List y} {e:List c}:eX P l e->l.length=e.length:=by
 induction e generalizing l with
 |nil=>exactλf=>f.c0 (c:=λl=>l.length=0) rfl|cons b e p=>exactλf=>f.b7 (c:=λl=>l.length=e.length+1) λn l f h=>al (· +1)<|p h
def eX.mem {n:y}:eX P e p->n∈e->∃b,P n b:=by
 induction p generalizing e with
 |nil=>exactλf=>f.c0 (c:=λe=>n∈e->_) λh=>eG (l:=[]) h|cons b p w=>exactλf=>f.b7 (c:=λe=>n∈e->_) λC e f s h=>(bY.mp h).elim (λz=>⟨b,U z f⟩)<|w s
end
def Ef {f:aG} (h:zP f=J b):lz f=J (rP b)/\ue b=[]:=bR (BY h) λn w e s=>am e (am s ((tv (p:=λn:String×mo=>lz (eo n.1)=J (rP n.2)/\ue n.2=[])).mpr ⟨⟨rfl,rfl⟩,tv.mpr ⟨⟨rfl,rfl⟩,tv.mpr ⟨⟨rfl,rfl⟩,tv.mpr ⟨⟨rfl,rfl⟩,tv.mpr ⟨⟨rfl,rfl⟩,tv.mpr ⟨⟨rfl,rfl⟩,λ_ h=>eG (l:=[]) h⟩⟩⟩⟩⟩⟩ n w))
def nm {l:dR} {f:aG} {b:String} {e:ai} (h:lL l f b=ac) (n:lz (eo b)=J e):lz f=J e:=U (cY<|ed h) n
structure rq (d:cn) (w:bQ) (H:bT) (o:aY) (n:Nat) (f:cj) (e:bn) (i:a_):Prop where
 dF:cb d w H o f (aU (dT n f.az) f.az i) (bz e f.env)
 h_:fJ d w H o f (aU (dT n f.az) f.az i) (jq e f.env<|bz e f.env)
 fy:sJ e=ac
 HK:u_ e=ac
 AK:∀v,yZ e f.env v=gg v
section
variable {n:Nat} {k i:List bn} {t:List a_}
def UR (h:eX (rq d w H o n f) k t):fJ d w H o f (hq (dT n f.az) f.az t) (to k ac λl b=>if b=ac then do let F<-jq l f.env<|bz l f.env;gg (tp F)else gg<|tp b):=by
 cases t with
 |nil=>exact h.c0 (c:=λk=>fJ d w H o f (hq (dT n f.az) f.az [])<|to k ac _) λj B g s b I e E=>wpAny_tests_nil<|cZ g B (nG e)<|.b1 I|cons p t=>cases t with|nil=>exact h.b7 (c:=λk=>fJ d w H o f (hq (dT n f.az) f.az [p])<|to k ac _) λe b z C=>C.c0 (c:=λb=>fJ d w H o f (hq (dT n f.az) f.az [p])<|to (e::b) ac _) λj B g s b I e E=>wpAny_tests_one<|z.h_ j B g s b I e E|cons=>exactλj B g s b I e E=>aq e
def hr {e:bn} (h:cb d w H o f (aU (dT n f.az) f.az F)<|bz e f.env) (Q:jq e f.env (bz e f.env)=(do let l<-bz e f.env;wh e.pos;wf [l] (wj l))) (P:(sJ e&&u_ e)=ac) (R:∀l,yZ e f.env l=gg l):rq d w H o n f e F:=
 ⟨h,(by
   intro j B g s p I J O
   refine wpAny_isTrue_value (cE (h j B g s p I J) (λD L K=> ?_) λ_ _ z=>z) Q;refine K.on (C:=λp=>zt p->aV (aR d w) f.A (wj D) (t_ d w H o f j B g s p) (cR d w H o f j B g s p) L) (λl E M N S O=>O.elim λb z=> ?_) O
   subst z
   exact S.jA (C:=λD=>aV (aR d w) f.A (wj D) (t_ d w H o f j B g s (.ok<|.ad b,E)) (cR (b:=V) d w H o f j B g s (.ok<|.ad b,E)) L)<|tH<|cZ E M rfl N),dh P,ed P,R⟩
def lx (h:eX (rq d w H o n f) i t):(hJ p<|gM i f.env).any (·.1)=aa/\mA d w H o f (gn (dT n f.az) f.az t) (nU<|hJ p<|gM i f.env):=⟨Ui λe l=>(h.mem l).elim λ_ b=>b.fy,TO<|h.imp λ_ _ b=>⟨b.dF,b.fy⟩⟩
end
def Uz {w:bn} {E:List Nat} {n:Nat} (h:zY (gp f.c M) w=J E) (s:(E.all λb=>bj<|100<=b)=ac) (L:(if n==2 then E.length==2 else E.length==1)=ac):ua f M E n w:=by
 cases w with
 |Name b p=>
  revert s L
  refine hu (D:=λE=>(E.all λb=>bj<|100<=b)=ac->(if n==2 then E.length==2 else E.length==1)=ac->ua f M E n (.Name b p)) h λz l s L=>.inl<|lr b p z (?_) l (mG<|dh s) rfl rfl;cases e:n==2 with
  |true=>rw[e]at L;exact cW L|false=>rfl
 |Tuple l F p=>cases l with
  |nil=>exact aq h|cons C l=>cases C with
   |Name b N=>cases l with
    |nil=>exact aq h|cons C l=>cases C with
     |Name I O=>cases l with
      |nil=>
       revert s L
       refine el h λz P h=>hu (D:=λE=>(E.all λb=>bj<|100<=b)=ac->(if n==2 then E.length==2 else E.length==1)=ac->ua f M E n (.Tuple [.Name b N,.Name I O] F p)) h λK Q s L=>.inr ⟨b,I,N,O,p,F,Lr z K ?_ P (mG<|dh s) Q (mG<|dh<|ed s) rfl rfl⟩;cases e:n==2 with
       |true=>rfl|false=>rw[e]at L;exact cW L
      |cons=>exact aq h
     |_=>exact aq h
   |_=>exact aq h
 |_=>exact aq h
variable {n:Nat} (A:de d w H o) (C:∀r,pX d w H o A n r) (v:tP d w H o)
def pR (n:Nat) (b:dR) (P:cj->Prop):Prop:=∀f,f.c=b->cL f->oa f.A n->P f
def QV (d:cn) (w:bQ) (H:bT) (o:aY) (n:Nat):DE where
 E b e C:=pR n b λf=>rq d w H o n f e C
 L b l p:=pR n b λf=>eX (rq d w H o n f) l p
 R b s D p:=pR n b λf=>rD d w H o f (dT n f.az) D p s/\∀z,yZ s f.env z=gg z
 M b I F J k K h:=pR n b λf=>tK d w H o f (dT n f.az) K h.xs h.k h.ol h.oX h.xe I F J k
include A C v
theorem BS:tL (QV d w H o n) where
 EK h f z F e:=hr (Tm h _ _) rfl rfl λ_=>rfl
 loc h f z F e:=hr (Ts F (U z h) _) rfl rfl λ_=>rfl
 glob h u f z F e:=hr (To A F (U z h) (U z u) _) rfl rfl λ_=>rfl
 attr O P p f z F e:=hr (Th A F (U z P) O (p f z F e).dF) rfl rfl λ_=>rfl
 ao h I J f z F e:=hr (Tp A h (I f z F e).dF (J f z F e).dF) rfl rfl λ_=>rfl
 ID I J f z F e:=hr (Tz A (I f z F e).dF (J f z F e).dF) rfl rfl λ_=>rfl
 IF I J f z F e:=hr (TB A (I f z F e).dF (J f z F e).dF) rfl rfl λ_=>rfl
 IC I f z F e:=hr (Tx A (I f z F e).dF) rfl rfl λ_=>rfl
 IE I f z F e:=hr (TA A (I f z F e).dF) rfl rfl λ_=>rfl
 av h p f z F e:=hr (TC (lx<|p f z F e).2<|am ((p f z F e).length)<|jm h) rfl rfl λ_=>rfl
 X p f z F e:=hr (Tr (lx<|p f z F e).2) rfl rfl λ_=>rfl
 fZ f z F e:=hr Tn rfl rfl λ_=>rfl
 au I J f z F e:=have s:=I f z F e;have E:=J f z F e;⟨Tl A F _ E.HK s.dF E.dF,UQ A F _ E.HK s.dF E.dF,rfl,rfl,λ_=>rfl⟩
 dM p h f z F e:=⟨Tg ((p f z F e).imp λ_ _ l=>l.dF) h,UP ((p f z F e).imp λ_ _ l=>l.h_) h,rfl,rfl,λ_=>rfl⟩
 or p h f z F e:=⟨Tw ((p f z F e).imp λ_ _ l=>l.dF) h,UU ((p f z F e).imp λ_ _ l=>l.h_) h,rfl,rfl,λ_=>rfl⟩
 gd p f z F e:=⟨Tv (p f z F e).dF,UT (p f z F e).h_,rfl,rfl,λ_=>rfl⟩
 gq p f z F e:=hr (Tu (p f z F e).dF) rfl rfl λ_=>rfl
 cH I J f z F e:=hr (Tj _ (I f z F e).dF (J f z F e).dF) rfl rfl λ_=>rfl
 aQ I J Q f z F e:=have L:=I f z F e;have M:=J f z F e;have N:=Q f z F e;⟨Tq L.h_ M.dF N.dF,US L.h_ M.h_ N.h_,rfl,rfl,λ_=>rfl⟩
 bi I J f z F e:=hr (Tk A F e (C f.az) v rfl (I f z F e).dF (lx<|J f z F e).1 (lx<|J f z F e).2) rfl rfl λ_=>rfl
 isStr h u p f z F e:=hr (IM (h:=.isStr) (T:="str") A F (z▸dh h) (z▸dh u) (nm h rfl) rfl (nm u rfl) rfl (p f z F e).fy (p f z F e).dF) rfl rfl λ_=>rfl
 hS h u p f z F e:=hr (IM (h:=.hS) (T:="bool") A F (z▸dh h) (z▸dh u) (nm h rfl) rfl (nm u rfl) rfl (p f z F e).fy (p f z F e).dF) rfl rfl λ_=>rfl
 bZ V S p f z F e:=hr (Ti A F (U z V) (Ef S).1 (Ef S).2 (lx<|p f z F e).1 (lx<|p f z F e).2) rfl rfl λ_=>rfl
 aS O P R Y I J f z F e:=hr (Tt A F e (C f.az) R (U z Y) O (jm P) (I f z F e).dF (lx<|J f z F e).1 (lx<|J f z F e).2) rfl rfl λ_=>rfl
 fh p f z F e:=hr (IL<|p f z F e) rfl rfl λ_=>rfl
 b_ f z F e:=.b_
 cons I J f z F e:=.cons (I f z F e) (J f z F e)
 lX p f z F e:=⟨T6 (p f z F e).dF,(p f z F e).AK⟩
 Ip h p f z F e:=⟨T5 A F (z▸dh h) (nm h rfl) (lx<|p f z F e).1 (lx<|p f z F e).2,λ_=>rfl⟩
 fi h p f z F e:=⟨T4 A F (z▸dh h) (nm h rfl) (lx<|p f z F e).1 (lx<|p f z F e).2,λ_=>rfl⟩
 EI O P R a0 I J Q f z F e:=have K:=F.fh _<|U z O;have s:=I f z F e;⟨F,K,s.1,s.2,Uz (U z P) R a0,λD=>UR (J (hQ f _ D) (al (gp · _) z) (uH F K) e),λD=>(Q (hQ f _ D) (al (gp · _) z) (uH F K) e).dF⟩
end
section
open PySem PySem.W PySem.Calls PyProof.Rows
variable {p:cn} {w:bQ} {j:bT} {o h A:aY} {q x:bq} {H m:ae} {f:cj} {y Q:ap} {s B:aJ}
section
variable {n:Nat} (a:de p w j o) (C:∀L,pX p w j o a n L) (b:tP p w j o)
def QX (p:cn) (w:bQ) (j:bT) (o:aY) (n:Nat):zv where
 S c d i:=pR n c λf=>mq f->fH p w j o f (fj (dT n) i f.az) (ml d f.env)
 T c l e:=pR n c λf=>mq f->fH p w j o f (bG (dT n) e f.az) (nT l f.env)
include a C b
def hj (h:ii c e i):pR n c λf=>rq p w j o n f e i:=h _<|BS a C b
theorem T2:wp (QX p w j o n) where
 aN b2 a4 a5 f z F c S:=I_ F (z▸a4) (Jg b2) (hj a C b a5 f z F c).dF
 D0 a4 a5 f z F c S:=T7 F (U z a4) (a5 _ (BS a C b) f z F c)
 jO h Y a0 f z F c S:=Uc F a (U z h) (hj a C b Y f z F c).dF (hj a C b a0 f z F c).dF
 eu h Y a0 f z F c S:=Ud F a (hj a C b h f z F c).dF (hj a C b Y f z F c).dF (hj a C b a0 f z F c).dF
 jS b3 b4 b5 h f z F c S:=Uf F (U z b3) (z▸b4) b5 (hj a C b h f z F c).dF
 ik h Y f z F c S:=T8 F (z▸h) (hj a C b Y f z F c).dF
 aQ h T a3 f z F c S:=Ua (hj a C b h f z F c).h_ (T f z F c S) (a3 f z F c S)
 JU h T f z F c S:=Ug F S (hj a C b h f z F c).h_ (T f z F c S)
 FW h a0 b6 T f z F c S:=have s:=b6 _ (BS a C b) f z F c;T_ F S (U z h) a0 s.1 s.2 (T f z F c S)
 Iy f z F c S:=λy q H s r I e=>wpAny_Return_none (am (aH e)<|ax q (.b1 I) (rfl:lk=.none))
 aO h f z F c S:=(λy q H s r I e=>
   wpAny_Return_some<|lb ((hj a C b h f z F c).dF) I e λd u M K V i X J=>am (aH J)<|ax K (i.c1 I) X)
 hW h f z F c S:=Ub F a (hj a C b h f z F c).dF
 JE b7 b8 b9 a0 T a3 f z F c S:=Ue F S a (am (congrFun F.exc _)<|U z b7) (z▸b8) (z▸a0) (F.of _<|z▸b9) (T f z F c S) λe=>a3 (r_ f e) z (AB F) c S
 cu h f z F c S:=(λy q H s r I e=>
   wpAny_Expr_any (lb ((hj a C b h f z F c).dF) I e λd u M K V i X J=>.nx J<|i.c1 I) (by unfold interactive;refine U F.kind ?_;rfl)<|Jg rfl)
 jM f z F c S:=λy q H s r I e=>wpAny_Pass (.nx e<|.b1 I)
 gm f z F c S:=λy q H s r I e=>wpAny_Continue (am (aH e)<|ax q (.b1 I) trivial)
 ET h Y f z F c S:=(by
   intro y q H s r I e
   refine wpAny_Delete<|wpAny_deleteEach_cons<|wpAny_delete_Subscript<|lb ((hj a C b h f z F c).dF) I e λd u M K V i X J=>zg<|xu I (i.c1 I)<|lb ((hj a C b Y f z F c).dF) i.aP J λa6 c0 N E D O a1 P=> ?_;refine U (yY _) ?_;refine cF<|cF ?_;have X:=O.d2 i.aP X
   revert X a1
   refine NA (v:=d) (f:=a6) (C:=λd a6=>aT j D.heap E c0 a6->aT j D.heap E u d->_) P λn k l a8 c2 P a1 X=>a1.b9 λc3=>X.c7 λc4 a9=> ?_;have R:bI p w j o f y E N D E N {D with heap:=D.heap.push {cls:=.type "slice",data:=.fields #[.int (k:Int) c3,.none,.none]}}:=bI.push O.aP _;refine bF (R.aP.bC.objs n _ c4 a8 a9).2 λa2 c5 g a7 b0=>NC g (by refine U (lQ a7) ?_;exact c2) (WM ..) (nz a7 b0)<|wpAny_deleteEach_nil<|.nx P<|((i.trans O).trans<|R.trans<|th (t:=D.toks) (wS k a2.size) R.aP a8 a9 g ?_ ?_).c1 I
   ·exact U (E4 _ _)<|a7.take k
   ·refine U vO ?_
    exact aF (V8 _ _) b0)
 b_ f z F c S:=λy q H s r I e=>zh (.nx e<|.b1 I)
 cons T a3 f z F c S:=T9 (T f z F c S)<|a3 f z F c S
end
def L1 (a:de p w j o) (b:tP p w j o) (D:∀(k:Nat) d,kQ[k]?=J d->rn d) (n:Nat):∀L:Bool,pX p w j o a n L:=by
 induction n with
 |zero=>exactλL k c H r e=>aq e|succ n c=>exactλL=>M3 a D λf F S e h i l g=>MV g (T2 a c b) f rfl F e S
end
section
open PySem PySem.W PySem.Calls PyProof.Rows
variable {L:cn} {w:bQ} {y:bT} {e h i:aY} {r μ':bq} {σ σ':ae} {f:cj} {ρ ρ':ap} {s H:aJ}
def H0 (d:mP (v::a)=ac):(∃f,v=.ref f/\mP a=ac)\/v::a=[.type "Exception",.type "BaseException",.type "object"]:=by cases v<;>first|exact .inl<|ax _ rfl d|exact .inr<|cY d
theorem H3 (f:ai):∀{d:List ai},mP d=ac->refuseLoop f "__setattr__" d=gg ()
 |[],a=>by exact bt a (by decide)|v::g,a=>by
  rcases H0 a with⟨h,rfl,j⟩|q
  ·exact cJ (refuseLoop_ref _ _ _ _)<|H3 f j
  ·exact U q<|PySem.F.store_Exception.passes f
theorem H2:∀{a:List ai},mP a=ac->a.contains (.type "object")=ac/\a.isEmpty=aa
 |[],d=>by exact bt d (by decide)|v::f,d=>by
  rcases H0 d with⟨g,rfl,h⟩|q
  ·exact⟨by exact U Kb<|U ((H2 h).1)<|U (tn _) rfl,rfl⟩
  ·exact U q ⟨by decide,rfl⟩
def N4 {A:en} {f C:aE} {R:rh->aJ->Prop} {K:eQ} (X:K.In s.heap) (O:s.heap.get? f=J {cls:=.ref C,dict:=Y,data:=.fields D})
  (a7:((wd K C).any λS=>mP S.mro)=ac) (a8:yS K C=ac) (a9:tD K C (cO 0)=J Y)
  (h:∀i b0,(∀g d,g≠f->s.heap.get? g=J d->i.get? g=J d)->i.get? f=J {cls:=.ref C,dict:=J s.heap.objs.size,data:=.fields D}->(∃T n,i.get? s.heap.objs.size=J (jp [T] n)/\(∃t,T.key=.str (cO 0) t)/\T.val=v)->
   R (.ok<|.ret .none) {s with heap:=i,toks:=b0}):
  mj (aR L w) A (.call (.builtin "object.__setattr__") ⟨[.ref f,.str (cO 0) N,v],[]⟩) R s:=by
 have E:=PySem.F.store_object;refine ah (KQ a7) λS a1 a2=> ?_;have I:InstAt s.heap f {cls:=.ref C,dict:=Y,data:=.fields D} C Y:=⟨O,rfl,rfl,trivial⟩;have a3:=H2 a2;have c:yQ (aR L w) s.heap (K3 (.ref f)<|.type "object") ac:=I.type.andThen (W1 X<|by unfold mroIn;exact U a1<|U (Wj _ _)<|U (aX<|by refine U a3.2 ?_;decide)<|U a3.1 rfl);refine W8 E.slot.plain E.entry<|@check_slot (aR L w) _ _ s "object.__setattr__" "object" "__setattr__" (.ref f) [.str (cO 0) N,v] [] _ E.kind E.split c (E.args (.ref f) (.str (cO 0) N) v) ?_;refine ah (Option.bind_eq_some_iff.mp a9) λq b1 b2=> ?_;have b3:yQ (aR L w) s.heap (mroOf<|.ref C) S.mro:=(KS X a1).andThen .now
 have b4:yQ (aR L w) s.heap (X1 q) Y:=by
  cases q with
  |none=>exact .now|some a=>
   refine ah (CP.mp b2) λg F j=> ?_;refine(looks_takesIn X F).andThen ?_;cases g with
   |true=>exact lN j|false=>exact .now
 rw[osa_eq,refuse_eq];refine bd<|bd<|I.type.here<|bd<|b3.here ?_;refine U (H3 _ a2) ?_;refine cF<|bd<|I.type.here<|bd<|(CY X b1).here<|bd<|b4.here ?_;refine ah (KQ a8) λb5 V a0=> ?_;have m:(s.heap.push {cls:=.type "dict",data:=.dict #[]}).get? f=J {cls:=.ref C,dict:=Y,data:=.fields D}:=hn _ O;have M:f≠s.heap.objs.size:=dQ<|nO O;refine bd<|cF<|bd<|bd<|Dh O<|bd<|(KS X V).here ?_;refine U a0 ?_;refine bd<|wpAny_alloc ?_;refine bd<|wpAny_update m ?_;refine cF (a:=J s.heap.objs.size) ?_
 have a4:((s.heap.push {cls:=.type "dict",data:=.dict #[]}).update f λd=>{cls:=d.cls,dict:=J s.heap.objs.size,data:=d.data,slots:=d.slots}).get? f=J {cls:=.ref C,dict:=J s.heap.objs.size,data:=.fields D}:=v_ _ m rfl
 have P:((s.heap.push {cls:=.type "dict",data:=.dict #[]}).update f λd=>{cls:=d.cls,dict:=J s.heap.objs.size,data:=d.data,slots:=d.slots}).get? s.heap.objs.size=J (jp [] 0):=(WO _ _ _ _ M.symm).trans<|WN rfl rfl
 have a5:∀g d,g≠f->s.heap.get? g=J d->((s.heap.push {cls:=.type "dict",data:=.dict #[]}).update f λd=>{cls:=d.cls,dict:=J s.heap.objs.size,data:=d.data,slots:=d.slots}).get? g=J d:=λg d F j=>(WO _ _ _ _ F).trans<|hn _ j
 dsimp only;generalize((s.heap.push {cls:=.type "dict",data:=.dict #[]}).update f λd=>{cls:=d.cls,dict:=J s.heap.objs.size,data:=d.data,slots:=d.slots})=p at a4 P a5 ⊢;have B:tB (cO 0) (kB w.params<|cO 0) (.str (cO 0) s.toks) v (jp [] 0)=jp (nQ (cO 0) (kB w.params<|cO 0) (.str (cO 0) s.toks) v []) (putN (cO 0) [] 0):=W3 ..;have a6:(p.update s.heap.objs.size<|tB (cO 0) (kB w.params<|cO 0) (.str (cO 0) s.toks) v).get? s.heap.objs.size=J (jp (nQ (cO 0) (kB w.params<|cO 0) (.str (cO 0) s.toks) v [])<|putN (cO 0) [] 0):=U (v_ _ P<|by refine U B ?_;rfl)<|U B rfl;show aV _ _ (Ws s.heap.objs.size (.str (cO 0) N) (cO 0) v) _ _ _
 unfold Ws
 refine bd (cF<|bd ?_)
 unfold nsSet
 refine bd<|bd<|Xl<|cF<|bd<|K9<|bd<|Dh P ?_;dsimp only;refine U (W4 _ _)<|U (aX<|by simp) ?_;refine Xx P ?_;refine bd<|Xr a6 (Xd (by refine U Kr<|U zd ?_;have:=Ik (cO 0) (kB w.params<|cO 0) (.str (cO 0) s.toks) v [];simp at this;exact aI<|aj [_] [] [.n 1 Z W,.n 1 (.a (.a (.k 16777216) W) W) Z] rfl this)) ?_;refine cF<|h _ _ (λg d F j=> ?_) ?_<|dD _ _ a6 ⟨_,rfl⟩ rfl
 ·exact cJ (CS _ _<|me<|nO j)<|a5 g d F j
 ·exact cJ (CS _ _ M.symm) a4
def Qj:∃a f g p,(kQ[1]?.map λd:he=>(d.body,d.args.args.map (·.arg),d.scope.names.lookup<|eo "self",d.scope.names.lookup<|eo "ball",iy nA d.args.defaults))=
  J ([.Assign [.Attribute (.Name "self" a) (cO 0) f] (.Name "ball" g) p],[eo "self",eo "ball"],J .local,J .local,J []):=⟨_,_,_,_,rfl⟩
def Ny:kQ.length=103:=by decide+kernel
def Nz:((ic 103).all λk=>(kQ[k]?.map z6)==J ac)=ac:=by decide+kernel
def ES (k:Nat) (d:he) (h:kQ[k]?=J d):rn d:=by
 have a:k<103:=by refine am Ny ?_;exact(cK.mp h).1
 have:=vM.mp Nz k<|CB.mpr a;rw[h]at this;exact Nx<|by simpa using this
section
variable {A:en} {E:ai->aJ->Prop} {g:Array GenState} {d:Drawn} {t:Nat} {z:pM}
variable {nm q:aG} {C l:aE} {bs Q u:List ai} {hdct:Bool} {sn:List aG} {c:List ai} {ab:Bool} {col:Option Bool} {dd:Option aE} {k0 k1 k2 o k5:Option ai} {x b B:String}
def U0 (F:WB B x b u) (j:OwnTail h u Q) {Y:aG->Option ai} {f:List ai} {R:aE} {a0:dw}
  (O:h.get? C=J (K2 nm q C l bs Q hdct sn c ab col dd k0 k1 k2 o k5 x)) (a1:h.Ns l Y) (a2:Y "__init__"=J (.ref R)) (S:h.get? R=J a0) (V:a0.cls=.type "function")
  (a3:∀i a,Heap.MadeExcOf h i a (.ref C) f->h.objs.size<=a->aV (aR L w) A (gw (.ref R)<|.ref a::f) (λs H=>s=.none/\p (.done<|.ret<|.ref a) H) E ⟨i,g,d,t,z⟩) (M:f.length<=wg):
  aV (aR L w) A (Builtin.«type.__call__» ⟨.ref C::f,[]⟩) p E ⟨h,g,d,t,z⟩:=by
 repeat (first|with_reducible refine zi O ?_ |with_reducible refine wpAny_madeBy_exc O ?_ |wp_step)
 refine codeAny_call_builtin_code (Wy _ F.quiet)<|wpAny_check_new_subT F j O ?_;refine codeAny_exc_new_subT F j O ?_ M;show aV _ _ _ _ _ _;have k:∀m n,h.get? m=J n->((h.push {cls:=.type "tuple",data:=.seq f.toArray}).push {cls:=.ref C,data:=.fields #[.ref h.objs.size,.none,.none,.none,.bool aa,.none]}).get? m=J n:=λm n a=>hn _<|hn _ a;have v:=k _ _ O;have D:=k _ _ S;have N:=a1.keeps k;have P:=j.keeps k
 have K:((h.push {cls:=.type "tuple",data:=.seq f.toArray}).push {cls:=.ref C,data:=.fields #[.ref h.objs.size,.none,.none,.none,.bool aa,.none]}).get? (h.objs.size+1)=J
   {cls:=.ref C,data:=.fields #[.ref h.objs.size,.none,.none,.none,.bool aa,.none]}:=by heap_get
 have X:(ri C::Q).contains (.ref C)=ac:=by simp
 unfold K3
 repeat (first|with_reducible refine zi K ?_ |(with_reducible refine Xq v ?_;refine U X ?_)|wp_step)
 show aV _ _ (typeLookup (.ref C) _) _ _ _;refine wpAny_typeLookup_tail v N P F.mroIs F.init.lookup ?_;refine U a2 ?_;refine ln (bd ?_)
 unfold bindSpecial
 refine bd<|Xw (T:="function") (ax _ D V) ?_;refine U (aK<|by decide) ?_;refine cF<|bd<|cE (a3 _ (h.objs.size+1) ⟨k,oE<|ig _,h.objs.size,K,oE<|bE _,?_⟩<|ig _) (λs H a4=> ?_) λ_ _ I=>I
 ·exact hn _<|WN rfl rfl
 ·obtain⟨rfl,a5⟩:=a4
  wp_walk
  exact a5
end
def N2 (h:de L w y e):tP L w y e:=by
 intro A f2 f3 r σ s v K d1 B d2
 obtain⟨nm,q,l,bs,Q,u,hdct,sn,c,ab,col,dd,k0,k1,k2,o,k5,x,b,f4,f5,d3,d4,d5,d6,d7,d8,d9⟩:=h.dN;have X:=B.cs _ _ d3;refine⟨(ax (.machine) (.inr<|.inl rfl)<|λA a8 E H k e0=>by obtain⟨i,g,d,b2,z⟩:=H;exact wpAny_keeperOf_exc (k _ _ X) e0),?_⟩;obtain⟨a0,g,d,b2,z⟩:=s;have f6:(⟨a0,g,d,b2,z⟩:aJ).TypeIs (.ref<|y.ca 1) "type":=ax _ X rfl;have f7:=tc_lookup;have f8:=tc_bind<|.ref<|y.ca 1;refine W_ ?_;show aV _ _ (callAny (.ref<|y.ca 1) _) _ _ _
 repeat (any_goals (first|assumption|with_reducible refine zi X ?_ |wp_step))
 refine⟨rfl,?_⟩;refine codeAny_call_builtin_at (Wy _<|by decide+kernel) entry_typeCall<|wpAny_check_type_call_sub X<|U0 d4 (d5.keeps B.cs) X (d6.keeps B.cs) d7 (B.cs _ _ d8) d9 (λi n S a1=> ?_) (by refine U zd ?_;show 1<=16777216;decide);refine Lg Qj λf9 g0 g1 g2 b3=>ah (CP.mp b3) λc2 a2 M=> ?_;have c3:=iX M;have a9:=iX c3.2;have c5:=iX a9.2;have c6:=iX c5.2;have c7:c2.args.args.length=2:=(bX _).symm.trans<|al hC a9.1;have b4:=ES 1 c2 a2;refine Dg<|ER (s:=⟨i,g,d,b2,z⟩) (I:=[.ref n,v]) h a2 b4 (λa f q=>S.keeps _ _<|B.cs a f q) (dK (dv<|aF (ck _ 2) d1.1)<|by decide) c6.2 (by refine U c7 ?_;exact bE _) (by refine U c7 ?_;exact bE _) λb5 b0 t e1 b6 g3 g4 N=>W9 ?_;have T:[eo "self",eo "ball"].Nodup:=am a9.1 b4.nE
 revert N
 refine U c3.1<|U a9.1 ?_;refine e1.c0 (d:=λb5=>yO _ _ (yW _ (lA _ _ b5) _) _ (yV _ (lA _ _ b5) _) t->_) λN=> ?_;have b7:(mi b0 i.objs.size<|y.dg 1).scope.kind=.function:=(al WX b6).trans b4.kind;have b8:(mi b0 i.objs.size<|y.dg 1).kindOf (eo "self")=J .local:=(al (λb9:eA=>b9.names.lookup<|eo "self") b6).trans c5.1;have c0:(mi b0 i.objs.size<|y.dg 1).kindOf (eo "ball")=J .local:=(al (λb9:eA=>b9.names.lookup<|eo "ball") b6).trans c6.1;have c8:=T.sublist<|zU (c:=qP [eo "self",eo "ball"] [.ref n,v] []);have c9:=zQ (m:=λ_=>Y) b8 c8<|xz (c:=[.ref n,v]) (D:=[]) (.head _)<|BQ (j:=0) T rfl rfl;have d0:=zQ (m:=λ_=>Y) c0 c8 (xz (c:=[.ref n,v]) (D:=[]) (.tail _<|.head _)<|BQ (j:=1) T rfl rfl)
 revert N
 generalize mi b0 i.objs.size (y.dg 1)=e2 at b7 b8 c0 c9 d0 ⊢
 intro N
 have C:∀a f,a0.get? a=J f->t.heap.get? a=J f:=λa f q=>N.toInCall.keep _ _<|S.keeps _ _ q;have R:h.K.In t.heap:=λa f q=>C _ _<|B.cs _ _<|h.qc a f q;refine bR S.there λe3 e4 e5 e6=> ?_;have F:=N.toInCall.keep _ _ e4
 refine Xp<|Xf (NameLC N b7 c0 d0 (NameLC N b7 b8 c9 (set_plain (ox:={cls:=.ref<|y.ca 1,dict:=Y,data:=.fields #[.ref e3,.none,.none,.none,.bool aa,.none]}) (od:=Y) R ⟨F,rfl,rfl,trivial⟩ h.hk.Ai
  (N4 (s:={t with toks:=t.toks+1}) R F h.hk.wV (h.hk.sN 1<|by decide).1 h.hk.Aj λI a4 a5 e7 c1=>zh ⟨rfl,?_⟩)) rfl) rfl) Jf
 refine bF c1 λe8 e9 c1 a6 a7=> ?_;have b1:∀a f,a0.get? a=J f->I.get? a=J f:=λa f q=>a5 a f (lB S.new q)<|C a f q;have V:a0.get? t.heap.objs.size=Y:=qJ (C _)<|oE<|bE _;have f0:eZ a0 I:=λa f q _=>b1 a f q;have O:ej L w y I (r++[(n,t.heap.objs.size)]) (n,t.heap.objs.size)<|.a3 1 [(0,K)]:=⟨by decide,(aK<|.inl rfl).mpr<|hM _ e7 rfl rfl<|λ_=>rfl,dQ<|nO F,[e8],e9,c1,.cons (by decide) a6 (U a7<|(d2.c3 f0).iw _) .b_⟩;refine⟨r++[(n,t.heap.objs.size)],⟨fq N.toInCall.same λg5 g6 f1=>(dn I a4<|by exact U f1 rfl),.l8 b1 S.new V,B.bC.iJ b1 O S.new V (qJ (B.cs _) S.new) (qJ (B.cs _) V)<|bS B.jQ λa f q P=>dK P<|dL (nO<|B.cs _ _ q) a1,λa f q=>b1 _ _<|B.cs _ _ q,.c4 _ _⟩,?_⟩;exact .ref (p:=(n,t.heap.objs.size))<|am B.bC.bb qx
end
section
open PySem PySem.W PySem.Calls PyProof.Rows
noncomputable abbrev ji:cn:=(OpenRow.toRowW<|OpenLaw.row CR).prog
abbrev vD:Option ai:=J<|.ref 6
abbrev vF:cl:=⟨0,0,0,0⟩
def yw:eE:={scope:=ji.main.scope,locals:=mainNs,globals:=mainNs,cells:=[],code:=.ref 13,frame:=J 14}
abbrev yv:List hH:=behindTheImports ji
abbrev vE:Code:=.body yv yw
noncomputable abbrev Ca:List Frame:=[topFrame vF]
noncomputable abbrev yx:=Ye
noncomputable def Dj.m5:List dw->Nat->BT->BT|[],_,t=>t|o::r,n,t=>Dj.m5 r (n+1)<|t.ins n o
def JC (w:bQ) (a:pM):aJ:=match Yg yx ji w 11 vD 12 ⟨CW w.params,#[],CV,boot_toks,a⟩ (KY ji)with|some (s,_)=>s|none=>⟨{},#[],CV,0,a⟩
def td (w:bQ) (a:pM):aJ:=match Yf yx ji w 11 vD 1 1 (JC w a) (blockOf yv yw vE vF Ca)with|some (_,s,_)=>s|none=>⟨{},#[],CV,0,a⟩
def UG (w:bQ) (a:pM):segRun wi ji w 11 vD 1 1 (JC w a) (blockOf yv yw vE vF Ca)=J (.next,td w a,vE,vF):=by
 rw[X_,KP]
 kernel_rfl
def JD (w:bQ) (a:pM):SharedT:=⟨Dj.m5 (td w a).heap.objs.toList 0 .nil,15,(td w a).heap.life,#[],(td w a).drawn,(td w a).toks,a⟩
def UH (w:bQ) (a:pM):(JD w a).abs=td w a:=by kernel_rfl
abbrev ti:cn:=view ji [76]
abbrev sB:List aG:=(ji.main.body.take 76).flatMap bindsAtTop
def GV (a:aY) (s:aJ):Bool:=staticsOk (y_ ji.main.body) a s.heap&&namesBound ji s.heap&&gensDone s&&laidKept a s.heap
def Q6 {p q:cn} {f:List aG} {v:aJ->Bool} {x:Type} {y:aJ->x} {z:bQ->x} {N:Nat} {A:Bool} {a:Params->aY} {c:Array GenState} {g:Drawn} {i:Nat} {j:Nat} {m:Option ai} {M:Nat}
  (l:∀w:bQ,(fencedOpening wi p w N).map (λs=>(s.heap,s.gens,s.drawn,s.toks))=J (a w.params,c,g,i))
  (n:∀w:bQ,((a w.params).isNs js&&c.size==0,(a w.params).objs.size,(a w.params).nsMap js "__annotations__")=(ac,j,m)) (C:ma M N=ac)
  (u:∀(w:bQ) (o:pM),∃b,topRun wi p w j m M ⟨a w.params,c,g,i,o⟩ (KY p)=J b/\
   (staticsOk (y_ p.main.body) (a w.params) b.heap&&namesBound p b.heap&&gensDone b&&laidKept (a w.params) b.heap)=ac/\openSeen q f (y_ p.main.body) v A b=KV q f/\y b=z w):LeftO p q f v y z N A:=λw=>by
 obtain⟨⟨h,B,d,k,o⟩,e,D⟩:=CP.mp<|l w;obtain⟨rfl,rfl,rfl,rfl⟩:h=a w.params/\B=c/\d=g/\k=i:=by simpa using D
 obtain⟨E,F,H⟩:_/\_/\_:=by simpa only[Wn]using n w
 obtain⟨b,r,I,K,L⟩:=u w o;have r:=topRun_mono (N-M) _ _ _ _ r;rw[show M+(N-M)=N from CH<|jm C]at r
 have t:KX wi p w N ⟨a w.params,B,d,k,o⟩=J b:=by
  unfold KX
  dsimp only;rw[E,F,H,r];dsimp only[Wi];rw[I]
 unfold openEnds
 rw[e];show(KX wi p w N _).map _=_;rw[t];exact congrArg J<|KG K L
end
section
open PySem PySem.W PyProof.Rows
def U9:OpenLaw.wellSaid CR=ac:=(congrFun Yc _).trans<|by kernel_rfl
end
section
open PySem PySem.W PySem.Calls PyProof.Rows
noncomputable def PE:List Nat:=[21,48,60,67,81,88,95,102,109,116,123,130,137,144,151,165,172,179,186,193,209,216,223,230,237,244,251,258,265,272,279,286,293,300,307,314,321,328,335,356,364,371,378,385,404,411,425,432,439,446,453,460,467,474,481,488,495,502,509,516,524,531,538,545,552,559,574,581,588,595,602,609,616,623,630,637,644,651,658,665,672,679,686,693,700,707,714,728,735,740,747,752,757,762,767,774,781,786,791,798,803,810,815]
noncomputable def MW:List Nat:=[31,51,154,338,388,414,717,51]
def dg (k:Nat):aE:=PE.getD k 0
def ca (k:Nat):aE:=MW.getD k 0
def oi (a:aE) (l:List Int):bT:=⟨dg,ca,a,l⟩
abbrev hc (P:Prop):Type:=Option {a:Unit//P}
def iL {P:Prop} (b:Bool) (h:b=ac->P):hc P:=dP b λe=>J ⟨(),h e⟩
def iM {a:Type} {P:Prop} (c:hc P) (k:P->Option a):Option a:=bO c λ_ h=>k h
def uo {P:Prop} {c:hc P} (h:c.isSome=ac):P:=by
 cases c with
 |none=>exact cW h|some x=>exact x.2
def qj {c:Type} {P:c->Prop} (f:∀a,hc<|P a):(b:List c)->hc (∀a∈b,P a)|[]=>J ⟨(),λ_ h=>eG (l:=[]) h⟩|a::b=>iM (f a) λh=>iM (qj f b) λt=>J ⟨(),tv.mpr ⟨h,t⟩⟩
noncomputable def IP:(d:Data)->Option {p:Array ai×Nat//d=.seq p.1 p.2}|.seq i n=>J ⟨(i,n),rfl⟩|_=>Y
noncomputable def PG:(d:Data)->Option {p:Array ai//d=.fields p}|.fields i=>J ⟨i,rfl⟩|_=>Y
noncomputable def w5:(d:Data)->Option {p:oD//d=.func p}|.func i=>J ⟨i,rfl⟩|_=>Y
noncomputable def M6:(d:Data)->Option {p:ClassData//d=.cls p}|.cls i=>J ⟨i,rfl⟩|_=>Y
noncomputable def NH:(d:Data)->Option {p:Array hG×Nat//d=.dict p.1 p.2}|.dict i n=>J ⟨(i,n),rfl⟩|_=>Y
noncomputable def BA:(v:ai)->Option {a:aE//v=.ref a}|.ref a=>J ⟨a,rfl⟩|_=>Y
noncomputable def Jc:(v:ai)->Option {p:aG×mh//v=.str p.1 p.2}|.str x t=>J ⟨(x,t),rfl⟩|_=>Y
noncomputable def Qo:(v:ai)->Option {p:Int×mh//v=.int p.1 p.2}|.int x t=>J ⟨(x,t),rfl⟩|_=>Y
noncomputable def oY {b:Type}:(l:List b)->Option {p:b×List b//l=p.1::p.2}|a::l=>J ⟨(a,l),rfl⟩|[]=>Y
def wB (K:eQ) (u:ai) (v:V):Prop:=∀a b h,K.In h->aT (oi a b) h [] u v
def DM (K:eQ) (a:List ai) (b:List V):Prop:=∀c d h,K.In h->bg (oi c d) h [] a b
def BC {K:eQ} (f:∀u v,hc<|wB K u v):(a:List ai)->(b:List V)->hc (DM K a b)|a,[]=>iL a.isEmpty λh _ _ _ _=>CA.mp h|a,v::b=>bO (oY a) λp e=>iM (f p.1 v) λh=>iM (BC f p.2 b) λt=>J ⟨(),λc d H X=>U e<|bg.cons (h c d H X)<|t c d H X⟩
def Iw {K:eQ} (f:∀c d,hc<|DM K c d) (u:ai):(v:V)->hc (wB K u v)
 |.a6=>iL (u== .none) λh _ _ _ _=>cY h|.ad b=>iL (u== .bool b) λh _ _ _ _=>cY h|.I i=>bO (Qo u) λp b=>iL (p.1==i) λh _ _ _ _=>⟨p.2,am (cY h) b⟩|.Z y=>bO (Jc u) λp b=>iL (p.1.cps.toList==y) λh _ _ _ _=>cZ (p.1) (p.2) (cY h) b|.aA k=>iL (u== .ref (dg k)) λh _ _ _ _=>cY h|.c2 k=>iL (u== .ref (ca k)) λh _ _ _ _=>cY h|.av l=>bO (BA u) λa e=>fw (K.lookup a) λo g=>bO (IP o.data) λp b=>dP (o.cls== .type "tuple") λi=>dP (ma l.length 100) λj=>iM (f p.1.toList l) λh=>
   J ⟨(),λk m H X=>U e<|aT.av (X _ _ g) (cY i) b (h k m H X)<|aF (jm j)<|by decide⟩
 |_=>Y
def Ix {K:eQ}:∀u v,hc<|wB K u v:=Iw<|BC<|Iw λ_ _=>Y
def AJ (K:eQ) (a:aE):Option oD:=(K.lookup a).bind λo=>(w5 o.data).map (·.1)
noncomputable def uJ (a:oD):ty×yN×eA×aE×aE×List (aG×aE):=(a.params,a.body,a.scope,a.globals,a.builtins,a.closure)
noncomputable def rX (d:he):ty×yN×eA×aE×aE×List (aG×aE):=(d.args,.stmts d.body,d.scope,js,tE,[])
def zS (K:eQ):Nat->List he->List (Option<|ty×yN×eA×aE×aE×List (aG×aE))|_,[]=>[]|k,_::r=>(AJ K<|dg k).map uJ::zS K (k+1) r
def Nk (K:eQ) (a:oD):hc (∀h,K.In h->h.CodeRec a.code a.qualname):=bO (BA a.code) λc d=>fw (K.lookup c) λo e=>bO (PG o.data) λb f=>fw (b[1]?:Option ai) λv g=>bO (Jc v) λp i=>iL (p.1==a.qualname) λh _ X=>Dx c o b p.2 d (X _ _ e) f (g.trans (al J (i.trans (al (Value.str · p.2)<|cY h))))
def Ld (f:bT) (h:aY) (d:he) (b:oD):Prop:=(b.defaults=.none/\d.args.defaults=[])\/∃(T:aE) (c:dw) (a:Array ai) (n:Nat) (e:List V),b.defaults=.ref T/\h.get? T=J c/\c.data=.seq a n/\iy nA d.args.defaults=J e/\bg f h [] a.toList e
def NG (K:eQ) (d:he) (a:oD):hc (∀b c h,K.In h->Ld (oi b c) h d a):=
 pp (iL (a.defaults== .none&&d.args.defaults.isEmpty) λh _ _ _ _=>.inl ⟨cY<|dh h,CA.mp<|ed h⟩)
  (bO (BA a.defaults) λT g=>fw (K.lookup T) λo i=>bO (IP o.data) λp j=>fw (iy nA d.args.defaults) λf e=>iM (BC Ix p.1.toList f) λh=>J ⟨(),λb c H X=>.inr<|Ls T o p.1 p.2 f g (X _ _ i) j e<|h b c H X⟩)
def Du (K:eQ) (k:Nat) (d:he):Prop:=(AJ K<|dg k).map uJ=J (rX d)->tC K (.ref<|dg k)=ac/\∀a b h,K.In h->zq (oi a b) h k d
def PH (K:eQ) (k:Nat) (d:he):hc<|Du K k d:=
 fw (K.lookup<|dg k) λo b=>bO (w5 o.data) λa c=>iM (Nk K a) λm=>iM (NG K d a) λn=>iL (tC K<|.ref<|dg k) λp e=>⟨p,λq r h X=>by
  have e:((K.lookup<|dg k).bind λo=>(w5 o.data).map (·.1)).map uJ=J (rX d):=e;have e:=b▸e;have e:((w5 o.data).map (·.1)).map uJ=J (rX d):=e;have e:=c▸e;have f:=iX<|aH e;have g:=iX f.2;have i:=iX g.2;have j:=iX i.2;have l:=iX j.2
  exact .mk o a (X _ _ b) c f.1 g.1 i.1 j.1 l.1 l.2 (m h X)<|n q r h X⟩
def FR (K:eQ):(k:Nat)->(a:List he)->hc (zS K k a=a.map (λd=>J<|rX d)->∀j d,a[j]?=J d->Du K (k+j) d/\(AJ K<|dg<|k+j).map uJ=J (rX d))
 |_,[]=>J ⟨(),λ_ _ _=>aq⟩|k,d::a=>iM (PH K k d) λh=>iM (FR K (k+1) a) λt=>J ⟨(),λe j b=>by
   have e:=oy e;cases j with
   |zero=>exactλz=>(am (aH z) ⟨h,e.1⟩)|succ j=>exactλz=>am (Nat.succ_add_eq_add_succ k j)<|t e.2 j b z⟩
def P8 (K:eQ):hc (∀p∈qz,∃u,we K js (eo p.1)=J (J u)/\wB K u p.2):=qj (λp=>fw (we K js<|eo p.1) λo a=>fw o λu b=>iM (Ix u p.2) λh=>J ⟨(),u,am b a,h⟩) qz
end
section
open PySem PySem.W PySem.Calls PyProof.Rows
def Lb (K:eQ) (c:Nat):Prop:=yS K (ca c)=ac/\(∀a<fu.length,wH K (ca c) a=ac)/\(¬(c=1\/c=7)->KW K (ca c) ("":aG)=ac/\CZ K (ca c)=ac/\hI K (.ref<|ca c) "__setattr__"=J (J<|.builtin "object.__setattr__")/\∀a<fu.length,tD K (ca c) (cO a)=J Y)
def Iq {P:Nat->Prop} (n:Nat) (f:∀a,hc<|P a):hc (∀a<n,P a):=iM (qj f<|ic n) λh=>J ⟨(),λa b=>h a<|CB.mpr b⟩
def MT (K:eQ) (c:Nat):hc<|Lb K c:=dP (yS K<|ca c) λb=>iM (Iq fu.length λa=>iL (wH K (ca c) a) id) λd=>
 pp (iL (hb c 1||hb c 7) λh=>bB b d<|λn=>(n<|(Co.mp h).imp Ky Ky).elim)
  (dP (KW K (ca c) ("":aG)) λe=>dP (CZ K<|ca c) λf=>dP (hI K (.ref<|ca c) "__setattr__"==J (J<|.builtin "object.__setattr__")) λg=>iM (Iq fu.length λa=>iL (tD K (ca c) (cO a)==J Y) cY) λh=>
   J ⟨(),b,d,λ_=>mu e f (cY g) h⟩)
def xk (K:eQ) (x:Option<|Option ai) (k:Nat):Bool:=x==J (J<|.ref<|dg k)&&typeIn K (.ref<|dg k)==J (.type "function")
def QU (K:eQ) (f:aE) (g:List Int):hc<|DD K<|oi f g:=
 dP (hI K (.ref<|ca 1) "__getattribute__"==J (J<|.builtin "BaseException.__getattribute__")) λi=>dP (hI K (.ref<|ca 1) "__getattr__"==J Y) λj=>dP (hI K (.ref<|ca 1) "__setattr__"==J (J<|.builtin "object.__setattr__")) λl=>
 dP (tD K (ca 1) (cO 0)==J Y) λo=>dP ((wd K<|ca 1).any λa=>mP a.mro) λq=>iM (qj (MT K) oc) λd=>
 iM (qj (P:=λp:Nat×Nat=>KU K (ca p.1)=ac/\tC K (.ref<|ca p.1)=ac/\xk K (hI K (.ref<|ca p.1) "__init__") p.2=ac) (λp=>dP (KU K<|ca p.1) λa=>dP (tC K<|.ref<|ca p.1) λb=>iL (xk K (hI K (.ref<|ca p.1) "__init__") p.2) λc=>bB a b c) pe) λr=>
 iM (qj (P:=λp:(Nat×Nat)×Nat=>xk K (hI K (.ref<|ca p.1.1)<|nD p.1.2) p.2=ac) (λp=>iL (xk K (hI K (.ref<|ca p.1.1)<|nD p.1.2) p.2) id) kX) λb=>
 J ⟨(),{eg:=rfl,Ai:=cY l,Aj:=cY o,wV:=q,sN:=λc a=>⟨(d c a).1,λn=>((d c a).2.2 n).1⟩,wU:=⟨cY i,cY j⟩,attr:=λc a=>(d c a).2.1,BO:=λc a n=>((d c a).2.2 n).2,init:=λc k e=>have h:=r (c,k)<|nB e;(mu (h.1) (cY<|dh h.2.2) (cY<|ed h.2.2)<|h.2.1),jK:=λc m k e=>have h:=b ((c,m),k)<|nB e;⟨cY<|dh h,cY<|ed h⟩}⟩
def Mw (K:eQ):hc (∀p∈uf,we K js (eo p.1)=J Y):=qj (λp=>iL (we K js (eo p.1)==J Y) cY) uf
def Mz:(uf.all λx=>KZ (eo x.1)==J x.2&& !(x.1=="__name__"))=ac:=by decide+kernel
def MA {K:eQ} {h:aY} {c d:aG->Option ai} (F:∀p∈uf,we K js (eo p.1)=J Y) (X:K.In h) (a:h.Ns js c) (B:∀x:aG,x≠"__name__"->d x=KZ x) (x:aG) (u:ai) (e:lz x=J u):c x=Y/\d x=J u:=bR (BY e) λp f g i=>by have b:=vM.mp Mz p f;refine am g<|am i ?_;refine⟨mg_none_of X a<|F p f,(B _ λq=> ?_).trans<|cY<|dh b⟩;have q:eo p.1=eo "__name__":=q;rw[Bj]at q;have b:=ed b;rw[beq_iff_eq.mpr q]at b;exact cW b
def NZ {o:dw} {a:ClassData} (j:o.cls=.type "type") (k:o.data=.cls a) (l:a.mro=.ref C::b) (m:a.hasDel=aa) (p:o.slots.toList=[e,f,g,h,J<|.builtin n,i]):
  o=K2 a.name a.qualname C a.ns a.bases b a.hasDict a.slotNames a.subclasses a.abstract a.collection o.dict e f g h i n:=by
 obtain⟨c,d,u,⟨v⟩⟩:=o;obtain⟨w,x,q,y,z,A,B,r,D,s,t⟩:=a;dsimp only at j k l m p
 subst j k l m p
 rfl
def RZ {h:aY} {o:dw} (e:h.get? N=J o) (d:o.data=.dict a n):h.nsMap N x=nsFind a x:=by
 unfold Heap.nsMap
 refine U e ?_;dsimp only;exact U d rfl
def NY (K:eQ):hc (∀g i h,K.In h->zo (oi g i) h):=
 fw (K.lookup<|ca 1) λo s=>dP (o.cls== .type "type") λt=>bO (M6 o.data) λa u=>bO (oY a.mro) λm v=>dP (m.1== .ref (ca 1)) λb=>dP (!a.hasDel) λw=>
 bO (oY o.slots.toList) λj x=>bO (oY j.2) λk y=>bO (oY k.2) λl z=>bO (oY l.2) λn A=>bO (oY n.2) λp B=>bO (oY p.2) λq C=>dP (p.1==J (.builtin "Exception.__new__")) λD=>dP q.2.isEmpty λE=>
 dP (tailIn K [.type "Exception",.type "BaseException",.type "object"] m.2) λF=>dP (nsOkIn K a.ns) λc=>fw (K.lookup a.ns) λH I=>bO (NH H.data) λL d=>dP (nsFind L.1 "__init__"==J (.ref<|dg 1)) λe=>
 fw (K.lookup<|dg 1) λr M=>iL (r.cls== .type "function") λf g i h X=>
  .mk a.name a.qualname a.ns a.bases m.2 _ a.hasDict a.slotNames a.subclasses a.abstract a.collection o.dict j.1 k.1 l.1 n.1 q.1 _ _ (h.nsMap a.ns) r
   ((X _ _ s).trans (al J (NZ (cY t) u (v.trans (al (· ::m.2)<|cY b)) (Cn _|>.mp w)<|by exact U x<|U y<|U z<|U A<|U B<|U C<|U (cY D)<|U (CA.mp E) rfl)))
   PySem.F.excBase_Exception (tail_of_in X F) (.of_isNs<|isNs_of_in X c) ((RZ (X _ _ I) d).trans<|cY e) (X _ _ M)<|cY f
def su (K:eQ):List (Option<|ty×yN×eA×aE×aE×List (aG×aE))×Bool:=(zS K 0 kQ,(FR K 0 kQ).isSome&&((P8 K).isSome&&((QU K 0 []).isSome&&((Mw K).isSome&&((NY K).isSome&&(we K js "law"==J (J<|.ref<|dg 102)))))))
def sq:List (Option<|ty×yN×eA×aE×aE×List (aG×aE))×Bool:=(kQ.map λd=>J<|rX d,ac)
def ub (_:bQ) (h:aY):Prop:=∃K:eQ,K.In h/\su K=sq
noncomputable def pg:Nat->List dw->eQ|_,[]=>[]|n,o::r=>match yR o with|some o=>(n,o)::pg (n+1) r|none=>pg (n+1) r
def uP (h:aY):eQ:=pg 0 h.objs.toList
def QM:(pg n l).lookup a=J o->∃i,a=n+i/\(l[i]?).bind yR=J o:=by
 induction l generalizing n with
 |nil=>exact aq|cons p r c=>
  refineλh=> ?_
  have h:(match yR p with
   |some o=>(n,o)::pg (n+1) r|none=>pg (n+1) r).lookup a=J o:=h
  have b:(pg (n+1) r).lookup a=J o->∃i,a=n+i/\((p::r)[i]?).bind yR=J o:=λh=>ah (c h) λi e q=>ax (i+1) (e.trans<|gv n 1 i) q;cases q:yR p with
  |none=>have h:=q▸h;exact b h|some d=>
   rw[q]at h;have h:(match a==n with|true=>J d|false=>(pg (n+1) r).lookup a)=J o:=h;cases e:a==n with
   |true=>rw[e]at h;exact ax 0 (cY e)<|q.trans h|false=>rw[e]at h;exact b h
def QN (h:aY):(uP h).In h:=λa o e=>ah (QM e) λi z q=>by
 refine el q λp b q=> ?_
 unfold Heap.get?
 refine U z<|U (eb _)<|am pH<|U b ?_;obtain⟨c,d,f,g⟩:=p;cases f<;>first|exact q|exact aq q
theorem ub.keeps (w:bQ) (h c:aY) (Y:ub w h) (k:∀b o,h.get? b=J o->c.get? b=J o):ub w c:=let ⟨K,a,b⟩:=Y;⟨K,a.keeps k,b⟩
def P7 {h:aY} {c:List Int} {a:Array ai} {K:eQ} (X:K.In h) (S:su K=sq) (g:h.Ns js mg) (b:h.Ns tE mb) (j:h.NoLimit) (B:∀x:aG,x≠"__name__"->mb x=KZ x)
  (l:h.IsList f a) (m:nN a.toList c) (n:c.length<=ar):Nonempty (de i w (oi f c) h)/\mg "law"=J (.ref<|dg 102):=by
 have S:=iX S;have s:=S.2;have F:=λk d e=>eb k▸uo (dh s) S.1 k d e;have o:∀x v,nH qz x=J v->∃u,mg x=J u/\aT (oi f c) h [] u v:=λx v q=>bR (BY q) λp t y z=>ah (uo (dh<|ed s) p t) λu A r=>am y<|am z<|ax u (mg_of X g A)<|r f c h X;have ko:=uo<|dh<|ed<|ed s;exact⟨⟨{K:=K,qc:=X,xB:=mg,Bc:=mb,g:=g,b:=b,HE:=j,glob:=o,bZ:=MA (uo<|dh<|ed<|ed<|ed s) X g B,IK:=cM a l m n,hk:=⟨ko.eg,ko.Ai,ko.Aj,ko.wV,ko.sN,ko.wU,ko.attr,ko.BO,ko.init,ko.jK⟩,dN:=uo (dh<|ed<|ed<|ed<|ed s) f c h X,FQ:=λk d e=>((F k d e).1 (F k d e).2).2 f c h X,Gy:=λk d e=>((F k d e).1 (F k d e).2).1}⟩,mg_of X g<|cY<|ed<|ed<|ed<|ed<|ed s⟩
end
section
open PySem PySem.W PySem.Calls PyProof.Rows
def DF:Prop:=∀l:List Int,l.length<=63->∃a,dT 220 aa 102 [.df l] []=J (.ok<|.ad ac,a)
def M2 (j:DF) {f:List Int} {s:aJ} (a:de c w (oi g f) s.heap) (k:f.length<=63) (d:∃b o,s.heap.get? b=J o/\lm<=b):
  aV (aR c w) callerA (gw (.ref<|dg 102) [.ref g]) (λv h=>v=.bool ac/\nk s h/\∀b o,s.heap.get? b=J o->h.heap.get? b=J o) (λ_ _=>False) s:=by
 refine bw (j f k) λz i=>bx (L1 a (N2 a) ES 220 aa 102 [.df f] [] _ i) λ_ n=> ?_;refine Dg<|C4 (n callerA [] [] s [.ref g] ⟨by decide,by decide⟩ ⟨.b_ _,λb o e=>e,d,rfl,λp t=>eG (l:=[]) t,rfl⟩<|.cons ⟨rfl,rfl⟩ .b_) λx h q=> ?_;exact q.on (λu q=>ah q λy m r=>r.jA ⟨rfl,m.eg,m.cs⟩) λu q=>q.elim
end
section
open PySem PySem.W PySem.Calls PyProof.Rows
def UI (w:bQ) (a:pM):(Yd yx ji w 11 vD 1 5000 (JD w a)<|piecesOf yv yw vE vF Ca).map (λx=>(x.1,x.2.2.1,x.2.2.2,GV (CW w.params) x.2.1.abs,Yh ti sB (y_ ji.main.body) (λ_=>ac) ac x.2.1.abs,su<|uP x.2.1.abs.heap))=
  J (.next,vE,⟨791,0,827,15⟩,ac,KV ti sB,sq):=by kernel_rfl
def UJ (w:bQ) (b:pM):∃a,topRun wi ji w 11 vD 5015 ⟨CW w.params,#[],CV,boot_toks,b⟩ (KY ji)=J a/\
   GV (CW w.params) a=ac/\openSeen ti sB (y_ ji.main.body) (λ_=>ac) ac a=KV ti sB/\su (uP a.heap)=sq:=by
 refine cps λj g=> ?_;obtain⟨⟨f,s,c,p⟩,e,q⟩:=CP.mp<|UI w b;simp only[Wn]at q;obtain⟨rfl,rfl,rfl,h,d,i⟩:=q;rw[<-Yb]at d;rw[yx, <-X8, <-KP]at e;refine g ?_
 refine⟨s.abs,go_top (n:=12) (N:=5003) ((by
   rw[Ya,KP,X9]
   kernel_rfl))<|piece_block (n:=1) (N:=5002) (UG w b) ?_,h,d,i⟩
 rw[<-UH];have:=piece_app (N:=2) (rest:=[]) (segRun_of e) (r:=s.abs) rfl;rw[dI]at this;exact this
def UK:LeftO ji ti sB (λ_=>ac) (λs=>su<|uP s.heap) (λ_=>sq) 6000:=Q6 (boot_open (by kernel_rfl) (by decide)<|λs=>rfl) (λw=>by kernel_rfl) (by decide) UJ
end
section
open PySem PySem.W PySem.Calls PyProof.Rows
set_option tactic.hygienic true in
def XN (I:DF):CR.Holds:=by
 refine holds_law U9 λj=>holds_open (q:=ti) (loose:=sB) (Xt:=λ_=>ac) (XP:=λ_ _=>True) (Yf:=λs=>su<|uP s.heap) (Ya:=λ_=>sq) (YP:=ub) UK (λd s e=>ax _ (QN _) e) ub.keeps (λ_ _=>trivial) (λ_ _ _ _ _=>trivial) (by rfl) (by rfl) (by rfl) (λs e=>recFacts_nil rfl) (by rfl) j (by decide+kernel) ⟨rfl,rfl,rfl,rfl,rfl,by decide+kernel⟩ ?_ ?_
 ·w_witness2
 intro d E m L a2 i Y f o a3 a4 M a5 a6 N O x P h Q F H a7 p r y A B
 refine ah Y λK R S=> ?_;have T:=i.T
 clear O x P N
 wrow_args p r y A B
 rename_i l _ _ _ _ _ _ _ a C _ U _ _ _ V _ g _
 have g:l.length<=63:=by exact aI<|aj [_] [] [.z 1 (.e Z)<|.e<|.k 63,.n 1 (.a (.k 63) W) Z] rfl<|iA.mp g
 refine cps λa8 X=> ?_;refine bx (P7 (i:=CR.row.prog) (w:=d) R S T.g T.b T.nolimit T.builtins U V<|aF g<|by decide) λD a0=> ?_;obtain⟨a1⟩:=D;have h:L "law"=J (.ref f):=h;have h:=cJ (hB a0) h;cases h;have t:∃b o,m.heap.get? b=J o/\lm<=b:=oM T.g λo a9 b0 e _=>cZ js o e (by decide);refine X ?_;refine cE (M2 I a1 g t) (λv b1 c=> ?_) λ_ _ c=>c.elim;obtain⟨rfl,⟨b2,b3,rfl⟩,u⟩:=c;refine GoodW.toG<|mu (.inl<|lr _ _ ([]) rfl (raisesW_false ?_) (.bool ac) (?_) unshared_nil) u rfl Q
 ·wrow_none_raised
 ·wrow_post
end
set_option genCtorIdx true in
inductive T where
 |v (n:Nat)|i (z:Int)|a (k:Nat)|ay (f:Nat) (x:T)|ak (f:Nat) (x y:T)
 deriving DecidableEq,Inhabited
abbrev cy:=Nat->T
noncomputable def T.sub (b:cy):T->T|.v n=>b n|.i z=>.i z|.a k=>.a k|.ay f x=>.ay f<|x.sub b|.ak f x y=>.ak f (x.sub b)<|y.sub b
def T.has (n:Nat):T->Prop|.v m=>m=n|.i _=>False|.a _=>False|.ay _ x=>x.has n|.ak _ x y=>x.has n\/y.has n
noncomputable def T.num:T->Nat|.v _=>0|.i _=>0|.a _=>0|.ay _ x=>x.num+1|.ak _ x y=>x.num+y.num+1
noncomputable def T.a0:T->Nat|.v _=>0|.i _=>0|.a _=>0|.ay _ x=>x.a0+1|.ak _ x y=>oz x.a0 y.a0+1
noncomputable def T.a9:T->Bool|.v _=>ac|_=>aa
def au (a b:cy):cy:=λy=>(a y).sub b
noncomputable def cC (x:Nat) (t:T):cy:=λy=>if y=x then t else .v y
noncomputable def mM:cy:=λy=>.v y
def x4 (h:a=b) (k:c=d):T.ak f a c=T.ak f b d:=h▸k▸rfl
def ez (t:T) (b c:cy):(t.sub b).sub c=t.sub (au b c):=by
 induction t with
 |v n=>rfl|i z=>rfl|a k=>rfl|ay f x h=>exact al (T.ay f) h|ak f x y d e=>exact x4 d e
def yk {t:T} (h:∀n,t.has n->b n=c n):t.sub b=t.sub c:=by
 induction t with
 |v n=>exact h n rfl|i z=>rfl|a k=>rfl|ay f x d=>exact al (T.ay f)<|d h|ak f x y d e=>exact x4 (d λn q=>h n<|.inl q)<|e λn q=>h n<|.inr q
def sX (t:T):t.sub mM=t:=by
 induction t with
 |v n=>rfl|i z=>rfl|a k=>rfl|ay f x h=>exact al (T.ay f) h|ak f x y b c=>exact x4 b c
def sW {t:T} (h:∀n,t.has n->a n=.v n):t.sub a=t:=(yk (c:=mM) h).trans<|sX t
def AU {t:T}:(t.sub c).has m↔∃n,t.has n/\(c n).has m:=by
 induction t with
 |v n=>exact⟨λh=>ax n rfl h,λb=>ah b λd h q=>by subst h;exact q⟩|i z=>exact⟨λh=>h.elim,λb=>ah b λ_ h _=>h.elim⟩|a k=>exact⟨λh=>h.elim,λb=>ah b λ_ h _=>h.elim⟩|ay f x b=>exact b|ak f x y d e=>
  constructor
  ·rintro(q|q)
   ·exact ah (d.mp q) λn a b=>ax n (.inl a) b
   ·exact ah (e.mp q) λn a b=>⟨n,.inr a,b⟩
  ·rintro⟨n,a|a,b⟩
   ·exact .inl<|d.mpr<|ax n a b
   ·exact .inr<|e.mpr<|ax n a b
def BX {t:T} (h:¬t.has x):t.sub (cC x u)=t:=sW λn q=>by
 unfold cC
 rw[aX];rintro rfl;exact h q
def HL (t:T):t.num+1<=2^t.a0:=by
 induction t with
 |v n=>exact bE _|i z=>exact bE _|a k=>exact bE _|ay f x h=>show x.num+1+1<=2^x.a0*2;exact aI<|aj [_,_] [] [.n 2 (.a Z W) G,.n 1 (.a (.r G 2) W)<|.a (.a Z W) W] rfl h|ak f x y c d=>show x.num+y.num+1+1<=2^oz x.a0 y.a0*2;have a:=CM (n:=2) (by decide)<|mc x.a0 y.a0;have b:=CM (n:=2) (by decide)<|na x.a0 y.a0;exact aI<|aj [_,_,_,_,_] [] [.n 1 (.a Z W) G,.n 1 (.a v2 W) v3,.n 1 G v4,.n 1 v3 v4,.n 1 (.a (.r v4 2) W)<|.a (.a (.a Z v2) W) W] rfl c d a b
def R0 {t:T} (h:t.has n):(b n).num<=(t.sub b).num/\(t≠.v n->(b n).num<(t.sub b).num):=by
 induction t with
 |v m=>subst h;exact⟨bE _,λq=>(q rfl).elim⟩|i z=>exact h.elim|a k=>exact h.elim|ay f x c=>have:=(c h).1;show _<=(x.sub b).num+1/\(_->_<(x.sub b).num+1);exact⟨by exact aI<|aj [_,_] [] [.n 1 Z G,.n 1 (.a (.a G W) W) Z] rfl this,λ_=>by exact bo<|aj [_,_] [] [.n 1 Z G,.n 1 (.a G W) Z] rfl this⟩
 |ak f x y c d=>
  show _<=(x.sub b).num+(y.sub b).num+1/\(_->_<(x.sub b).num+(y.sub b).num+1);refine gf h (λh=> ?_)<|λh=> ?_
  ·have:=(c h).1;exact⟨by exact aI<|aj [_,_,_] [] [.n 1 Z G,.n 1 (.a (.a (.a G v2) W) W) Z] rfl this,λ_=>by exact bo<|aj [_,_,_] [] [.n 1 Z G,.n 1 (.a (.a G v2) W) Z] rfl this⟩
  ·have:=(d h).1;exact⟨by exact aI<|aj [_,_,_] [] [.n 1 Z G,.n 1 (.a (.a (.a v2 G) W) W) Z] rfl this,λ_=>by exact bo<|aj [_,_,_] [] [.n 1 Z G,.n 1 (.a (.a v2 G) W) Z] rfl this⟩
structure eL (t u:T) (σ:cy):Prop where
 lW:t.sub σ=u.sub σ
 od:∀θ:cy,t.sub θ=u.sub θ->au σ θ=θ
def fF (t u:T):Prop:=∀a:cy,t.sub a≠u.sub a
def eL.b1 (t:T):eL t t mM:=⟨rfl,λa _=>rfl⟩
theorem eL.symm {t u:T} {a:cy} (h:eL t u a):eL u t a:=⟨h.lW.symm,λb q=>h.od b q.symm⟩
theorem fF.symm {t u:T} (h:fF t u):fF u t:=λa q=>h a q.symm
set_option tactic.hygienic true in
def eL.bind {t:T} (h:¬t.has x):eL (.v x) t<|cC x t:=by
 refine⟨?_,λa q=>funext λy=> ?_⟩
 ·exact U (BX h)<|aK rfl
 ·delta au cC
  split
  ·rename_i e;subst e;exact q.symm
  ·rfl
def fF.h5 {t:T} (h:t.has x) (n:t≠.v x):fF (.v x) t:=λa q=>by have:=(R0 (b:=a) h).2 n;rw[<-q]at this;exact lj _ this
def z3 (a b c:cy):au (au a b) c=au a (au b c):=funext λy=>ez _ _ _
def eL.cT {t u d f:T} {b c:cy} (g:eL t u b) (h:eL (d.sub b) (f.sub b) c):(t.sub (au b c)=u.sub (au b c)/\d.sub (au b c)=f.sub (au b c))/\∀a:cy,t.sub a=u.sub a->d.sub a=f.sub a->au (au b c) a=a:=by
 refine⟨⟨?_,?_⟩,λa i j=> ?_⟩
 ·exact am (ez _ _ _)<|am (ez _ _ _)<|U g.lW rfl
 ·exact am (ez _ _ _)<|am (ez _ _ _)<|U h.lW rfl
 ·have e:=g.od a i;refine U (z3 _ _ _)<|U (h.od a<|by refine U (ez _ _ _)<|U (ez _ _ _)<|U e ?_;exact j) ?_;exact e
theorem eL.ak {f:Nat} {t u g h:T} {d i:cy} (j:eL t u d) (k:eL (g.sub d) (h.sub d) i):eL (.ak f t g) (.ak f u h)<|au d i:=bx (j.cT k) λe c=>bx e λa b=>⟨x4 a b,λl q=>c l (T.ak.inj q).2.1 (T.ak.inj q).2.2⟩
theorem eL.ay {f:Nat} {t u:T} {a:cy} (b:eL t u a):eL (.ay f t) (.ay f u) a:=⟨al (T.ay f) b.lW,λc q=>b.od c (T.ay.inj q).2⟩
theorem fF.ay {f:Nat} {t u:T} (h:fF t u):fF (.ay f t)<|.ay f u:=λa q=>h a (T.ay.inj q).2
def fF.m6 (h:fF t u):fF (.ak f t a)<|.ak f u b:=λc q=>h c (T.ak.inj q).2.1
def fF.m7 {b c:T} (h:eL t u a) (e:fF (b.sub a)<|c.sub a):fF (.ak f t b)<|.ak f u c:=λd q=>e d<|by refine U (ez _ _ _)<|U (ez _ _ _)<|U (h.od d (T.ak.inj q).2.1) ?_;exact(T.ak.inj q).2.2
open Classical in
def U7 {A R:T} {b:Nat->Nat} {e f:cy} {D:Nat->Prop} (l:∀x,A.has x\/R.has x->D x) (i:∀x y,D x->D y->b x=b y->x=y)
  (m:eL A R e) (o:eL (R.sub λx=>.v<|b x) (A.sub λx=>.v<|b x) f):
  ∃r j:cy,∀X:T,(∀x,X.has x->D x)->(X.sub λx=>.v<|b x).sub f=(X.sub e).sub r/\X.sub e=((X.sub λx=>.v<|b x).sub f).sub j:=by
 have s:A.sub (λx=>f<|b x)=R.sub (λx=>f<|b x):=by have:=o.lW;rw[ez,ez]at this;exact this.symm
 have t:=m.od _ s
 let c:Nat->Nat:=λa=>if h:∃x,D x/\b x=a then h.choose else 0
 have g:∀x,D x->c (b x)=x:=λx p=>by have h:∃y,D y/\b y=b x:=ax x p rfl;show(if h:∃y,D y/\b y=b x then h.choose else 0)=x;exact cJ (dif_pos h)<|i _ _ h.choose_spec.1 p h.choose_spec.2
 have d:∀X:T,(∀x,X.has x->D x)->(X.sub λx=>.v<|b x).sub (λa=>e<|c a)=X.sub e:=λX k=>cJ (ez _ _ _) (yk λn q=>by show e (c<|b n)=_;exact U (g n<|k n q) rfl);have n:=o.od (λa=>e<|c a) (by refine U (d R λx q=>l x<|.inr q)<|U (d A λx q=>l x<|.inl q) ?_;exact m.lW.symm);refine(dn (λx=>f<|b x) (λa=>e<|c a)<|λX k=>⟨?_,?_⟩)
 ·refine U (ez _ _ _)<|U (ez _ _ _)<|U t ?_;rfl
 ·exact U (ez _ _ _)<|U n<|U (d X k) rfl
section
abbrev cd:=List<|Nat×Nat
class inductive hg:T->T->cd->cd->cd->cd->Prop
 |i (z:Int) (th bk:cd):hg (.i z) (.i z) th bk th bk|a (k:Nat) (th bk:cd):hg (.a k) (.a k) th bk th bk|gS {x y:Nat} {th bk:cd}:th.lookup x=J y->bk.lookup y=J x->hg (.v x) (.v y) th bk th bk|iS {x y:Nat} {th bk:cd}:th.lookup x=Y->bk.lookup y=Y->hg (.v x) (.v y) th bk (th++[(x,y)]) (bk++[(y,x)])|ay {f:Nat} {x y:T} {th bk th' bk':cd}:hg x y th bk th' bk'->hg (.ay f x) (.ay f y) th bk th' bk'|ak {f:Nat} {x y x' y':T} {th bk th' bk' th'' bk'':cd}:hg x x' th bk th' bk'->hg y y' th' bk' th'' bk''->hg (.ak f x y) (.ak f x' y') th bk th'' bk''
structure rE (θ θ':cy) (th bk:cd):Prop where
 l:∀x y,th.lookup x=J y->θ x=.v y/\bk.lookup y=J x
 r:∀x y,bk.lookup y=J x->θ' y=.v x/\th.lookup x=J y
def rE.b_ (b a:cy):rE b a [] []:=⟨λx y h=>by simp at h,λx y h=>by simp at h⟩
def iR [DecidableEq K] {l:List<|K×a}:((x,u)::l).lookup b=if b=x then J u else l.lookup b:=aZ (b=x) (λh=>U (aK h)<|gt.trans<|U (beq_iff_eq.mpr h) rfl) λh=>U (aX h)<|gt.trans<|U (beq_eq_false_iff_ne.mpr h) rfl
theorem jJ {m:cd}:∀{l:cd},(l++m).lookup x=(l.lookup x).or (m.lookup x)|[]=>rfl|(a,b)::l=>aZ (x=a) (λh=>iR.trans<|U (aK h)<|U iR<|U (aK h) rfl) λh=>iR.trans<|U (aX h)<|U iR<|U (aX h) jJ
def GX {a:cd} (h:a.lookup n=Y):(a++[(n,p)]).lookup n=J p:=U jJ<|U h<|U iR<|U (aK rfl) rfl
def GY {b:cd} (h:b.lookup m=J a):(b++[(n,p)]).lookup m=J a:=U jJ<|U h rfl
def sy {f:cd} (e:(f++[(n,p)]).lookup m=J a):f.lookup m=J a\/m=n/\a=p:=by
 have e:=jJ▸e;cases q:f.lookup m with
 |some c=>exact .inl (q▸e:(some c).or _=some a)|none=>have e:((Y:Option Nat).or<|[(n,p)].lookup m)=J a:=q▸e;have e:(if m=n then J p else([]:cd).lookup m)=J a:=(iR (x:=n) (b:=m) (u:=p) (l:=[]))▸e;exact aZ (m=n) (λz=>.inr ⟨z,(aH<|(aK z).symm.trans e).symm⟩) λz=>aq<|(aX z).symm.trans e
def Bf:∀{l r:T} {g j:cd},r=l.sub s->l=r.sub n->rE s n g j->∃o p,hg l r g j o p/\rE s n o p:=by
 intro l
 induction l with
 |v x=>
  intro r g j e c O
  cases r with
  |v y=>
   have e:T.v y=s x:=e;have c:T.v x=n y:=c;cases h:g.lookup x with
   |some f=>exact bx (O.l x f h) λa b=>U (T.v.inj<|e.trans a)<|cZ _ _ (.gS h b) O|none=>
    cases k:j.lookup y with
    |some m=>exact bx (O.r m y k) λa b=>aq<|h.symm.trans<|U (T.v.inj<|c.trans a) b|none=>exact⟨_,_,.iS h k,λm f q=>(sy q).elim (λz=>bx (O.l _ _ z) λa b=>⟨a,GY b⟩) λz=>z.1.symm▸z.2.symm▸⟨e.symm,GX k⟩,λm f q=>(sy q).elim (λz=>bx (O.r _ _ z) λa b=>⟨a,GY b⟩) λz=>z.1.symm▸z.2.symm▸⟨c.symm,GX h⟩⟩
  |i z=>exact T.noConfusion c|a k=>exact T.noConfusion c|ay f x=>exact T.noConfusion c|ak f x y=>exact T.noConfusion c
 |i z=>intro r g j e c O;subst e;exact cZ _ _ (.i z g j) O|a k=>intro r g j e c O;subst e;exact cZ _ _ (.a k g j) O|ay f x h=>
  intro r g j e c O
  subst e
  exact bS (h rfl (T.ay.inj c).2 O) λo p m b=>cZ _ _ (.ay m) b
 |ak f x y t u=>
  intro r g j e c O
  subst e
  exact bS (t rfl (T.ak.inj c).2.1 O) λo p m b=>bS (u rfl (T.ak.inj c).2.2 b) λk q w h=>cZ _ _ (.ak m w) h
structure fG where
 x0:Nat
 xs:Nat
 E:Nat->Prop
 RF:¬E x0
 fy:¬E xs
 km:x0≠xs
variable {P:fG} {d:cy}
def nZ (P:fG) (t:T):Prop:=∀n,t.has n->n=P.x0
def lq (t:T):Prop:=∀n,¬t.has n
def qe (P:fG) (t:T):Prop:=(t.a0<=3/\nZ P t)\/∃x,P.E x/\t=.v x
def gj (P:fG):Nat->T->Prop|n+1,.ak f x y=>f=0/\qe P x/\gj P n y|0,.ak _ _ _=>False|_,.ay _ _=>False|_,.v n=>n=P.xs|_,.i _=>True|_,.a _=>True
structure et (P:fG) (d:cy):Prop where
 pc:(∃z,d P.x0=.v z/\(z=P.x0\/P.E z))\/((d P.x0).a0<=3/\lq (d P.x0))
 AO:∀x,P.E x->(∃z,d x=.v z/\(z=P.x0\/P.E z))\/∃t,t.a0<=3/\nZ P t/\d x=t.sub d
 F1:d P.xs=.v P.xs\/∃t,gj P 8 t/\¬t.has P.xs/\d P.xs=t.sub d
def et.id:et P mM:=⟨.inl<|ax _ rfl<|.inl rfl,λx h=>.inl<|ax x rfl<|.inr h,.inl rfl⟩
def fU (P:fG) (d:cy) (k:Nat) (u:T):Prop:=(∃t,t.a0+3<=k/\nZ P t/\u=t.sub d)\/(u.a0<=k/\u.a0<=3/\lq u)\/(6<=k/\∃x,P.E x/\u=d x)
def EU {t:T} (b:et P d) (h:nZ P t):(t.sub d).a0<=t.a0+3:=by
 have c:(d P.x0).a0<=3:=b.pc.elim (λz=>ah z λ_ e _=>U e<|cr 3) λz=>z.1;induction t with
 |v n=>exact am ((h n rfl).symm) c|i z=>exact cr _|a k=>exact cr _|ay f x e=>exact aF (dv<|e h)<|bp (jo x.a0 3).symm|ak f x y e g=>have m:=nM.mpr ⟨aF (e λn q=>h n<|.inl q)<|ha (mc x.a0 y.a0) 3,aF (g λn q=>h n<|.inr q)<|ha (na x.a0 y.a0) 3⟩;exact aF (dv m)<|bp (jo (oz x.a0 y.a0) 3).symm
theorem fU.a0 {u:T} (c:et P d) (h:fU P d k u):u.a0<=k:=h.elim (λz=>bR z λt a b e=>U e<|aF (EU c b) a) λz=>z.elim (λz=>z.1) λz=>ah z.2 λx b e=>e▸(c.AO x b).elim (λy=>ah y λ_ e _=>U e<|cr _) λy=>bR y λt f g i=>i▸aF (EU c g) (aF (ha f 3) z.1)
def fU.f6 {u:T} (c:et P d) (h:fU P d k u) (m:k<=6):(∃z,u=.v z/\(z=P.x0\/P.E z))\/(∃t,t.a9=aa/\t.a0+3<=k/\nZ P t/\u=t.sub d)\/(u.a0<=k/\u.a0<=3/\lq u):=by
 have g:∀{t},t.a0+3<=k->nZ P t->u=t.sub d->(∃z,u=.v z/\(z=P.x0\/P.E z))\/(∃t,t.a9=aa/\t.a0+3<=k/\nZ P t/\u=t.sub d)\/(u.a0<=k/\u.a0<=3/\lq u):=λ{t} a b e=>by
  cases q:t.a9 with
  |false=>exact .inr<|.inl<|hM t q a b e|true=>cases t with
   |v n=>have e:u=d P.x0:=am (b n rfl) e;exact c.pc.elim (λz=>ah z λy f q=>.inl<|ax y (e.trans f) q) λz=>.inr<|.inr<|U e<|bB (aF z.1<|aF (hE 3 _) a) (z.1)<|z.2
   |_=>exact cW q
 exact h.elim (λz=>bR z λt a b e=>g a b e) λz=>z.elim (λz=>.inr<|.inr z) λz=>ah z.2 λx b e=>(c.AO x b).elim (λy=>ah y λz f q=>.inl<|ax z (e.trans f) q) λy=>bR y λt i j l=>g (aF (ha i 3) z.1) j<|e.trans l
def fU.fS {k z:Nat} (a:et P d) (h:fU P d k<|.v z) (b:k<=6):z=P.x0\/P.E z:=
 (h.f6 a b).elim (λy=>ah y λc e q=>U (T.v.inj e) q) λy=>y.elim (λy=>fT y λt n _ _ e=>by
  cases t with
  |v _=>exact hv n|_=>exact T.noConfusion e) λy=>(y.2.2 z rfl).elim
def ve {a k:Nat} {C:Prop} (h:a+1<=k) (c:∀b,k=b+1->a<=b->C):C:=by
 cases k with
 |zero=>exact(rd _ h).elim|succ k=>exact c k rfl<|jn h
theorem fU.ay {k f:Nat} {b:T} (c:et P d) (h:fU P d k<|.ay f b) (p:k<=6):∃i,k=i+1/\fU P d i b:=
 (h.f6 c p).elim (λy=>ah y λ_ e _=>T.noConfusion e) λy=>y.elim (λy=>fT y λt n l o e=>by
  cases t with
  |ay g x=>exact ve (a:=x.a0+3) (aF (bp (jo x.a0 3).symm) l) λi j m=>⟨i,j,.inl<|cM x m o<|(T.ay.inj e).2⟩|v _=>exact hv n|_=>exact T.noConfusion e) λy=>ve y.1 λi j m=>⟨i,j,.inr<|.inl<|bB m (fn y.2.1)<|y.2.2⟩
theorem fU.ak {k f:Nat} {c b:T} (i:et P d) (h:fU P d k<|.ak f c b) (s:k<=6):∃j,k=j+1/\fU P d j c/\fU P d j b:=
 (h.f6 i s).elim (λy=>ah y λ_ e _=>T.noConfusion e) λy=>y.elim (λy=>fT y λt n l o e=>by
  cases t with
  |ak g x y=>exact ve (a:=oz x.a0 y.a0+3) (aF (bp (jo (oz x.a0 y.a0) 3).symm) l) λj r p=>
    ⟨j,r,.inl<|cM x (aF (ha (mc _ _) 3) p) (λn q=>o n<|.inl q)<|(T.ak.inj e).2.1,.inl<|cM y (aF (ha (na _ _) 3) p) (λn q=>o n<|.inr q)<|(T.ak.inj e).2.2⟩
  |v _=>exact hv n|_=>exact T.noConfusion e) λy=>ve (a:=oz c.a0 b.a0) y.1 λj r p=>
   have m:oz c.a0 b.a0<=3:=fn y.2.1
   ⟨j,r,.inr<|.inl<|bB (aF (mc _ _) p) (aF (mc _ _) m)<|λn q=>y.2.2 n<|.inl q,.inr<|.inl<|bB (aF (na _ _) p) (aF (na _ _) m)<|λn q=>y.2.2 n<|.inr q⟩
def fU.f7 {u:T} (f:cy) (h:fU P d k u):fU P (au d f) k<|u.sub f:=by
 rcases h with⟨t,a,b,rfl⟩|⟨a,b,c⟩|⟨a,x,b,rfl⟩
 ·exact .inl<|cM t a b<|ez _ _ _
 ·have e:u.sub f=u:=sW λn q=>(c n q).elim;exact .inr (.inl<|by refine U e ?_;exact bB a b c)
 ·exact .inr<|.inr ⟨a,x,b,rfl⟩
def et.df (c:et P d) (i:(∃z,au d f P.x0=.v z/\(z=P.x0\/P.E z))\/((au d f P.x0).a0<=3/\lq (au d f P.x0))) (j:∀x y,P.E x->d x=.v y->(y=P.x0\/P.E y)->(∃z,au d f x=.v z/\(z=P.x0\/P.E z))\/∃t,t.a0<=3/\nZ P t/\au d f x=t.sub (au d f))
  (k:d P.xs=.v P.xs->au d f P.xs=.v P.xs\/∃t,gj P 8 t/\¬t.has P.xs/\au d f P.xs=t.sub (au d f)):et P<|au d f:=
 have g:∀{x:Nat} {t:T},d x=t.sub d->au d f x=t.sub (au d f):=λe=>(al (T.sub f) e).trans (ez _ _ _)
 ⟨i,λx h=>(c.AO x h).elim (λz=>ah z λy e q=>j x y h e q) λz=>bR z λt a b e=>.inr<|cM t a b<|g e,c.F1.elim k λz=>bR z λt a b e=>.inr<|cM t a b<|g e⟩
theorem lq.au (b:lq<|d n):Internal.au d a n=d n:=sW λn q=>(b n q).elim
def hh (P:fG) (d:cy) (k:Nat) (u:T):Prop:=∃n t,n<=8/\gj P n t/\(n+16<=k\/¬t.has P.xs/\n+7<=k)/\u=t.sub d
def hh.f7 {u:T} (f:cy) (h:hh P d k u):hh P (au d f) k<|u.sub f:=by
 refine dx h λn t a b c e=> ?_
 subst e
 exact fe n t a b c<|ez _ _ _
def gj.a2:∀{n m:Nat},gj P n t->n<=m->gj P m t:=by
 induction t with
 |v x=>exactλ{n m} h l=>by cases n<;>cases m<;>exact h
 |i z=>exactλ{n m} h l=>by cases m<;>trivial
 |a k=>exactλ{n m} h l=>by cases m<;>trivial
 |ay f x b=>exactλ{n m} h l=>by cases n<;>exact h.elim
 |ak f x y c b=>
  intro n m h l
  cases n with
  |zero=>exact h.elim|succ n=>cases m with|zero=>exact(rd _ l).elim|succ m=>exact bB (h.1) (h.2.1)<|b h.2.2<|jn l
theorem qe.fU {t:T} (h:qe P t):fU P d 6<|t.sub d:=by
 rcases h with⟨a,b⟩|⟨x,a,rfl⟩
 ·exact .inl<|cM t (by exact aI<|aj [_] [] [.n 1 Z u3,.n 1 (.a (.k 6) W)<|.a Z u3] rfl a) b rfl
 ·exact .inr<|.inr ⟨bE _,x,a,rfl⟩
def gj.fS {n x:Nat} (h:gj P n<|.v x):x=P.xs:=by cases n<;>exact h
def hh.f6 (f:et P d) (h:hh P d k u):(u=.v P.xs/\d P.xs=.v P.xs)\/∃n t,t.a9=aa/\n<=8/\gj P n t/\(n+16<=k\/¬t.has P.xs/\n+7<=k)/\u=t.sub d:=
 dx h λn t l s c e=>by
  cases q:t.a9 with
  |false=>exact .inr<|ft n t q l s c e|true=>cases t with
   |v x=>
    have e:u=d P.xs:=am s.fS e;refine f.F1.elim (λg=>.inl ⟨e.trans g,g⟩) λz=>bR z λt a b g=>.inr<|ft 8 t (?_) (bE 8) a (.inr ⟨b,c.elim (λc=>aF (hE 15<|n+1) c) λc=>(c.1 s.fS).elim⟩)<|e.trans g;cases t with
    |v y=>exact(b a.fS).elim|_=>rfl
   |_=>exact cW q
theorem hh.ak {k f:Nat} {a b:T} (o:et P d) (h:hh P d k<|.ak f a b):∃j,k=j+1/\fU P d 6 a/\6<=j/\hh P d j b:=
 (h.f6 o).elim (λz=>T.noConfusion z.1) λz=>gz z λn t v l s c e=>by
  cases t with
  |v _=>exact hv v|i _=>exact T.noConfusion e|a _=>exact T.noConfusion e|ay _ _=>exact T.noConfusion e|ak g x y=>cases n with|zero=>exact s.elim|succ n=>have u:∀{m},m+7<=k->(∀j,k=j+1->m+6<=j->hh P d j b)->∃j,k=j+1/\fU P d 6 a/\6<=j/\hh P d j b:=λp r=>ve p λj w p=>hM j w (U ((T.ak.inj e).2.1) s.2.1.fU) (aF (hE 6 _) p)<|r j w p;exact c.elim (λc=>u (m:=n+10) c λj _ p=>⟨n,y,fn l,s.2.2,.inl p,(T.ak.inj e).2.2⟩) λc=>u (m:=n+1) c.2 λj _ p=>⟨n,y,fn l,s.2.2,.inr ⟨λq=>c.1<|.inr q,p⟩,(T.ak.inj e).2.2⟩
theorem hh.ay {k f:Nat} {a:T} (b:et P d) (h:hh P d k<|.ay f a):False:=
 (h.f6 b).elim (λz=>T.noConfusion z.1) λz=>gz z λn t v l s c e=>by
  cases t with
  |v _=>exact hv v|ay _ _=>cases n<;>exact s.elim
  |_=>exact T.noConfusion e
def hh.fS {k z:Nat} (a:et P d) (h:hh P d k<|.v z):z=P.xs/\d P.xs=.v P.xs:=
 (h.f6 a).elim (λz=>⟨T.v.inj z.1,z.2⟩) λz=>gz z λn t v l s c e=>by
  cases t with
  |v _=>exact hv v|_=>exact T.noConfusion e
theorem hh.a0 {u:T} (e:et P d):hh P d k u->u.a0<=k:=by
 induction u generalizing k with
 |v x=>intro _;exact cr _|i z=>intro _;exact cr _|a k=>intro _;exact cr _|ay f x b=>intro h;exact(h.ay e).elim|ak f x y l j=>
  intro h
  refine fT (h.ak e) λm g a b c=> ?_
  subst g
  exact dv<|nM.mpr ⟨aF (a.a0 e) b,j c⟩
def eR (P:fG) (d:cy) (k:Nat) (u w:T):Prop:=(k<=6/\fU P d k u/\fU P d k w)\/(hh P d k u/\hh P d k w)
def eR.symm {k:Nat} {u w:T} (h:eR P d k u w):eR P d k w u:=h.elim (λq=>.inl<|bB (q.1) (q.2.2)<|q.2.1) λq=>.inr ⟨q.2,q.1⟩
theorem eR.f7 {u w:T} (a:cy) (h:eR P d k u w):eR P (au d a) k (u.sub a)<|w.sub a:=h.elim (λq=>.inl<|bB (q.1) (q.2.1.f7 a)<|q.2.2.f7 a) λq=>.inr ⟨q.1.f7 a,q.2.f7 a⟩
theorem eR.a0 {u w:T} (a:et P d) (h:eR P d k u w):u.a0<=k/\w.a0<=k:=h.elim (λq=>⟨q.2.1.a0 a,q.2.2.a0 a⟩) λq=>⟨q.1.a0 a,q.2.a0 a⟩
theorem eR.ay {k f g:Nat} {a b:T} (c:et P d) (h:eR P d k (.ay f a)<|.ay g b):∃j,k=j+1/\eR P d j a b:=by
 refine cps λt m=> ?_;rcases h with⟨q,l,o⟩|⟨l,o⟩
 ·refine ah (l.ay c q) λj i p=> ?_;subst i;refine ah (o.ay c q) λr e s=> ?_
  injection e with i;subst i
  refine m ?_;exact ax j rfl<|.inl<|bB (by exact aI<|aj [_] [] [.n 1 (.a Z W)<|.k 6,.n 1 (.a (.k 6) W) Z] rfl q) p s
 ·exact m<|(l.ay c).elim
def eR.bind {t:T} (f:et P d) (h:eR P d k (.v z) t) (r:¬t.has z):et P<|au d<|cC z t:=by
 rcases h with⟨q,u,A⟩|⟨u,A⟩
 ·exact(by
   have C:d P.xs=.v P.xs->au d (cC z t) P.xs=.v P.xs\/∃s,gj P 8 s/\¬s.has P.xs/\au d (cC z t) P.xs=s.sub (au d<|cC z t):=λe=>.inl<|(al (T.sub _) e).trans<|aX λe:P.xs=z=>(u.fS f q).elim (λc=>P.km<|c.symm.trans e.symm) λc=>P.fy<|U e c;have i:∀{x y},d x=.v y->au d (cC z t) x=cC z t y:=λe=>al (T.sub _) e;have g:∀{x},lq (d x)->(d x).a0<=3->(au d (cC z t) x).a0<=3/\lq (au d (cC z t) x):=λb a=>U b.au ⟨a,b⟩
   have p:∀{w:T},w.a0<=3->nZ P w->t=w.sub d->et P (au d<|cC z t):=λ{w} D E e=>
    have B:t=w.sub (au d<|cC z t):=(BX r).symm.trans ((al (T.sub _) e).trans<|ez _ _ _)
    f.df (f.pc.elim (λy=>ah y λy j m=>aZ (y=z) (λc=>by
      have l:lq w:=λn o=>r<|U e<|AU.mpr<|ax n o<|U (E n o)<|U j c;have:au d (cC z t) P.x0=w:=(i j).trans<|(aK c).trans<|e.trans<|sW λn c=>(l n c).elim
      exact .inr<|U this ⟨D,l⟩) λc=>.inl<|ax y ((i j).trans<|aX c) m) λy=>.inr<|g y.2 y.1)
     (λx y F j m=>aZ (y=z) (λc=>.inr<|cM w D E<|(i j).trans<|(aK c).trans B) λc=>.inl<|ax y ((i j).trans<|aX c) m) C
   refine(A.f6 f q).elim (λy=>ah y λI e c=> ?_) λy=>y.elim (λy=>fT y λw _ l o e=>p (Nat.le_of_add_le_add_right (aF l q:w.a0+3<=3+3)) o e) λy=>p y.2.1 (λn c=>(y.2.2 n c).elim) (sW λn c=>(y.2.2 n c).elim).symm;have H:∀{x y},d x=.v y->(y=P.x0\/P.E y)->∃o,au d (cC z t) x=.v o/\(o=P.x0\/P.E o):=λj m=>aZ (_=z) (λB=>ax I ((i j).trans<|(aK B).trans e) c) λB=>⟨_,(i j).trans<|aX B,m⟩
   exact f.df (f.pc.imp (λy=>ah y λy j m=>H j m) λy=>g y.2 y.1) (λx y F j m=>.inl<|H j m) C)
 ·obtain⟨rfl,b⟩:=u.fS f
  exact(
    have i:∀{x y},d x=.v y->au d (cC P.xs t) x=cC P.xs t y:=λe=>al (T.sub _) e;have a:∀{y},(y=P.x0\/P.E y)->cC P.xs t y=.v y:=λm=>aX λe=>m.elim (λq=>P.km<|q.symm.trans e) λq=>P.fy (am e q)
    dx A λn w l s c e=>f.df (f.pc.imp (λy=>ah y λy j m=>ax y ((i j).trans<|a m) m) λy=>(U (lq.au y.2) y:(au d (cC P.xs t) P.x0).a0<=3/\lq (au d (cC P.xs t) P.x0)))
     (λx y F j m=>.inl<|ax y ((i j).trans<|a m) m) λ_=>.inr<|cM w (s.a2 l) (λq=>r<|U e<|AU.mpr ⟨_,q,U b rfl⟩)<|(i b).trans<|(aK rfl).trans<|(BX r).symm.trans<|(al (T.sub _) e).trans<|ez _ _ _)
end
section
open PySem
noncomputable def y0:a_:=.loc 0
noncomputable def y1:a_:=.loc 1
noncomputable def y2:a_:=.loc 2
noncomputable def y3:a_:=.loc 3
noncomputable def y4:a_:=.loc 4
noncomputable def y5:a_:=.loc 5
noncomputable def y6:a_:=.loc 6
noncomputable def y7:a_:=.loc 7
noncomputable def y8:a_:=.loc 8
noncomputable def y9:a_:=.loc 9
def Fn:bL:=⟨[],[],[.aO<|.av [.W<|.Z<|S "[]",.W<|.Z<|S ".",.W<|.Z<|S "{}",.W<|.Z<|S "-",.W<|.Z<|S "+",.W<|.Z<|S "*",.W<|.Z<|S "/",.W<|.Z<|S ",",.W<|.Z<|S "|",.W<|.Z<|S ";",.W<|.Z<|S "->",.W<|.Z<|S "\\+",.W<|.Z<|S ":-",.W<|.Z<|S "?-",.W<|.Z<|S "-->",.W<|.Z<|S "!",.W<|.Z<|S "true",.W<|.Z<|S "fail",.W<|.Z<|S "false",.W<|.Z<|S "call",.W<|.Z<|S "=",.W<|.Z<|S "^",.W<|.Z<|S "error",.W<|.Z<|S "",.W<|.Z<|S "end_of_file",.W<|.Z<|S "system",.W<|.Z<|S "$VAR",.W<|.Z<|S "catch",.W<|.Z<|S "throw"]]⟩
def Fq:bL:=⟨[],[],[.aO<|.av [.av [.W<|.Z<|S ".",.W<|.I 2],.av [.W<|.Z<|S ",",.W<|.I 2],.av [.W<|.Z<|S ";",.W<|.I 2],.av [.W<|.Z<|S "->",.W<|.I 2],.av [.W<|.Z<|S "\\+",.W<|.I 1],.av [.W<|.Z<|S ":-",.W<|.I 2],.av [.W<|.Z<|S ":-",.W<|.I 1],.av [.W<|.Z<|S "?-",.W<|.I 1],.av [.W<|.Z<|S "-->",.W<|.I 2],.av [.W<|.Z<|S "{}",.W<|.I 1],.av [.W<|.Z<|S "=",.W<|.I 2],.av [.W<|.Z<|S "^",.W<|.I 2],.av [.W<|.Z<|S "-",.W<|.I 1],.av [.W<|.Z<|S "-",.W<|.I 2],.av [.W<|.Z<|S "+",.W<|.I 2],.av [.W<|.Z<|S "/",.W<|.I 2],.av [.W<|.Z<|S "error",.W<|.I 2],.av [.W<|.Z<|S "$VAR",.W<|.I 1],.av [.W<|.Z<|S "catch",.W<|.I 3],.av [.W<|.Z<|S "throw",.W<|.I 1],.av [.W<|.Z<|S "!",.W<|.I 0],.av [.W<|.Z<|S "true",.W<|.I 0],.av [.W<|.Z<|S "fail",.W<|.I 0],.av [.W<|.Z<|S "false",.W<|.I 0],.av [.W<|.Z<|S "call",.W<|.I 1],.av [.W<|.Z<|S "call",.W<|.I 2],.av [.W<|.Z<|S "call",.W<|.I 3],.av [.W<|.Z<|S "call",.W<|.I 4],.av [.W<|.Z<|S "call",.W<|.I 5],.av [.W<|.Z<|S "call",.W<|.I 6],.av [.W<|.Z<|S "call",.W<|.I 7],.av [.W<|.Z<|S "call",.W<|.I 8]]]⟩
noncomputable def Ap:bL:=⟨[0],[],[.jO y0 4<|.X [],.jO y0 1<|.fZ,.jO y0 3<|.X [],.jO y0 2<|.fZ,.for 1 0 [.bi (.W<|.aA 2) []] [.cu<|.aS y0 8 [y1]],.for 2 0 [.bi (.W<|.aA 3) []] [.cu<|.aS y0 11 [.ao y2<|.W<|.I 0,.ao y2<|.W<|.I 1]]]⟩
noncomputable def Oz:bL:=⟨[0,1],[],[.aN 2<|.aS (.attr y0 1) 5 [y1,.gq<|.W<|.I 1],.aQ (.au .GtE y2<|.W<|.I 0) [.aO y2] [],.aN 3<|.bZ .bb [.attr y0 4],.cu<|.aS (.attr y0 4) 0 [y1],.eu (.attr y0 1) y1 y3,.aO y3]⟩
noncomputable def OI:bL:=⟨[0,1],[],[.aO<|.ao (.attr y0 4) y1]⟩
noncomputable def OP:bL:=⟨[0,1,2],[],[.aN 3<|.av [y1,y2],.aN 4<|.aS (.attr y0 2) 5 [y3,.gq<|.W<|.I 1],.aQ (.au .GtE y4<|.W<|.I 0) [.aO y4] [],.aN 5<|.bZ .bb [.attr y0 3],.cu<|.aS (.attr y0 3) 0 [y3],.eu (.attr y0 2) y3 y5,.aO y5]⟩
noncomputable def OT:bL:=⟨[0,1,2],[],[.aO<|.aS y0 10 [.aS y0 8 [y1],y2]]⟩
noncomputable def OW:bL:=⟨[0,1],[],[.aO<|.ao (.ao (.attr y0 3) y1)<|.W<|.I 0]⟩
noncomputable def N5:bL:=⟨[0,1],[],[.aO<|.ao (.ao (.attr y0 3) y1)<|.W<|.I 1]⟩
def N_:bL:=⟨[0],[],[.aO<|.bi (.W<|.c2 1) [.av [.W<|.Z<|S "s",.W<|.I 16,.av [y0,.av [.W<|.Z<|S "a",.W<|.I 25]]]]]⟩
def Oa:bL:=⟨[0,1,2],[],[.aN 3<|.X [],.for 4 0 [y2] [.cu<|.aS y3 0 [.aQ (.bZ .isStr [y4]) (.av [.W<|.Z<|S "a",.aS y0 8 [y4]]) y4]],.aO<|.av [.W<|.Z<|S "s",.aS y0 11 [y1,.bZ .bb [y3]],.bZ .e6 [y3]]]⟩
def Ob:bL:=⟨[0],[],[.aO<|.bi (.W<|.aA 15) [.av [.W<|.Z<|S "a",.aS y0 8 [.W<|.Z<|S "instantiation_error"]]]]⟩
def Oc:bL:=⟨[0,1,2],[],[.aO<|.bi (.W<|.aA 15) [.bi (.W<|.aA 16) [y0,.W<|.Z<|S "type_error",.av [y1,y2]]]]⟩
def Od:bL:=⟨[0,1],[],[.aN 2<|.bZ .bb [.attr y0 7],.aQ (.au .GtE y2<|.attr y0 8) [.hW<|.bi (.W<|.aA 19) [.attr y0 10,.W<|.Z<|S "memory"]] [],.cu<|.aS (.attr y0 7) 0 [y1],.aO y2]⟩
noncomputable def Oe:bL:=⟨[0],[],[.aN 1<|.av [.W<|.I 0,.bZ .bb [.attr y0 7]],.cu<|.aS y0 14 [y1],.aO y1]⟩
def Fo:bL:=⟨[0,1],[],[.aN 2<|.bZ .bb [.attr y0 7],.aQ (.au .Gt (.cH .Add y2 y1)<|.attr y0 8) [.hW<|.bi (.W<|.aA 19) [.attr y0 10,.W<|.Z<|S "memory"]] [],.for 3 1 [y1] [.cu<|.aS (.attr y0 7) 0 [.av [.W<|.I 0,.cH .Add y2 y3]]],.aO y2]⟩
noncomputable def Fp:bL:=⟨[0,1],[],[.while (.W<|.ad ac) [.aN 2<|.ao y1<|.W<|.I 0,.aQ (.au .Eq y2<|.W<|.I 0) [.aN 3<|.ao (.attr y0 7)<|.ao y1<|.W<|.I 1] [.aQ (.au .Eq y2<|.W<|.I 1) [.aN 3<|.ao (.attr y0 9)<|.ao y1<|.W<|.I 1] [.aO y1]],.aQ (.au .Eq y3 y1) [.aO y1] [],.aN 1 y3]]⟩
noncomputable def Of:bL:=⟨[0,1,2],[],[.aN 3<|.ao y1<|.W<|.I 1,.aQ (.au .Eq (.ao y1<|.W<|.I 0)<|.W<|.I 0) [.eu (.attr y0 7) y3 y2,.aQ (.au .Lt y3<|.attr y0 6) [.cu<|.aS (.attr y0 11) 0 [y3]] []] [.eu (.attr y0 9) y3 y2,.aQ (.au .Lt y3<|.attr y0 5) [.cu<|.aS (.attr y0 11) 0 [.cH .Sub (.gq<|.W<|.I 1) y3]] []]]⟩
noncomputable def Og:bL:=⟨[0,1,2],[],[.aQ (.au .Eq y1 y2) [.aO<|.W<|.a6] [],.aQ (.au .Eq (.ao y1<|.W<|.I 0)<|.ao y2<|.W<|.I 0) [.aQ (.au .Lt (.ao y1<|.W<|.I 1)<|.ao y2<|.W<|.I 1) [.cu<|.aS y0 18 [y2,y1]] [.cu<|.aS y0 18 [y1,y2]]] [.aQ (.au .Eq (.ao y1<|.W<|.I 0)<|.W<|.I 1) [.cu<|.aS y0 18 [y1,y2]] [.cu<|.aS y0 18 [y2,y1]]]]⟩
noncomputable def Oh:bL:=⟨[0,1],[],[.aN 1<|.aS y0 17 [y1],.aQ (.au .Eq (.ao y1<|.W<|.I 0)<|.W<|.I 1) [.aN 2<|.aS y0 15 [],.cu<|.aS y0 18 [y1,y2],.aO y2] [],.aO y1]⟩
noncomputable def Oi:bL:=⟨[0,1],[],[.aO<|.or (.au .Eq (.ao y1<|.W<|.I 0)<|.W<|.I 2)<|.au .Eq (.ao y1<|.W<|.I 0)<|.W<|.I 3]⟩
noncomputable def Oj:bL:=⟨[0,1],[],[.aN 2<|.ao y1<|.W<|.I 0,.aQ (.au .Eq y2<|.W<|.I 2) [.aO<|.ao (.ao (.attr y0 7)<|.ao y1<|.W<|.I 1)<|.W<|.I 1] [],.aQ (.au .Eq y2<|.W<|.I 3) [.aO<|.W<|.I 0] [],.aQ (.au .Eq y2<|.W<|.I 4) [.aO<|.aS (.attr y0 10) 10 [.ao y1<|.W<|.I 1,.W<|.I 0]] [],.aO<|.gq<|.W<|.I 1]⟩
noncomputable def Ok:bL:=⟨[0,1],[],[.aN 2<|.ao y1<|.W<|.I 0,.aQ (.au .Eq y2<|.W<|.I 3) [.aO<|.W<|.I 2] [],.aQ (.au .Eq y2<|.W<|.I 2) [.aO<|.aS (.attr y0 10) 13 [.ao (.ao (.attr y0 7)<|.ao y1<|.W<|.I 1)<|.W<|.I 1]] [],.aO<|.W<|.I 0]⟩
noncomputable def Ol:bL:=⟨[0,1],[],[.aQ (.au .Eq (.ao y1<|.W<|.I 0)<|.W<|.I 3) [.aO<|.ao y1<|.W<|.I 1] [],.aO<|.cH .Add (.ao y1<|.W<|.I 1)<|.W<|.I 1]⟩
noncomputable def Om:bL:=⟨[0,1,2],[],[.aO<|.ao (.attr y0 7)<|.cH .Sub (.cH .Add (.aS y0 24 [y1]) y2)<|.W<|.I 1]⟩
noncomputable def Oo:bL:=⟨[0,1],[],[.aQ (.au .Eq y1<|.W<|.I 0) [.aO<|.av [.W<|.I 3,.aS y0 16 [.W<|.I 2]]] [],.aN 2<|.aS y0 16 [.cH .Add (.W<|.I 1)<|.aS (.attr y0 10) 13 [y1]],.eu (.attr y0 7) y2<|.av [.W<|.I 6,y1],.aO<|.av [.W<|.I 2,y2]]⟩
noncomputable def Aq:bL:=⟨[0,1,2],[.a6],[.aQ (.au .Is y2<|.W<|.a6) [.aN 3<|.av [.W<|.I 4,.W<|.I 0]] [.aN 3<|.aS y0 20 [y2]],.aN 4<|.X [],.for 5 0 [y1] [.cu<|.aS y4 0 [.aS y0 20 [y5]]],.aQ (.au .Eq (.bZ .bb [y4])<|.W<|.I 0) [.aO y3] [],.aN 6<|.aS y0 16 [.cH .Mult (.W<|.I 2)<|.bZ .bb [y4]],.aN 7 y6,.for 8 0 [y4] [.eu (.attr y0 7) y7 y8,.eu (.attr y0 7) (.cH .Add y7<|.W<|.I 1)<|.av [.W<|.I 3,.cH .Add y7<|.W<|.I 2],.ik 7 .Add<|.W<|.I 2],.eu (.attr y0 7) (.cH .Sub y7<|.W<|.I 1) y3,.aO<|.av [.W<|.I 3,y6]]⟩
noncomputable def Ar:bL:=⟨[0,1],[],[.aN 2<|.X [],.aN 3<|.bZ .set [],.aN 1<|.aS y0 17 [y1],.while (.dM (.au .Eq (.ao y1<|.W<|.I 0)<|.W<|.I 3)<|.au .NotIn (.ao y1<|.W<|.I 1) y3) [.cu<|.aS y3 6 [.ao y1<|.W<|.I 1],.cu<|.aS y2 0 [.aS y0 17 [.ao (.attr y0 7)<|.ao y1<|.W<|.I 1]],.aN 1<|.aS y0 17 [.ao (.attr y0 7)<|.cH .Add (.ao y1<|.W<|.I 1)<|.W<|.I 1]],.aO<|.av [y2,y1]]⟩
def rZ:bL:=⟨[0,1,2],[],[.for 3 0 [.bZ .X [y2]] [.aQ (.au .Eq (.ao (.ao y2 y3)<|.W<|.I 0)<|.W<|.I 1) [.eu y2 y3<|.aS y0 20 [.ao y2 y3]] []],.aN 4<|.ao y1<|.W<|.I 0,.aQ (.au .Eq y4<|.W<|.Z<|S "v") [.aQ (.au .NotIn (.ao y1<|.W<|.I 1) y2) [.eu y2 (.ao y1<|.W<|.I 1)<|.aS y0 15 []] [],.aO<|.ao y2<|.ao y1<|.W<|.I 1] [],.aQ (.au .Eq y4<|.W<|.Z<|S "a") [.aO<|.av [.W<|.I 4,.ao y1<|.W<|.I 1]] [],.aQ (.au .Eq y4<|.W<|.Z<|S "i") [.aO<|.av [.W<|.I 5,.ao y1<|.W<|.I 1]] [],.aN 5<|.aS y0 26 [.ao y1<|.W<|.I 1],.aN 6<|.X [.av [.aS y0 24 [y5],.ao y1<|.W<|.I 2]],.aN 7<|.W<|.I 0,.while (.au .Lt y7<|.bZ .bb [y6]) [.jS [8,9]<|.ao y6 y7,.ik 7 .Add<|.W<|.I 1,.for 10 0 [y9] [.aN 4<|.ao (.loc 10)<|.W<|.I 0,.aQ (.au .Eq y4<|.W<|.Z<|S "v") [.aQ (.au .In (.ao (.loc 10)<|.W<|.I 1) y2) [.eu (.attr y0 7) y8<|.ao y2<|.ao (.loc 10)<|.W<|.I 1] [.eu y2 (.ao (.loc 10)<|.W<|.I 1)<|.av [.W<|.I 0,y8]]] [.aQ (.au .Eq y4<|.W<|.Z<|S "a") [.eu (.attr y0 7) y8<|.av [.W<|.I 4,.ao (.loc 10)<|.W<|.I 1]] [.aQ (.au .Eq y4<|.W<|.Z<|S "i") [.eu (.attr y0 7) y8<|.av [.W<|.I 5,.ao (.loc 10)<|.W<|.I 1]] [.aN 11<|.aS y0 26 [.ao (.loc 10)<|.W<|.I 1],.eu (.attr y0 7) y8<|.loc 11,.cu<|.aS y6 0 [.av [.aS y0 24 [.loc 11],.ao (.loc 10)<|.W<|.I 2]]]]],.ik 8 .Add<|.W<|.I 1]],.aO y5]⟩
def At:bL:=⟨[0,1,2],[],[.aN 3<|.fZ,.aN 4<|.X [],.aN 5<|.X [.av [.W<|.I 0,.aS y0 20 [y1]]],.while (.au .Gt (.bZ .bb [y5])<|.W<|.I 0) [.jS [6,1]<|.aS y5 3 [],.aQ (.au .Eq y6<|.W<|.I 1) [.aN 7<|.aS y0 22 [y1],.aN 8<|.cH .Sub (.bZ .bb [y4])<|.aS y0 23 [y1],.aN 9<|.av [.W<|.Z<|S "s",y7,.bZ .e6 [.f1 y4 y8]],.g9 y4 y8,.eu y3 (.ao y1<|.W<|.I 1) y9,.cu<|.aS y4 0 [y9],.gm] [],.aN 1<|.aS y0 17 [y1],.aN 10<|.ao y1<|.W<|.I 0,.aQ (.au .Eq (.loc 10)<|.W<|.I 0) [.aQ (.au .NotIn (.ao y1<|.W<|.I 1) y2) [.eu y2 (.ao y1<|.W<|.I 1)<|.bZ .bb [y2]] [],.cu<|.aS y4 0 [.av [.W<|.Z<|S "v",.ao y2<|.ao y1<|.W<|.I 1]]] [.aQ (.au .Eq (.loc 10)<|.W<|.I 4) [.cu<|.aS y4 0 [.av [.W<|.Z<|S "a",.ao y1<|.W<|.I 1]]] [.aQ (.au .Eq (.loc 10)<|.W<|.I 5) [.cu<|.aS y4 0 [.av [.W<|.Z<|S "i",.ao y1<|.W<|.I 1]]] [.aQ (.au .In (.ao y1<|.W<|.I 1) y3) [.aN 9<|.ao y3<|.ao y1<|.W<|.I 1,.aQ (.au .Is y9<|.W<|.a6) [.hW<|.bi (.W<|.aA 19) [.attr y0 10,.W<|.Z<|S "memory"]] [],.cu<|.aS y4 0 [y9]] [.eu y3 (.ao y1<|.W<|.I 1)<|.W<|.a6,.cu<|.aS y5 0 [.av [.W<|.I 1,y1]],.aN 11<|.aS y0 24 [y1],.for 12 1 [.cH .Sub (.aS y0 23 [y1])<|.W<|.I 1,.gq<|.W<|.I 1,.gq<|.W<|.I 1] [.cu<|.aS y5 0 [.av [.W<|.I 0,.ao (.attr y0 7)<|.cH .Add (.loc 11)<|.loc 12]]]]]]]],.aO<|.ao y4<|.W<|.I 0]⟩
noncomputable def Ot:bL:=⟨[0,1],[],[.jO y0 13<|.cH .Add (.bZ .bb [.attr y1 7])<|.W<|.I 1,.jO y0 12<|.bZ .set []]⟩
noncomputable def Ou:bL:=⟨[0,1,2],[],[.aN 3<|.cH .Add (.cH .Mult (.ao y1<|.W<|.I 1)<|.attr y0 13)<|.ao y2<|.W<|.I 1,.aQ (.au .In y3<|.attr y0 12) [.aO<|.W<|.ad aa] [],.cu<|.aS (.attr y0 12) 6 [y3],.aO<|.W<|.ad ac]⟩
noncomputable def Ov:bL:=⟨[0,1,2],[],[.aN 3<|.aS y0 24 [y1],.for 4 1 [.cH .Sub (.aS y0 23 [y1])<|.W<|.I 1,.gq<|.W<|.I 1,.gq<|.W<|.I 1] [.cu<|.aS y2 0 [.ao (.attr y0 7)<|.cH .Add y3 y4]]]⟩
noncomputable def Ow:bL:=⟨[0,1,2,3],[],[.aN 4<|.aS y0 24 [y1],.aN 5<|.aS y0 24 [y2],.for 6 1 [.cH .Sub (.aS y0 23 [y1])<|.W<|.I 1,.gq<|.W<|.I 1,.gq<|.W<|.I 1] [.cu<|.aS y3 0 [.av [.ao (.attr y0 7)<|.cH .Add y4 y6,.ao (.attr y0 7)<|.cH .Add y5 y6]]]]⟩
noncomputable def Ox:bL:=⟨[0,1,2],[],[.aQ (.au .NotEq (.ao y1<|.W<|.I 0)<|.ao y2<|.W<|.I 0) [.aO<|.W<|.ad aa] [],.aQ (.au .Eq (.ao y1<|.W<|.I 0)<|.W<|.I 3) [.aO<|.W<|.ad ac] [],.aO<|.au .Eq (.ao (.attr y0 7)<|.ao y1<|.W<|.I 1)<|.ao (.attr y0 7)<|.ao y2<|.W<|.I 1]⟩
noncomputable def Oy:bL:=⟨[0],[],[.aO<|.or (.au .Eq (.ao y0<|.W<|.I 0)<|.W<|.I 0)<|.au .Eq (.ao y0<|.W<|.I 0)<|.W<|.I 1]⟩
noncomputable def Au:bL:=⟨[0,1,2,3],[],[.aN 4<|.bi (.W<|.c2 5) [y0],.aN 5<|.X [.av [y1,y2]],.while (.au .Gt (.bZ .bb [y5])<|.W<|.I 0) [.jS [6,7]<|.aS y5 3 [],.aN 6<|.aS y0 17 [y6],.aN 7<|.aS y0 17 [y7],.aQ (.au .Eq y6 y7) [.gm] [],.aQ (.bi (.W<|.aA 49) [y6]) [.aQ (.bi (.W<|.aA 49) [y7]) [.cu<|.aS y0 19 [y6,y7]] [.aQ (.gd<|.bi (.W<|.aA 51) [y0,y6,y7,y3]) [.aO<|.W<|.ad aa] []]] [.aQ (.bi (.W<|.aA 49) [y7]) [.aQ (.gd<|.bi (.W<|.aA 51) [y0,y7,y6,y3]) [.aO<|.W<|.ad aa] []] [.aQ (.dM (.aS y0 21 [y6])<|.bi (.W<|.aA 48) [y0,y6,y7]) [.aQ (.aS y4 6 [y6,y7]) [.cu<|.bi (.W<|.aA 47) [y0,y6,y7,y5]] []] [.aO<|.W<|.ad aa]]]],.aO<|.W<|.ad ac]⟩
noncomputable def OA:bL:=⟨[0,1,2,3],[],[.aQ (.dM y3<|.bi (.W<|.aA 52) [y0,y1,y2]) [.aO<|.W<|.ad aa] [],.cu<|.aS y0 18 [y1,y2],.aO<|.W<|.ad ac]⟩
noncomputable def Av:bL:=⟨[0,1,2],[],[.aN 2<|.aS y0 17 [y2],.aQ (.au .Eq y2 y1) [.aO<|.W<|.ad ac] [],.aQ (.or (.au .Eq (.ao y1<|.W<|.I 0)<|.W<|.I 1)<|.gd<|.aS y0 21 [y2]) [.aO<|.W<|.ad aa] [],.aN 3<|.bZ .set [],.aN 4<|.X [y2],.while (.au .Gt (.bZ .bb [y4])<|.W<|.I 0) [.aN 2<|.aS y0 17 [.aS y4 3 []],.aQ (.au .Eq y2 y1) [.aO<|.W<|.ad ac] [],.aQ (.dM (.aS y0 21 [y2])<|.au .NotIn (.ao y2<|.W<|.I 1) y3) [.cu<|.aS y3 6 [.ao y2<|.W<|.I 1],.cu<|.bi (.W<|.aA 46) [y0,y2,y4]] []],.aO<|.W<|.ad aa]⟩
noncomputable def OB:bL:=⟨[0],[],[.aN 1<|.ao y0<|.W<|.I 0,.aQ (.au .Eq y1<|.W<|.I 5) [.aO<|.W<|.I 1] [],.aQ (.au .Eq y1<|.W<|.I 4) [.aO<|.W<|.I 2] [],.aQ (.or (.au .Eq y1<|.W<|.I 2)<|.au .Eq y1<|.W<|.I 3) [.aO<|.W<|.I 3] [],.aO<|.W<|.I 0]⟩
noncomputable def OC:bL:=⟨[0,1],[],[.aQ (.au .Lt y0 y1) [.aO<|.gq<|.W<|.I 1] [],.aQ (.au .Gt y0 y1) [.aO<|.W<|.I 1] [],.aO<|.W<|.I 0]⟩
noncomputable def OD:bL:=⟨[0,1,2],[],[.aN 3<|.attr y0 10,.aN 4<|.aS y0 22 [y1],.aN 5<|.aS y0 22 [y2],.aQ (.au .Eq y4 y5) [.aO<|.W<|.I 0] [],.aN 6<|.bi (.W<|.aA 54) [.aS y3 13 [y4],.aS y3 13 [y5]],.aQ (.au .NotEq y6<|.W<|.I 0) [.aO y6] [],.aO<|.bi (.W<|.aA 54) [.aS y3 9 [.aS y3 12 [y4]],.aS y3 9 [.aS y3 12 [y5]]]]⟩
noncomputable def OE:bL:=⟨[0,1,2],[],[.aN 3<|.bi (.W<|.aA 53) [y1],.aN 4<|.bi (.W<|.aA 54) [y3,.bi (.W<|.aA 53) [y2]],.aQ (.au .NotEq y4<|.W<|.I 0) [.aO y4] [],.aQ (.au .Eq y3<|.W<|.I 0) [.aO<|.bi (.W<|.aA 54) [y1,y2]] [],.aQ (.au .Eq y3<|.W<|.I 1) [.aO<|.bi (.W<|.aA 54) [.ao y1<|.W<|.I 1,.ao y2<|.W<|.I 1]] [],.aQ (.au .Eq y3<|.W<|.I 2) [.aO<|.bi (.W<|.aA 54) [.aS (.attr y0 10) 9 [.ao y1<|.W<|.I 1],.aS (.attr y0 10) 9 [.ao y2<|.W<|.I 1]]] [],.aO<|.bi (.W<|.aA 55) [y0,y1,y2]]⟩
noncomputable def Aw:bL:=⟨[0,1,2],[],[.aN 3<|.bi (.W<|.c2 5) [y0],.aN 4<|.X [.av [y1,y2]],.while (.au .Gt (.bZ .bb [y4])<|.W<|.I 0) [.jS [5,6]<|.aS y4 3 [],.aN 5<|.aS y0 17 [y5],.aN 6<|.aS y0 17 [y6],.aQ (.au .Eq y5 y6) [.gm] [],.aN 7<|.bi (.W<|.aA 56) [y0,y5,y6],.aQ (.au .NotEq y7<|.W<|.I 0) [.aO y7] [],.aQ (.dM (.aS y0 21 [y5])<|.aS y3 6 [y5,y6]) [.cu<|.bi (.W<|.aA 47) [y0,y5,y6,y4]] []],.aO<|.W<|.I 0]⟩
noncomputable def Ax:bL:=⟨[0,1,2,3,4],[],[.aN 5<|.X [],.aN 6<|.W<|.I 0,.aN 7<|.W<|.I 0,.while (.dM (.au .Lt y6<|.bZ .bb [y2])<|.au .Lt y7<|.bZ .bb [y3]) [.aN 8<|.bi (.W<|.aA 57) [y0,.ao y1<|.ao y2 y6,.ao y1<|.ao y3 y7],.aQ (.au .LtE y8<|.W<|.I 0) [.cu<|.aS y5 0 [.ao y2 y6],.ik 6 .Add<|.W<|.I 1,.aQ (.dM (.au .Eq y8<|.W<|.I 0) y4) [.ik 7 .Add<|.W<|.I 1] []] [.cu<|.aS y5 0 [.ao y3 y7],.ik 7 .Add<|.W<|.I 1]],.cu<|.aS y5 1 [.f1 y2 y6],.cu<|.aS y5 1 [.f1 y3 y7],.aO y5]⟩
noncomputable def Fs:bL:=⟨[0,1,2,3],[],[.aQ (.au .Eq (.bZ .bb [y1])<|.W<|.I 0) [.aO<|.X []] [],.aN 4<|.X [],.aN 5<|.X [],.for 6 1 [.bZ .bb [y1]] [.aQ y3 [.cu<|.aS y4 0 [.aS y0 25 [.aS y0 17 [.ao y1 y6],.W<|.I 1]]] [.cu<|.aS y4 0 [.ao y1 y6]],.cu<|.aS y5 0 [.X [y6]]],.while (.au .Gt (.bZ .bb [y5])<|.W<|.I 1) [.aN 7<|.X [],.for 6 1 [.W<|.I 0,.cH .Sub (.bZ .bb [y5])<|.W<|.I 1,.W<|.I 2] [.cu<|.aS y7 0 [.bi (.W<|.aA 58) [y0,y4,.ao y5 y6,.ao y5<|.cH .Add y6<|.W<|.I 1,y2]]],.aQ (.au .Eq (.cH .Mod (.bZ .bb [y5])<|.W<|.I 2)<|.W<|.I 1) [.cu<|.aS y7 0 [.ao y5<|.gq<|.W<|.I 1]] [],.aN 5 y7],.aN 8<|.X [],.for 6 0 [.ao y5<|.W<|.I 0] [.cu<|.aS y8 0 [.ao y1 y6]],.aO y8]⟩
def OJ:bL:=⟨[0,1],[],[.jS [2,3]<|.aS (.attr y0 28) 28 [y1],.aQ (.dM (.au .NotEq (.ao y3<|.W<|.I 0)<|.W<|.I 0)<|.au .NotEq y3<|.W<|.av [.I 4,.I 0]) [.hW<|.bi (.W<|.aA 18) [.attr y0 10,.W<|.Z<|S "list",.aS y0 35 [y1]]] [],.aO y2]⟩
def OK:bL:=⟨[0,1],[],[.jS [2,3]<|.aS (.attr y0 28) 28 [y1],.aQ (.au .Eq (.ao y3<|.W<|.I 0)<|.W<|.I 0) [.hW<|.bi (.W<|.aA 17) [.attr y0 10]] [],.aQ (.au .NotEq y3<|.W<|.av [.I 4,.I 0]) [.hW<|.bi (.W<|.aA 18) [.attr y0 10,.W<|.Z<|S "list",.aS y0 35 [y1]]] [],.aO y2]⟩
noncomputable def OL:bL:=⟨[0,1],[],[.aO<|.dM (.au .Eq (.ao y1<|.W<|.I 0)<|.W<|.I 2)<|.au .Eq (.ao (.attr (.attr y0 28) 7)<|.ao y1<|.W<|.I 1)<|.av [.W<|.I 6,.W<|.I 13]]⟩
noncomputable def OM:bL:=⟨[0],[],[.aN 1<|.bi (.W<|.aA 61) [y0,.aS y0 25 [.W<|.I 1]],.cu<|.bi (.W<|.aA 60) [y0,.aS y0 25 [.W<|.I 2]],.aN 2<|.bi (.W<|.aA 59) [.attr y0 28,y1,.W<|.ad ac,.W<|.ad aa],.aO<|.aS y0 34 [.aS (.attr y0 28) 27 [y2],.aS y0 25 [.W<|.I 2]]]⟩
noncomputable def ON:bL:=⟨[0],[],[.aN 1<|.bi (.W<|.aA 61) [y0,.aS y0 25 [.W<|.I 1]],.cu<|.bi (.W<|.aA 60) [y0,.aS y0 25 [.W<|.I 2]],.aN 2<|.bi (.W<|.aA 59) [.attr y0 28,y1,.W<|.ad aa,.W<|.ad aa],.aO<|.aS y0 34 [.aS (.attr y0 28) 27 [y2],.aS y0 25 [.W<|.I 2]]]⟩
def Az:bL:=⟨[0],[],[.aN 1<|.bi (.W<|.aA 61) [y0,.aS y0 25 [.W<|.I 1]],.aN 2<|.bi (.W<|.aA 60) [y0,.aS y0 25 [.W<|.I 2]],.for 3 0 [y1] [.aQ (.au .Eq (.ao y3<|.W<|.I 0)<|.W<|.I 0) [.hW<|.bi (.W<|.aA 17) [.attr y0 10]] [],.aQ (.gd<|.bi (.W<|.aA 62) [y0,y3]) [.hW<|.bi (.W<|.aA 18) [.attr y0 10,.W<|.Z<|S "pair",.aS y0 35 [y3]]] []],.for 3 0 [y2] [.aQ (.dM (.au .NotEq (.ao y3<|.W<|.I 0)<|.W<|.I 0)<|.gd<|.bi (.W<|.aA 62) [y0,y3]) [.hW<|.bi (.W<|.aA 18) [.attr y0 10,.W<|.Z<|S "pair",.aS y0 35 [y3]]] []],.aN 4<|.bi (.W<|.aA 59) [.attr y0 28,y1,.W<|.ad aa,.W<|.ad ac],.aO<|.aS y0 34 [.aS (.attr y0 28) 27 [y4],.aS y0 25 [.W<|.I 2]]]⟩
noncomputable def uG:bL:=⟨[0,1,2],[],[.while (.au .LtE (.bZ .bb [.attr y0 29]) y1) [.cu<|.aS (.attr y0 29) 0 [.W<|.av [.I 5,.I 0]]],.eu (.attr y0 29) y1 y2]⟩
noncomputable def OO:bL:=⟨[0,1],[],[.aN 2<|.W<|.I 0,.for 3 0 [y1] [.ik 2 .Add<|.W<|.I 1,.cu<|.aS y0 32 [y2,y3]]]⟩
noncomputable def OQ:bL:=⟨[0,1],[],[.aO<|.aS (.attr y0 28) 20 [.ao (.attr y0 29) y1]]⟩
noncomputable def OR:bL:=⟨[0,1,2],[],[.aO<|.bi (.W<|.aA 50) [.attr y0 28,y1,y2,.attr y0 24]]⟩
noncomputable def OS:bL:=⟨[0,1],[],[.aO<|.aS (.attr y0 28) 30 [y1,.fZ]]⟩
noncomputable def OU:bL:=⟨[0,1],[],[.aQ (.au .Eq (.ao y0<|.W<|.I 2)<|.W<|.I 0) [.aQ (.au .Eq (.ao y0<|.W<|.I 1)<|.bZ .bb [.ao y0<|.W<|.I 0]) [.eu y0 (.W<|.I 3)<|.cH .Mod (.cH .Mult (.ao y0<|.W<|.I 3)<|.W<|.I 48271)<|.W<|.I 2147483647,.aO<|.cH .Mod (.cH .FloorDiv (.ao y0<|.W<|.I 3)<|.W<|.I 7) y1] [],.aN 2<|.ao (.ao y0<|.W<|.I 0)<|.ao y0<|.W<|.I 1,.eu y0 (.W<|.I 1)<|.cH .Add (.ao y0<|.W<|.I 1)<|.W<|.I 1,.eu y0 (.W<|.I 2)<|.aQ (.au .GtE y2<|.W<|.I 0) y2<|.gq y2] [],.aN 3<|.cH .Mod (.ao y0<|.W<|.I 2) y1,.eu y0 (.W<|.I 2)<|.cH .FloorDiv (.ao y0<|.W<|.I 2) y1,.aO y3]⟩
def AA:bL:=⟨[0,1],[],[.while (.dM (.au .Eq (.ao y0<|.W<|.I 0)<|.W<|.Z<|S "v")<|.au .In (.ao y0<|.W<|.I 1) y1) [.aN 0<|.ao y1<|.ao y0<|.W<|.I 1],.aO y0]⟩
def OV:bL:=⟨[0,1,2],[],[.aN 1<|.bi (.W<|.aA 88) [y1,y2],.aQ (.au .Eq (.ao y1<|.W<|.I 0)<|.W<|.Z<|S "s") [.aO<|.au .In (.W<|.ad ac)<|.fh (.bi (.W<|.aA 89) [y0,.loc 101,y2]) [101] 0 [.ao y1<|.W<|.I 2] []] [],.aO<|.au .Eq y1<|.av [.W<|.Z<|S "v",y0]]⟩
def OX:bL:=⟨[0,1,2],[],[.aN 0<|.bi (.W<|.aA 88) [y0,y2],.aN 1<|.bi (.W<|.aA 88) [y1,y2],.aQ (.au .Eq y0 y1) [.aO<|.W<|.ad ac] [],.aQ (.au .Eq (.ao y0<|.W<|.I 0)<|.W<|.Z<|S "v") [.aQ (.bi (.W<|.aA 89) [.ao y0<|.W<|.I 1,y1,y2]) [.aO<|.W<|.ad aa] [],.eu y2 (.ao y0<|.W<|.I 1) y1,.aO<|.W<|.ad ac] [],.aQ (.au .Eq (.ao y1<|.W<|.I 0)<|.W<|.Z<|S "v") [.aO<|.bi (.W<|.aA 90) [y1,y0,y2]] [],.aQ (.or (.au .NotEq (.ao y0<|.W<|.I 0)<|.W<|.Z<|S "s")<|.or (.au .NotEq (.ao y1<|.W<|.I 0)<|.W<|.Z<|S "s")<|.au .NotEq (.ao y0<|.W<|.I 1)<|.ao y1<|.W<|.I 1) [.aO<|.W<|.ad aa] [],.for 3 1 [.bZ .bb [.ao y0<|.W<|.I 2]] [.aQ (.gd<|.bi (.W<|.aA 90) [.ao (.ao y0<|.W<|.I 2) y3,.ao (.ao y1<|.W<|.I 2) y3,y2]) [.aO<|.W<|.ad aa] []],.aO<|.W<|.ad ac]⟩
def OY:bL:=⟨[0,1],[],[.aN 0<|.bi (.W<|.aA 88) [y0,y1],.aQ (.au .Eq (.ao y0<|.W<|.I 0)<|.W<|.Z<|S "s") [.aO<|.av [.W<|.Z<|S "s",.ao y0<|.W<|.I 1,.bZ .e6 [.fh (.bi (.W<|.aA 91) [.loc 101,y1]) [101] 0 [.ao y0<|.W<|.I 2] []]]] [],.aO y0]⟩
def OZ:bL:=⟨[0,1,2,3],[],[.aQ (.au .NotEq (.ao y0<|.W<|.I 0)<|.ao y1<|.W<|.I 0) [.aO<|.W<|.ad aa] [],.aQ (.au .Eq (.ao y0<|.W<|.I 0)<|.W<|.Z<|S "v") [.aQ (.dM (.au .NotIn (.ao y0<|.W<|.I 1) y2)<|.au .NotIn (.ao y1<|.W<|.I 1) y3) [.eu y2 (.ao y0<|.W<|.I 1)<|.ao y1<|.W<|.I 1,.eu y3 (.ao y1<|.W<|.I 1)<|.ao y0<|.W<|.I 1] [],.aO<|.dM (.au .Eq (.aS y2 5 [.ao y0<|.W<|.I 1,.gq<|.W<|.I 1])<|.ao y1<|.W<|.I 1)<|.au .Eq (.aS y3 5 [.ao y1<|.W<|.I 1,.gq<|.W<|.I 1])<|.ao y0<|.W<|.I 1] [],.aQ (.au .Eq (.ao y0<|.W<|.I 0)<|.W<|.Z<|S "s") [.aQ (.or (.au .NotEq (.ao y0<|.W<|.I 1)<|.ao y1<|.W<|.I 1)<|.au .NotEq (.bZ .bb [.ao y0<|.W<|.I 2])<|.bZ .bb [.ao y1<|.W<|.I 2]) [.aO<|.W<|.ad aa] [],.aO<|.au .NotIn (.W<|.ad aa)<|.fh (.bi (.W<|.aA 92) [.ao (.ao y0<|.W<|.I 2)<|.loc 101,.ao (.ao y1<|.W<|.I 2)<|.loc 101,y2,y3]) [101] 1 [.bZ .bb [.ao y0<|.W<|.I 2]] []] [],.aO<|.dM (.au .Eq (.ao y0<|.W<|.I 1)<|.ao y1<|.W<|.I 1)<|.gd<|.bZ .hS [.ao y1<|.W<|.I 1]]⟩
def O0:bL:=⟨[0,1,2],[],[.aN 3<|.fh (.aQ (.bZ .isStr [.loc 101]) (.av [.W<|.Z<|S "a",.aS y0 8 [.loc 101]])<|.loc 101) [101] 0 [y2] [],.aN 4<|.av [.W<|.Z<|S "s",.aS y0 11 [y1,.bZ .bb [y3]],.bZ .e6 [y3]],.aQ (.au .Eq y3<|.X []) [.aN 4<|.av [.W<|.Z<|S "a",.aS y0 8 [y1]]] [],.aO<|.av [.W<|.Z<|S "error",.av [.W<|.Z<|S "s",.W<|.I 16,.av [y4,.av [.W<|.Z<|S "a",.W<|.I 25]]]]]⟩
def O1:bL:=⟨[0,1,2,3],[],[.aN 4<|.fZ,.aN 5<|.fh (.aS (.attr y0 28) 29 [.loc 101,y4]) [101] 0 [y2] [],.cu<|.aS y0 33 [y5],.try [.aN 6<|.bi y1 [y0]] 7 [.aO<|.dM (.au .Eq (.ao y3<|.W<|.I 0)<|.W<|.Z<|S "error")<|.bi (.W<|.aA 92) [.ao y3<|.W<|.I 1,.attr y7 0,.fZ,.fZ]],.aQ (.au .Eq (.ao y3<|.W<|.I 0)<|.W<|.Z<|S "error") [.aO<|.W<|.ad aa] [],.aN 8<|.fZ,.for 9 0 [.ao y3<|.W<|.I 1] [.aQ (.gd<|.bi (.W<|.aA 90) [.ao y9<|.W<|.I 0,.ao y9<|.W<|.I 1,y8]) [.aO<|.gd y6] []],.aQ (.gd y6) [.aO<|.W<|.ad aa] [],.aN 10<|.fZ,.aN 11<|.fZ,.aN 12<|.fZ,.for 13 1 [.bZ .bb [y2]] [.aQ (.gd<|.bi (.W<|.aA 92) [.bi (.W<|.aA 91) [.ao y2<|.loc 13,y8],.aS (.attr y0 28) 30 [.ao y5<|.loc 13,.loc 10],.loc 11,.loc 12]) [.aO<|.W<|.ad aa] []],.aO<|.W<|.ad ac]⟩
def Fu:bL:=⟨[0,1],[],[.for 2 0 [.g0 y0] [.aN 1<|.av [.W<|.Z<|S "s",.W<|.I 0,.av [y2,y1]]],.aO y1]⟩
def O2:bL:=⟨[0,1],[],[.aN 2<|.bi (.W<|.aA 87) [y0,.W<|.I 10],.aQ (.au .Eq y2<|.W<|.I 9) [.aO<|.av [.W<|.Z<|S "v",.W<|.I 0]] [],.aQ (.au .Gt y2<|.W<|.I 4) [.aO<|.av [.W<|.Z<|S "i",.aQ (.au .Lt y2<|.W<|.I 8) (.cH .Sub (.bi (.W<|.aA 87) [y0,.W<|.I 4])<|.W<|.I 1)<|.cH .Sub (.bi (.W<|.aA 87) [y0,.cH .Pow (.W<|.I 10)<|.W<|.I 20])<|.cH .Pow (.W<|.I 10)<|.W<|.I 19]] [],.aO<|.av [.W<|.Z<|S "a",.aS y1 8 [.ao (.X [.W<|.Z<|S "[]",.W<|.Z<|S "b",.W<|.Z<|S "ab",.W<|.Z<|S "",.W<|.Z<|S "B",.W<|.Z<|S "b1"])<|.bi (.W<|.aA 87) [y0,.W<|.I 6]]]]⟩
def O3:bL:=⟨[0,1,2],[],[.aN 3<|.bi (.W<|.aA 87) [y0,.W<|.I 6],.aQ (.or (.au .Lt y3<|.W<|.I 3)<|.au .Eq y2<|.W<|.I 0) [.aO<|.bi (.W<|.aA 96) [y0,y1]] [],.aN 4<|.ao (.X [.aS y1 11 [.W<|.Z<|S "f",.W<|.I 1],.W<|.I 0,.aS y1 11 [.W<|.Z<|S "f",.W<|.I 2]])<|.cH .Sub y3<|.W<|.I 3,.aQ (.dM (.au .Eq y3<|.W<|.I 3)<|.au .Eq (.bi (.W<|.aA 87) [y0,.W<|.I 2])<|.W<|.I 0) [.aN 4<|.aS y1 11 [.W<|.Z<|S "ab",.W<|.I 1]] [],.aO<|.av [.W<|.Z<|S "s",y4,.bZ .e6 [.fh (.bi (.W<|.aA 97) [y0,y1,.cH .Sub y2<|.W<|.I 1]) [101] 1 [.aQ (.au .Eq y3<|.W<|.I 3) (.W<|.I 1)<|.W<|.I 2] []]]]⟩
def O4:bL:=⟨[0,1,2],[],[.aN 3<|.X [.W<|.Z<|S "v",.W<|.Z<|S "i",.W<|.Z<|S "a",.W<|.Z<|S "s"],.aQ (.au .NotEq (.ao y1<|.W<|.I 0)<|.ao y2<|.W<|.I 0) [.aO<|.au .Lt (.aS y3 4 [.ao y1<|.W<|.I 0])<|.aS y3 4 [.ao y2<|.W<|.I 0]] [],.aQ (.au .Eq (.ao y1<|.W<|.I 0)<|.W<|.Z<|S "i") [.aO<|.au .Lt (.ao y1<|.W<|.I 1)<|.ao y2<|.W<|.I 1] [],.aQ (.au .Eq (.ao y1<|.W<|.I 0)<|.W<|.Z<|S "a") [.aO<|.au .Lt (.fh (.bZ .f8 [.loc 101]) [101] 0 [.aS y0 9 [.ao y1<|.W<|.I 1]] [])<|.fh (.bZ .f8 [.loc 101]) [101] 0 [.aS y0 9 [.ao y2<|.W<|.I 1]] []] [],.aQ (.or (.au .Eq (.ao y1<|.W<|.I 0)<|.W<|.Z<|S "v")<|.au .Eq y1 y2) [.aO<|.W<|.ad aa] [],.aQ (.au .NotEq (.bZ .bb [.ao y1<|.W<|.I 2])<|.bZ .bb [.ao y2<|.W<|.I 2]) [.aO<|.au .Lt (.bZ .bb [.ao y1<|.W<|.I 2])<|.bZ .bb [.ao y2<|.W<|.I 2]] [],.aQ (.au .NotEq (.ao y1<|.W<|.I 1)<|.ao y2<|.W<|.I 1) [.aO<|.bi (.W<|.aA 98) [y0,.av [.W<|.Z<|S "a",.aS y0 12 [.ao y1<|.W<|.I 1]],.av [.W<|.Z<|S "a",.aS y0 12 [.ao y2<|.W<|.I 1]]]] [],.for 4 1 [.bZ .bb [.ao y1<|.W<|.I 2]] [.aQ (.au .NotEq (.ao (.ao y1<|.W<|.I 2) y4)<|.ao (.ao y2<|.W<|.I 2) y4) [.aO<|.bi (.W<|.aA 98) [y0,.ao (.ao y1<|.W<|.I 2) y4,.ao (.ao y2<|.W<|.I 2) y4]] []],.aO<|.W<|.ad aa]⟩
noncomputable def wY:bL:=⟨[0,1,2],[],[.aN 3<|.X [],.for 4 0 [y1] [.aN 5<|.bZ .bb [y3],.while (.dM (.au .Gt y5<|.W<|.I 0)<|.bi (.W<|.aA 98) [y0,.aQ y2 (.ao (.ao y4<|.W<|.I 2)<|.W<|.I 0) y4,.aQ y2 (.ao (.ao (.ao y3<|.cH .Sub y5<|.W<|.I 1)<|.W<|.I 2)<|.W<|.I 0)<|.ao y3<|.cH .Sub y5<|.W<|.I 1]) [.ik 5 .Sub<|.W<|.I 1],.cu<|.aS y3 2 [y5,y4]],.aO y3]⟩
def wW:bL:=⟨[0,1,2,3,4],[],[.aQ (.au .Eq (.ao y2<|.W<|.I 0)<|.W<|.Z<|S "v") [.aO<|.bi (.W<|.aA 93) [y0,.W<|.Z<|S "instantiation_error",.X []]] [],.aQ (.au .NotEq y2<|.av [.W<|.Z<|S "a",.W<|.I 0]) [.aO<|.bi (.W<|.aA 93) [y0,.W<|.Z<|S "type_error",.X [.W<|.Z<|S "list",.bi (.W<|.aA 95) [y1,y2]]]] [],.aN 5<|.X [],.aN 6 y3,.while (.dM (.au .Eq (.ao y6<|.W<|.I 0)<|.W<|.Z<|S "s")<|.au .Eq (.ao y6<|.W<|.I 1)<|.W<|.I 0) [.cu<|.aS y5 0 [.ao (.ao y6<|.W<|.I 2)<|.W<|.I 0],.aN 6<|.ao (.ao y6<|.W<|.I 2)<|.W<|.I 1],.aQ (.dM (.au .NotEq (.ao y6<|.W<|.I 0)<|.W<|.Z<|S "v")<|.au .NotEq y6<|.av [.W<|.Z<|S "a",.W<|.I 0]) [.aO<|.bi (.W<|.aA 93) [y0,.W<|.Z<|S "type_error",.X [.W<|.Z<|S "list",y3]]] [],.aQ (.au .Eq y4<|.W<|.I 2) [.for 7 0 [y1] [.aQ (.au .Eq (.ao y7<|.W<|.I 0)<|.W<|.Z<|S "v") [.aO<|.bi (.W<|.aA 93) [y0,.W<|.Z<|S "instantiation_error",.X []]] [],.aQ (.or (.au .NotEq (.ao y7<|.W<|.I 0)<|.W<|.Z<|S "s")<|.au .NotEq (.ao y7<|.W<|.I 1)<|.W<|.I 13) [.aO<|.bi (.W<|.aA 93) [y0,.W<|.Z<|S "type_error",.X [.W<|.Z<|S "pair",y7]]] []],.for 7 0 [y5] [.aQ (.dM (.au .NotEq (.ao y7<|.W<|.I 0)<|.W<|.Z<|S "v")<|.or (.au .NotEq (.ao y7<|.W<|.I 0)<|.W<|.Z<|S "s")<|.au .NotEq (.ao y7<|.W<|.I 1)<|.W<|.I 13) [.aO<|.bi (.W<|.aA 93) [y0,.W<|.Z<|S "type_error",.X [.W<|.Z<|S "pair",y7]]] []]] [],.aN 8<|.bi (.W<|.aA 99) [y0,y1,.au .Eq y4<|.W<|.I 2],.aQ (.au .Eq y4<|.W<|.I 0) [.aN 8<|.fh (.ao y8<|.loc 101) [101] 1 [.bZ .bb [y8]] [.or (.au .Eq (.loc 101)<|.W<|.I 0)<|.au .NotEq (.ao y8<|.loc 101)<|.ao y8<|.cH .Sub (.loc 101)<|.W<|.I 1]] [],.aO<|.av [.W<|.Z<|S "holds",.X [.av [y3,.bi (.W<|.aA 95) [y8,.av [.W<|.Z<|S "a",.W<|.I 0]]]]]]⟩
noncomputable def N6:bL:=⟨[0],[],[.aO<|.bi (.W<|.aA 65) [y0]]⟩
def N7:bL:=⟨[0],[],[.aN 1<|.f9 y0<|.W<|.I 63,.aN 2<|.X [y1,.W<|.I 0,.W<|.I 0,.cH .Mult (.cH .Mod (.bZ .sum [y1])<|.W<|.I 100003)<|.W<|.I 7],.aN 3<|.bi (.W<|.c2 2) [],.aN 4<|.bi (.W<|.c2 6) [y3,.X []],.aN 5<|.X [.W<|.aA 63,.W<|.aA 64,.W<|.aA 101],.for 6 0 [.aQ (.au .Eq (.bi (.W<|.aA 87) [y2,.W<|.I 2])<|.W<|.I 1) (.X [.W<|.I 0,.W<|.I 1,.W<|.I 2])<|.X [.W<|.I 2]] [.aN 7<|.X [],.aN 8<|.au .Eq (.bi (.W<|.aA 87) [y2,.W<|.I 8])<|.W<|.I 7,.for 9 1 [.bi (.W<|.aA 87) [y2,.W<|.I 8]] [.aN 10<|.bi (.W<|.aA 97) [y2,y3,.W<|.I 2],.aQ (.dM (.au .Eq y6<|.W<|.I 2)<|.or (.gd y8)<|.au .Gt (.bi (.W<|.aA 87) [y2,.W<|.I 4])<|.W<|.I 0) [.aN 10<|.av [.W<|.Z<|S "s",.W<|.I 13,.av [.aQ (.au .Eq (.bi (.W<|.aA 87) [y2,.W<|.I 2])<|.W<|.I 0) (.loc 10)<|.av [.W<|.Z<|S "i",.W<|.I 1],.bi (.W<|.aA 96) [y2,y3]]]] [],.aQ (.dM (.au .NotEq y7<|.X [])<|.au .Eq (.bi (.W<|.aA 87) [y2,.W<|.I 4])<|.W<|.I 3) [.aN 10<|.ao y7<|.bi (.W<|.aA 87) [y2,.bZ .bb [y7]]] [],.cu<|.aS y7 0 [.loc 10]],.aN 11<|.av [.W<|.Z<|S "a",.W<|.I 0],.aQ (.au .Eq (.bi (.W<|.aA 87) [y2,.W<|.I 10])<|.W<|.I 9) [.aN 11<|.ao (.X [.av [.W<|.Z<|S "v",.W<|.I 5],.av [.W<|.Z<|S "a",.aS y3 8 [.W<|.Z<|S "b"]]])<|.bi (.W<|.aA 87) [y2,.W<|.I 2]] [],.aN 12<|.bi (.W<|.aA 87) [y2,.W<|.I 6],.aN 13<|.av [.W<|.Z<|S "v",.W<|.I 9],.aQ (.au .Gt (.loc 12)<|.W<|.I 1) [.aN 14<|.f2 y7,.aQ (.au .Lt (.loc 12)<|.W<|.I 4) [.aN 15<|.bi (.W<|.aA 100) [y3,y7,.loc 11,.loc 13,y6],.aN 14<|.X [],.aN 16<|.aQ (.au .Eq (.ao (.loc 15)<|.W<|.I 0)<|.W<|.Z<|S "holds") (.ao (.ao (.ao (.loc 15)<|.W<|.I 1)<|.W<|.I 0)<|.W<|.I 1)<|.loc 11,.while (.dM (.au .Eq (.ao (.loc 16)<|.W<|.I 0)<|.W<|.Z<|S "s")<|.au .Eq (.ao (.loc 16)<|.W<|.I 1)<|.W<|.I 0) [.cu<|.aS (.loc 14) 0 [.ao (.ao (.loc 16)<|.W<|.I 2)<|.W<|.I 0],.aN 16<|.ao (.ao (.loc 16)<|.W<|.I 2)<|.W<|.I 1]] [],.aN 14<|.fh (.aQ (.au .Gt (.bi (.W<|.aA 87) [y2,.W<|.I 3])<|.W<|.I 0) (.loc 102)<|.av [.W<|.Z<|S "v",.cH .Add (.W<|.I 10)<|.loc 101]) [101,102] 2 [.loc 14] [],.aN 17<|.X [.av [.W<|.Z<|S "a",.W<|.I 0],.av [.W<|.Z<|S "v",.W<|.I 20],.av [.W<|.Z<|S "a",.W<|.I 0],.av [.W<|.Z<|S "i",.W<|.I 3],.av [.W<|.Z<|S "s",.W<|.I 0,.av [.av [.W<|.Z<|S "i",.W<|.I 1],.av [.W<|.Z<|S "v",.W<|.I 21]]]],.aN 13<|.bi (.W<|.aA 95) [.loc 14,.ao (.loc 17)<|.bi (.W<|.aA 87) [y2,.W<|.I 5]]] [],.aN 15<|.bi (.W<|.aA 100) [y3,y7,.loc 11,.loc 13,y6],.aQ (.gd<|.bi (.W<|.aA 94) [y4,.ao y5 y6,.X [.bi (.W<|.aA 95) [y7,.loc 11],.loc 13],.loc 15]) [.aO<|.W<|.ad aa] []],.aO<|.W<|.ad ac]⟩
def Pa:bN 2=J Fn:=by kernel_rfl
def Ph:bN 3=J Fq:=by kernel_rfl
def Pm:bN 4=J Ap:=by kernel_rfl
def FG:bN 5=J Oz:=by kernel_rfl
def Pt:bN 6=J OI:=by kernel_rfl
def FM:bN 7=J OP:=by kernel_rfl
def Pz:bN 8=J OT:=by kernel_rfl
def PB:bN 9=J OW:=by kernel_rfl
def O6:bN 10=J N5:=by kernel_rfl
def O7:bN 15=J N_:=by kernel_rfl
def O8:bN 16=J Oa:=by kernel_rfl
def O9:bN 17=J Ob:=by kernel_rfl
def O_:bN 18=J Oc:=by kernel_rfl
def Pb:bN 21=J Od:=by kernel_rfl
def Pc:bN 22=J Oe:=by kernel_rfl
def Pd:bN 23=J Fo:=by kernel_rfl
def Pe:bN 25=J Fp:=by kernel_rfl
def Pf:bN 27=J Of:=by kernel_rfl
def Fx:bN 28=J Og:=by kernel_rfl
def Pg:bN 29=J Oh:=by kernel_rfl
def Pj:bN 33=J Oi:=by kernel_rfl
def Fy:bN 34=J Oj:=by kernel_rfl
def Fz:bN 35=J Ok:=by kernel_rfl
def Pk:bN 36=J Ol:=by kernel_rfl
def Pl:bN 37=J Om:=by kernel_rfl
def FA:bN 38=J Oo:=by kernel_rfl
def FC:bN 40=J Aq:=by kernel_rfl
def Pn:bN 41=J Ar:=by kernel_rfl
def uI:bN 42=J rZ:=by kernel_rfl
def Po:bN 43=J At:=by kernel_rfl
def Pp:bN 44=J Ot:=by kernel_rfl
def FD:bN 45=J Ou:=by kernel_rfl
def FE:bN 46=J Ov:=by kernel_rfl
def FF:bN 47=J Ow:=by kernel_rfl
def sa:bN 48=J Ox:=by kernel_rfl
def Pq:bN 49=J Oy:=by kernel_rfl
def FH:bN 50=J Au:=by kernel_rfl
def FI:bN 51=J OA:=by kernel_rfl
def wZ:bN 52=J Av:=by kernel_rfl
def Pr:bN 53=J OB:=by kernel_rfl
def sd:bN 54=J OC:=by kernel_rfl
def AC:bN 55=J OD:=by kernel_rfl
def w0:bN 56=J OE:=by kernel_rfl
def FJ:bN 57=J Aw:=by kernel_rfl
def Ps:bN 58=J Ax:=by kernel_rfl
def FK:bN 59=J Fs:=by kernel_rfl
def AD:bN 60=J OJ:=by kernel_rfl
def AE:bN 61=J OK:=by kernel_rfl
def AF:bN 62=J OL:=by kernel_rfl
def w1:bN 63=J OM:=by kernel_rfl
def w2:bN 64=J ON:=by kernel_rfl
def se:bN 65=J Az:=by kernel_rfl
def FL:bN 68=J uG:=by kernel_rfl
def Pu:bN 69=J OO:=by kernel_rfl
def Pw:bN 70=J OQ:=by kernel_rfl
def Px:bN 71=J OR:=by kernel_rfl
def Py:bN 72=J OS:=by kernel_rfl
def w3:bN 87=J OU:=by kernel_rfl
def PA:bN 88=J AA:=by kernel_rfl
def AG:bN 89=J OV:=by kernel_rfl
def lC:bN 90=J OX:=by kernel_rfl
def AH:bN 91=J OY:=by kernel_rfl
def sf:bN 92=J OZ:=by kernel_rfl
def FN:bN 93=J O0:=by kernel_rfl
def AI:bN 94=J O1:=by kernel_rfl
def PC:bN 95=J Fu:=by kernel_rfl
def w4:bN 96=J O2:=by kernel_rfl
def sg:bN 97=J O3:=by kernel_rfl
def lD:bN 98=J O4:=by kernel_rfl
def PD:bN 99=J wY:=by kernel_rfl
def pb:bN 100=J wW:=by kernel_rfl
def Fv:bN 101=J N6:=by kernel_rfl
def Fw:bN 102=J N7:=by kernel_rfl
end
section
open PySem
set_option genCtorIdx true in
inductive ag where
 |ref (a:Nat)|Z (a:Nat)|b0 (a:Nat)|a5 (k:Nat)|I (z:Int)|aA (f:Nat)
 deriving DecidableEq,Inhabited
abbrev bh:=List ag
noncomputable def an:ag->V|.ref a=>.av [.I 0,.I a]|.Z a=>.av [.I 2,.I a]|.b0 a=>.av [.I 3,.I a]|.a5 k=>.av [.I 4,.I k]|.I z=>.av [.I 5,.I z]|.aA f=>.av [.I 6,.I f]
def af:T->V|.v n=>.av [.Z<|S "v",.I n]|.i z=>.av [.Z<|S "i",.I z]|.a k=>.av [.Z<|S "a",.I k]|.ay f x=>.av [.Z<|S "s",.I f,.av [af x]]|.ak f x b=>.av [.Z<|S "s",.I f,.av [af x,af b]]
set_option genInjectivity false
structure aw where
 bf:List (List Nat)
 aW:List<|Nat×Nat
noncomputable def kU (a:Nat×Nat):V:=.av [.I a.1,.I a.2]
noncomputable def ke (b:List<|List Nat):O:=if b=[]then .dE else .dS<|b.zipIdx.map λa=>(a.1,.I a.2)
noncomputable def ki (b:List<|Nat×Nat):O:=if b=[]then .dE else .dT<|b.zipIdx.map λa=>([(a.1.1:Int),(a.1.2:Int)],.I a.2)
structure aM where
 cells:List Int
 io:Nat
 nr:Nat
 lH:Nat
 nm:aw
 H:bh
 xs:List V
noncomputable def aM.at (w:aM) (b:aw) (a:bh):aM:=⟨w.cells,w.io,w.nr,w.lH,b,a,w.xs⟩
noncomputable def aM.sH (w:aM) (H:bh):aM:={w with H:=H}
noncomputable def aM.sN (w:aM) (nm:aw):aM:={w with nm:=nm}
noncomputable def aM.sX (w:aM) (xs:List V):aM:={w with xs:=xs}
noncomputable def aM.sK (w:aM) (k n s:Nat):aM:={w with io:=k,nr:=n,lH:=s}
theorem aM.k9 (w:aM) (a:bh):(w.sH a).H=a:=rfl
noncomputable def xF:O:=.a3 2 [(4,.ref 3),(1,.ref 4),(3,.ref 5),(2,.ref 6)]
def Hh:O:=.a3 6 [(10,.ref 2),(17,.ref 7),(8,.I 100000),(24,.ad ac),(22,.I 4096),(28,.ref 9),(29,.ref 13),(25,.I 0),(19,.I 0),(20,.I<|-1),(14,.I<|-1),(15,.I<|-1),(23,.Z<|S "read"),(27,.I 0),(21,.av [.I 5,.I 0]),(26,.ref 14),(16,.ref 15),(18,.ad aa)]
noncomputable def Ja:O:=.a3 4 [(10,.ref 2),(8,.I 100000),(7,.ref 10),(9,.ref 11),(11,.ref 12),(6,.I 0),(5,.I 0)]
def mk (w:aM) (L:List O):ae:=[.X<|w.cells.map .I,.X [.ref 0,.I w.io,.I w.nr,.I w.lH],xF,.X<|w.nm.bf.map .Z,ke w.nm.bf,.X<|w.nm.aW.map kU,ki w.nm.aW,.X [],Hh,Ja,.X<|w.H.map an,.X [],.X [],.X w.xs,.X [],.dE,.X [.aA 63,.aA 64,.aA 101]]++L
section
variable (w:aM) (L l:List O) (i:Nat) (o:O)
theorem xa:(mk w L)[10]?=J (.X<|w.H.map an):=rfl
theorem PZ:(mk w L)[13]?=J (.X w.xs):=rfl
theorem TF (H:bh):(mk w L).set 10 (.X<|H.map an)=mk (w.sH H) L:=rfl
def Ht:mk w L++l=mk w (L++l):=bD _ L l
theorem Hu:(mk w L).length=17+L.length:=bH.trans rfl
def lG:(mk w L)[17+i]?=L[i]?:=(mY<|ck 17 i).trans (al (L[·]?)<|pK 17 i)
def x8:(mk w L).set (17+i) o=mk w (L.set i o):=(vR _ _<|ck 17 i).trans<|al (λz=>mk w<|L.set z o)<|pK 17 i
def P5:(mk w<|L++l)[17+L.length+i]?=l[i]?:=U (iC 17 _ _) ((lG w _ _).trans ((mY<|ck _ i).trans (al (l[·]?)<|pK _ i)))
def TL:(mk w<|L++l).set (17+L.length+i) o=mk w (L++l.set i o):=U (iC 17 _ _)<|(x8 w _ _ o).trans<|(al (mk w)<|vR _ _<|ck _ i).trans<|al (λz=>mk w<|L++l.set z o)<|pK _ i
end
section
variable {u p:Type} {q:ae}
def EY (n:Nat) (s:String):gQ n (.Z<|S s)=ac:=vM.mpr λc f=>ah (rc.mp f) λa _ b=>decide_eq_true<|am b<|a.valid.elim (λh=>iF h<|by decide) λh=>h.2
def Fd (a b:String):pa (.Z<|S a) (.Z<|S b) q=J (bj<|a=b):=by
 show(if gQ kh (.Z<|S a)&&gQ kh (.Z<|S b)then J<|bj<|S a=S b else Y)=_
 exact(aK<|U (EY kh a)<|EY kh b).trans (al J (decide_eq_decide.mpr (iff_of_eq ((by
   apply propext
   constructor
   ·intro h
    exact Xy.mp<|Jw h
   ·rintro rfl;rfl)))))
noncomputable def bU:ag->Int|.ref _=>0|.Z _=>2|.b0 _=>3|.a5 _=>4|.I _=>5|.aA _=>6
noncomputable def cp:ag->Int|.ref a=>a|.Z a=>a|.b0 a=>a|.a5 k=>k|.I z=>z|.aA f=>f
def EN (c:ag):an c=.av [.I<|bU c,.I<|cp c]:=by cases c<;>rfl
noncomputable def Es (a n:Int):ag:=if a=0 then .ref n.toNat else if a=2 then .Z n.toNat else if a=3 then .b0 n.toNat else if a=4 then .a5 n.toNat else if a=5 then .I n else .aA n.toNat
def Et (c:ag):Es (bU c) (cp c)=c:=by cases c<;>rfl
def Fb (a b:ag):pa (an a) (an b) q=J (bj<|a=b):=by refine U (EN a)<|U (EN b) ?_;show J (bj (bU a=bU b)&&(bj (cp a=cp b)&&ac))=_;exact al J<|U (nJ _)<|(Cm _ _).symm.trans<|decide_eq_decide.mpr ⟨λh=>(Et a).symm.trans<|(congr (al Es h.1) h.2).trans<|Et b,λh=>U h ⟨rfl,rfl⟩⟩
def iO (c:ag):go (an c) (.I 0) q=J (.I<|bU c):=by cases c<;>rfl
def kj (c:ag):go (an c) (.I 1) q=J (.I<|cp c):=by cases c<;>rfl
def mD (B:Bool) (n:Nat) {l:List V} (h:q[n]?=J (.X l)):e_ B .bb [.ref n] q=J (.ok<|.I l.length,q):=by
 show(match q[n]?with
  |some (.X l)=>ok (V.I l.length) q|some .dE=>ok (.I 0) q|some (.dI l)=>if l.length<=ar then ok (.I l.length) q else Y|_=>Y)=_
 exact U h rfl
def iq {n:Nat} {l:List V} {i:Nat} (h:q[n]?=J (.X l)) (a:l[i]?=J v):go (.ref n) (.I i) q=J v:=by show((q[n]?).bind λo=>xo o<|.I i)=_;rw[h];show(if(0:Int)<=i then l[(i:Int).toNat]?else if 0<=(l.length:Int)+i then l[((l.length:Int)+i).toNat]?else Y)=_;rw[aK<|lf i];exact a
def sw {n:Nat} {l:List V} (h:q[n]?=J (.X l)):kW (.ref n) q=J l:=by show(match q[n]?with|some (.X l)=>J l|_=>Y)=J l;rw[h]
def ga {w:aM} {L:List O} {a:Nat} {c:ag} (b:w.H[a]?=J c):go (.ref 10) (.I a) (mk w L)=J (an c):=iq (xa w L)<|by rw[lg,b];rfl
end
def Hv (v:V) (q:ae):R V:=match v with|.I i=>ok (.I<|-i) q|_=>Y
def qk (d:Nat->List V->ae->R V) (v:V) (A:List V) (q:ae):R V:=match v with
 |.aA k=>d k A q|.c2 1=>match A with|[x]=>iJ (.a3 1 [(0,x)]) q|_=>Y
 |.c2 c=>match pe.lookup c with|some k=>br (d k (.ref q.length::A)<|q++[.a3 c []]) λr a=>if qA r then ok (.ref q.length) a else Y|none=>Y
 |_=>Y
def fM (d:Nat->List V->ae->R V) (n m:Nat) (A:List V) (q:ae):R V:=match q[n]?with
 |some (.a3 c _)=>match kX.lookup (c,m)with|some k=>d k (.ref n::A) q|none=>Y
 |_=>iu n m A q
def XP (d:Nat->List V->ae->R V) (v:V) (m:Nat) (k:ae->R (List V)) (q:ae):R V:=match v with
 |.ref n=>match q[n]?with|some o=>if mO o m then br (k q) λA q=>fM d n m A q else Y|none=>Y
 |_=>Y
def pv (f:List V->Nat->List V) (v a:V) (q:ae):R V:=match kW v q,a with|some l,.I i=>if 0<=i/\i<=ar then ew (f l i.toNat) q else Y|_,_=>Y
def pG (f:List V->List V) (v:V) (q:ae):R V:=match kW v q with|some l=>ew (f l) q|none=>Y
def XG (f:cB->R (List V)) (o:Option cB):R V:=match o with|some a=>br (f a) λl q=>ew l q|none=>Y
section
variable {d:Nat->List V->ae->R V} {y:Bool->Nat->List V->ae->R V} {B:Bool} {Q:ap} {q:ae} {a b c:a_} {j:List a_}
noncomputable def sT (r:cx) (k:ap->ae->cx):cx:=match r with|some (.ok .a1 Q q)=>k Q q|x=>x
def Ml (o:Option V) (x:Nat) (b:nP) (r:R V) (Q:ap):cx:=match o with
 |some a=>fg r Q λv q=>match b,hO b a v with|.Add,J r=>J<|.ok .a1 (aB Q x r) q|.Sub,J r=>J<|.ok .a1 (aB Q x r) q|_,_=>Y
 |none=>Y
noncomputable def PM (r:R<|List V) (Q:ap) (b:List V->Option cB) (k:cB->ae->cx):cx:=match r with
 |some (.ok A,q)=>match b A with|some a=>k a q|none=>Y
 |some (.error a,q)=>J<|.a4 a Q q|none=>Y
noncomputable def xX (v:V) (Q:ap) (q:ae):cx:=match v with
 |.ref n=>match q[n]?with|some (.a3 1 a)=>J<|.a4 n Q<|q.set n<|.a3 7 a|_=>Y
 |_=>Y
noncomputable def z8 (a b:V) (Q:ap) (q:ae):cx:=match a,b with
 |.ref n,.I i=>match q[n]?with|some (.X l)=>if 0<=i/\i<=l.length then J<|.ok .a1 Q<|q.set n<|.X<|l.take i.toNat else Y|_=>Y
 |_,_=>Y
variable {t e:List cA} {s:cA}
theorem Ta (x:Nat) (b:nP):fj y (.ik x b a) B Q q=Ml (Q x) x b (aU (y B) B a Q q) Q:=rfl
theorem Tb (x a:Nat):fj y (.for x a j t) B Q q=PM (gn (y B) B j Q q) Q (gb B a) λb q=>mJ x (λQ q=>bG y t B Q q) b Q q:=rfl
theorem Tc:fj y (.hW a) aa Q q=fg (aU (y aa) aa a Q q) Q λv q=>xX v Q q:=rfl
def M0 {n:Nat} {f:bL} {A:List V} {Q:ap} (h:bN k=J f) (a:kM f.params f.np A=J Q):dT (n+1) B k A q=lE (bG (dT n) f.body B Q q):=by
 show(match bN k with
  |some f=>match kM f.params f.np A with|some Q=>lE<|bG (dT n) f.body B Q q|none=>Y
  |none=>Y)=_
 refine U h ?_
 show(match kM f.params f.np A with
   |some Q=>lE<|bG (dT n) f.body B Q q|none=>Y)=_
 exact U a rfl
end
def uh {a b:Int} (c:small a=ac) (f:small b=ac):hO .Mult (.I a) (.I b)=J (.I<|a*b):=aK<|U c f
section
variable {d:Nat->List V->ae->R V} {q:ae} {n m:Nat} {g:ae->R (List V)} {A:List V} {w:aM} {L l:List O} {i:Nat}
def jB {o:O} (h:q[n]?=J o) (a:dm o<3):fM d n m A q=iu n m A q:=by
 show(match q[n]?with
  |some (.a3 c _)=>match kX.lookup (c,m)with|some k=>d k (.ref n::A) q|none=>Y
  |_=>iu n m A q)=_
 refine U h ?_;cases o with
 |a3 c b=>exact(oB.mpr (ck 3 c) a).elim|_=>rfl
def oT {l:List V} (h:q[n]?=J (.X l)) (a:l.length<ar):iu n 0 [v] q=J (.ok .a6,q.set n<|.X<|l++[v]):=by show(((q[n]?).bind xx).bind λl=>if l.length<ar then ok V.a6<|q.set n<|.X<|l++[v]else Y)=_;rw[h];exact aK a
def Sy {l:List V} (h:q[n]?=J (.X<|l++[v])):iu n 3 [] q=J (.ok v,q.set n<|.X l):=by
 show(((q[n]?).bind xx).bind λl=>l.getLast?.bind λv=>ok v<|q.set n<|.X l.dropLast)=_;rw[h];show((l++[v]).getLast?.bind λa=>ok a<|q.set n<|.X (l++[v]).dropLast)=_;rw[List.getLast?_concat,List.dropLast_concat]
 rfl
def DZ {c:ag} (a:w.H.length<ar):iu 10 0 [an c] (mk w L)=J (.ok .a6,mk (w.sH<|w.H++[c]) L):=(oT (xa w L)<|dK (bp<|bX _) a).trans<|al (λz=>J (mW V.a6,(mk w L).set 10<|.X z)) (g_ (l₂:=[c])).symm
def IV {q:ae} {n:Nat} {l:List V} (h:q[n]?=J (.X l)) (a:k<l.length):jh (.ref n) (.I k) v q=J (q.set n<|.X<|l.set k v):=by show((q[n]?).bind λo=>(I2 (.I k) v o).map λb=>q.set n b)=_;rw[h];exact al (hm _)<|aK ⟨lf k,mX.mpr a⟩
def oj {a:Nat} {c:ag} (h:a<w.H.length):jh (.ref 10) (.I a) (an c) (mk w L)=J (mk (w.sH<|w.H.set a c) L):=by rw[IV (xa w L) (by rw[bX];exact h), <-List.map_set,TF]
def xq (B:Bool):e_ B .bb [.ref 10] (mk w L)=J (.ok<|.I w.H.length,mk w L):=by rw[mD B 10<|xa w L,bX]
end
def NB {q:ae} {n:Nat} {l:List V} {Q:ap} (h:q[n]?=J (.X l)) (a:k<=l.length):z8 (.ref n) (.I k) Q q=J (.ok .a1 Q<|q.set n<|.X<|l.take k):=by show(match q[n]?with|some (.X l)=>if(0:Int)<=k/\(k:Int)<=l.length then J<|bM.ok .a1 Q<|q.set n<|.X<|l.take (k:Int).toNat else Y|_=>Y)=_;rw[h];exact aK ⟨lf k,jV.mpr a⟩
end
section
open PySem
section
variable {B m:Type}
abbrev eh (B:Type):=B->ae->Nat->Prop
def cS (o:Option B) (k:B->Nat->Prop) (d:Nat):Prop:=
 bif hb (oA d 2) 0 then(match o with
  |some a=>k a<|m_ d 2|none=>True)else∀{a:B},o=J a->k a (m_ d 2)
def hp {k:B->Nat->Prop} (h:∀a d,o=J a->k a d) (d:Nat):cS o k d:=by
 unfold cS
 cases hb (oA d 2) 0
 ·exactλ{a} e=>h a _ e
 ·cases o with
  |none=>trivial|some a=>exact h a _ rfl
def hA (k:eh B) (g:eh Nat):Except Nat B×ae->Nat->Prop
 |(.ok v,w),d=>k v w d
 |(.error n,w),d=>g n w d
def yE {k:eh B} {g:eh Nat} {v:B} {w:ae} {d:Nat} (h:k v w d):hA k g (.ok v,w) d:=h
noncomputable def rQ:V->Option Bool|.ad c=>J c|_=>Y
def kk (v:V) (a b:Nat->Prop) (d:Nat):Prop:=cS (rQ v) (λc d=>bif c then a d else b d) d
abbrev fD (r:R B) (k:eh B) (g:eh Nat):Prop:=∀a d,r=J a->hA k g a d
theorem fD.br {r:R B} {k:eh m} {g:eh Nat} (h:fD (br r b) k g) (c:∀v w d,fD (b v w) k g->i v w d):fD r i g:=by
 intro a d e
 subst e
 obtain⟨_|v,w⟩:=a
 ·exact h _ d rfl
 ·exact c v w d h
theorem fD.ok {w:ae} {k:eh B} {g:eh Nat} (h:fD (ok a w) k g) (d:Nat):k a w d:=h _ d rfl
theorem fD.ir {w:ae} {k:eh B} {g:eh Nat} (h:fD (ir o w) k g) (d:Nat):cS o (λa=>k a w) d:=hp (λa d e=>by subst e;exact h _ d rfl) d
theorem fD.cS {r:R B} {k:eh B} {g:eh Nat} (h:fD r k g) (d:Nat):cS r (hA k g) d:=hp h d
def kk.of (h:∀c,v=.ad c->∀d,bif c then a d else b d) (d:Nat):kk v a b d:=hp (λc d e=>h c (by cases v<;>cases e;rfl) d) d
end
def lK (v:V) (a:Nat) (w:ae):Option Nat:=match v with
 |.ref n=>match w[n]?with|some o=>bif mO o a then J n else Y|none=>Y
 |_=>Y
def eD (A:Bool->Nat->List V->ae->R V) (L:Bool) (c:a_) (b:List cA) (H:ap) (w:ae):cx:=Ch (λH w=>aU (A L) L c H w) (λH w=>bG A b L H w) H w
def dZ (A:Bool->Nat->List V->ae->R V) (L:Bool) (x:Nat) (b:List cA) (t:cB) (H:ap) (w:ae):cx:=mJ x (λH w=>bG A b L H w) t H w
def fY (Q:Nat->List V->ae->R V) (L:Bool) (d:List Nat) (a:List a_) (b:a_) (t:cB) (H:ap) (w:ae) (c:List V):R<|List V:=wM d (λH w=>hq Q L a H w) (λH w=>aU Q L b H w) t H w c
section
variable {Q:Nat->List V->ae->R V} {L:Bool} {H:ap} {w:ae} {e:a_} {t j:cB}
theorem z4 {g:List Nat} {b:List V}:fY Q L g h e t H w b=(eO t w).bind λo=>match o with
  |none=>ok b w|some a=>(kg g a.1 H).bind λd=>(kn<|hq Q L h d w).bind λp=>(op p.1).bind λc=>if c=ac then(kn<|aU Q L e d p.2).bind λu=>if b.length<ar then fY Q L g h e a.2 H u.2<|b++[u.1]else Y
   else fY Q L g h e a.2 H p.2 b:=by
 delta fY
 exact xv
def uv {g:List Nat} {d:List a_} {k:ae} {a:List V} {r:R<|List V} (h:eO t w=J (J (v,j))) (l:kg g v H=J b) (n:hq Q L d b w=J (.ok<|.ad ac,k)) (o:aU Q L e b k=J (.ok u,i))
  (q:a.length<ar) (x:fY Q L g d e j H i (a++[u])=r):fY Q L g d e t H w a=r:=by
 refine z4.trans<|U h ?_
 show((kg g v H).bind λb=>(kn<|hq Q L d b w).bind λp=>(op p.1).bind λc=>if c=ac then(kn<|aU Q L e b p.2).bind λu=>if a.length<ar then fY Q L g d e j H u.2<|a++[u.1]else Y
   else fY Q L g d e j H p.2 a)=r
 refine U l ?_
 show((kn<|hq Q L d b w).bind λp=>(op p.1).bind λc=>if c=ac then(kn<|aU Q L e b p.2).bind λu=>if a.length<ar then fY Q L g d e j H u.2<|a++[u.1]else Y
   else fY Q L g d e j H p.2 a)=r
 refine U n ?_;show((kn<|aU Q L e b k).bind λu=>if a.length<ar then fY Q L g d e j H u.2<|a++[u.1]else Y)=r;exact U o<|(aK q).trans x
def EH {g:List Nat} {d:List a_} {r:R<|List V} (h:eO t w=J (J (v,j))) (k:kg g v H=J b) (l:hq Q L d b w=J (.ok<|.ad aa,i))
  (n:fY Q L g d e j H i a=r):fY Q L g d e t H w a=r:=by
 refine z4.trans<|U h ?_
 show((kg g v H).bind λb=>(kn<|hq Q L d b w).bind λp=>(op p.1).bind λc=>if c=ac then(kn<|aU Q L e b p.2).bind λu=>if a.length<ar then fY Q L g d e j H u.2<|a++[u.1]else Y
   else fY Q L g d e j H p.2 a)=r
 refine U k ?_
 show((kn<|hq Q L d b w).bind λp=>(op p.1).bind λc=>if c=ac then(kn<|aU Q L e b p.2).bind λu=>if a.length<ar then fY Q L g d e j H u.2<|a++[u.1]else Y
   else fY Q L g d e j H p.2 a)=r
 exact U l n
def uu {c:List a_} (h:eO t w=J Y):fY Q L b c e t H w a=J (.ok a,w):=z4.trans<|U h rfl
end
def yn (g a:eh V->ap->ae->Nat->Prop) (k:eh<|List V) (h:List Nat) (H:ap):Nat->cB->ae->List V->Nat->Prop
 |0,_,_,_,_=>True|n+1,t,w,b,d=>cS (eO t w) (λo d=>match o with
  |none=>k b w d|some (v,j)=>cS (kg h v H) (λe d=>g (λc w=>kk c (λd=>a (λu w d=>bif yJ b.length ar then yn g a k h H n j w (b++[u]) d else True) e w d)<|λd=>yn g a k h H n j w b d) e w d) d) d
mutual
def dp (Q:Nat->List V->ae->R V) (L:Bool):eh Nat->eh V->ap->ae->a_->Nat->Prop
 |g,k,_,w,.W v,d=>k v w d|g,k,H,w,.loc i,d=>cS (H i) (λv=>k v w) d|g,k,H,w,.attr o a,d=>dp Q L g (λv w=>cS (rN v a w) λu=>k u w) H w o d|g,k,H,w,.ao o i,d=>dp Q L g (λv w=>dp Q L g (λb w=>cS (go v b w) λu=>k u w) H w i) H w o d|g,k,H,w,.f1 o a,d=>dp Q L g (λv w=>dp Q L g (λb w=>cS (pv (λl i=>l.drop i) v b w)<|hA k g) H w a) H w o d|g,k,H,w,.f9 o a,d=>dp Q L g (λv w=>dp Q L g (λb w=>cS (pv (λl i=>l.take i) v b w)<|hA k g) H w a) H w o d|g,k,H,w,.f2 o,d=>dp Q L g (λv w=>cS (pG (λl=>l) v w)<|hA k g) H w o d|g,k,H,w,.g0 o,d=>dp Q L g (λv w=>cS (pG (λl=>l.reverse) v w)<|hA k g) H w o d|g,k,H,w,.av e,d=>on Q L g (λy w=>k (.av y) w) H w e d|g,k,H,w,.X e,d=>on Q L g (λy w=>cS (ew y w)<|hA k g) H w e d|g,k,_,w,.fZ,d=>cS (iJ .dE w) (hA k g) d|g,k,H,w,.au h a b,d=>dp Q L g (λv w=>dp Q L g (λu w=>cS (ex h v u w) λc=>k (.ad c) w) H w b) H w a d|g,k,H,w,.dM a b,d=>bif hb (oA d 2) 0 then dp Q L g (λv w=>kk v (λd=>dp Q L g k H w b d)<|λd=>k (.ad aa) w d) H w a<|m_ d 2 else∀{r:Except Nat V×ae},aU Q L (.dM a b) H w=J r->hA k g r (m_ d 2)|g,k,H,w,.or a b,d=>bif hb (oA d 2) 0 then dp Q L g (λv w=>kk v (λd=>k (.ad ac) w d)<|λd=>dp Q L g k H w b d) H w a<|m_ d 2 else∀{r:Except Nat V×ae},aU Q L (.or a b) H w=J r->hA k g r (m_ d 2)|g,k,H,w,.gd a,d=>dp Q L g (λv w=>cS (rQ v) λc=>k (.ad<|!c) w) H w a d|g,k,H,w,.gq a,d=>dp Q L g (λv w=>cS (Hv v w)<|hA k g) H w a d|g,k,H,w,.cH h a b,d=>dp Q L g (λv w=>dp Q L g (λu w=>cS (hO h v u) λr=>k r w) H w b) H w a d|g,k,H,w,.aQ c a b,d=>dp Q L g (λv w=>kk v (λd=>dp Q L g k H w a d)<|λd=>dp Q L g k H w b d) H w c d|g,k,H,w,.bi h e,d=>dp Q L g (λv w=>on Q L g (λy w=>cS (qk Q v y w)<|hA k g) H w e) H w h d|g,k,H,w,.bZ b e,d=>on Q L g (λy w=>cS (e_ L b y w)<|hA k g) H w e d|g,k,H,w,.aS o a e,d=>dp Q L g (λv w=>cS (lK v a w) λn=>on Q L g (λy w=>cS (fM Q n a y w)<|hA k g) H w e) H w o d|g,k,H,w,.fh b i e h a,d=>on Q L g (λy w=>cS (gb L e y) λt d=>bif hb (oA d 2) 0 then yn (λk H w d=>Ji Q L (λ_ _ _=>True) k H w a d) (λk H w d=>dp Q L (λ_ _ _=>True) k H w b d) (λl w=>cS (ew l w)<|hA k g) i (gK H) 9 t w [] (m_ d 2)
   else∀{r:Except Nat (List V)×ae},fY Q L i a b t (gK H) w []=J r->hA (λl w=>cS (ew l w)<|hA k g) g r (m_ d 2)) H w h d
def on (Q:Nat->List V->ae->R V) (L:Bool):eh Nat->eh (List V)->ap->ae->List a_->Nat->Prop|g,k,_,w,[],d=>k [] w d|g,k,H,w,e::r,d=>dp Q L g (λv w=>on Q L g (λy w=>k (v::y) w) H w r) H w e d
def Ji (Q:Nat->List V->ae->R V) (L:Bool):eh Nat->eh V->ap->ae->List a_->Nat->Prop|g,k,_,w,[],d=>k (.ad ac) w d|g,k,H,w,[e],d=>dp Q L g k H w e d|_,_,_,_,_::_::_,_=>True
end
section
variable {Q:Nat->List V->ae->R V} {A:Bool->Nat->List V->ae->R V} {L:Bool} {g:eh Nat}
set_option tactic.hygienic true in
def Rs {n:Nat} {w:ae} (h:lK v a w=J n):v=.ref n/\∃o,w[n]?=J o/\mO o a=ac:=by
 unfold lK at h
 cases v<;>try exact aq h
 rename_i k
 have h:(match w[k]?with
  |some o=>bif mO o a then J k else Y|none=>Y)=J n:=h
 cases q:w[k]?with
 |none=>rw[q]at h;exact aq h|some o=>
  rw[q]at h;cases z:mO o a with
  |false=>simp only[z]at h;exact aq h|true=>simp only[z]at h;obtain rfl:=aH h;exact⟨rfl,o,q,z⟩
def Jx {k:eh V} {g:eh Nat} {P:Prop} {d:Nat} (b:Bool) (h:fD a k g) (p:P):bif b then P else∀{r:Except Nat V×ae},a=J r->hA k g r d:=by
 cases b
 ·exactλ{r} e=>h r _ e
 ·exact p
abbrev pc:eh Nat:=λ_ _ _=>True
def Us {q:List a_} {r:a_} {k:eh<|List V} {H:ap} (M:∀k H w d,fD (hq Q L q H w) k pc->F k H w d) (N:∀k H w d,fD (aU Q L r H w) k pc->l k H w d):
  ∀(n:Nat) (t:cB) (w:ae) (i:List V) (d:Nat),fD (fY Q L E q r t H w i) k g->yn F l k E H n t w i d:=by
 intro n
 induction n with
 |zero=>exactλ_ _ _ _ _=>trivial
 |succ n I=>exactλt w i d h=>hp (λo d e=>by
   cases o with
   |none=>exact h (.ok i,w) d<|uu e
   |some p=>
    obtain⟨v,j⟩:=p;refine hp (λx d J=>M _ x w d λa d K=> ?_) d;obtain⟨_|c,z⟩:=a
    ·trivial
    ·refine yE (kk.of (λb O d=> ?_) d)
     subst O
     cases b
     ·exact I j z i d λa d C=>h a d<|EH e J K C
     ·refine N _ x z d λa d P=> ?_;obtain⟨_|u,D⟩:=a
      ·trivial
      ·refine yE ?_;cases R:yJ i.length ar
       ·trivial
       ·refine I j D (i++[u]) d λa d C=>h a d ?_
        exact uv e J K P (V1.mp R) C) d
mutual
theorem du:∀(e:a_) {g:eh Nat} {k:eh V} {H:ap} {w:ae} (d:Nat),fD (aU Q L e H w) k g->dp Q L g k H w e d
 |.W v,_,_,_,_,d,h=>h.ok d|.loc i,_,_,_,_,d,h=>h.ir d|.attr o a,_,_,_,_,d,h=>du o d<|h.br λv w d h=>h.ir d|.ao o i,_,_,_,_,d,h=>du o d<|h.br λv w d h=>du i d<|h.br λu w d h=>h.ir d|.f1 o i,_,_,_,_,d,h=>du o d<|h.br λv w d h=>du i d<|h.br λu w d h=>fD.cS (r:=pv (λl i=>l.drop i) v u w) h d|.f9 o i,_,_,_,_,d,h=>du o d<|h.br λv w d h=>du i d<|h.br λu w d h=>fD.cS (r:=pv (λl i=>l.take i) v u w) h d|.f2 o,_,_,_,_,d,h=>du o d<|h.br λv w d h=>fD.cS (r:=pG (λl=>l) v w) h d|.g0 o,_,_,_,_,d,h=>du o d<|h.br λv w d h=>fD.cS (r:=pG (λl=>l.reverse) v w) h d|.av i,_,_,_,_,d,h=>px i d<|h.br λv w d h=>h.ok d|.X i,_,_,_,_,d,h=>px i d<|h.br λv w d h=>h.cS d|.fZ,_,_,_,_,d,h=>h.cS d|.au p a b,_,_,_,_,d,h=>du a d<|h.br λv w d h=>du b d<|h.br λu w d h=>hp (λc d e=>by rw[e]at h;exact h.ok d) d|.dM a b,_,_,_,_,d,h=>Jx (hb (oA d 2) 0) h<|du a _<|h.br λv w d h=>kk.of (λc e d=>by subst e;cases c;exact h.ok d;exact du b d h) d|.or a b,_,_,_,_,d,h=>Jx (hb (oA d 2) 0) h<|du a _<|h.br λv w d h=>kk.of (λc e d=>by subst e;cases c;exact du b d h;exact h.ok d) d|.gd a,_,_,_,_,d,h=>du a d<|h.br λv w d h=>hp (λc d e=>by cases v<;>cases e;exact h.ok d) d|.gq a,_,_,_,_,d,h=>du a d<|h.br λv w d h=>fD.cS (r:=Hv v w) h d|.cH p a b,_,_,_,_,d,h=>du a d<|h.br λv w d h=>du b d<|h.br λu w d h=>h.ir d|.aQ c a b,_,_,_,_,d,h=>du c d<|h.br λv w d h=>kk.of (λc e d=>by subst e;cases c;exact du b d h;exact du a d h) d|.bi a i,_,_,_,_,d,h=>du a d<|h.br λv w d h=>px i d<|h.br λu w d h=>fD.cS (r:=qk Q v u w) h d|.bZ b i,_,_,_,_,d,h=>px i d<|h.br λv w d h=>h.cS d|.aS a b i,_,_,_,_,d,h=>du a d<|h.br λv w d h=>hp (λn d e=>by
   obtain⟨rfl,o,q,z⟩:=Rs e;dsimp only at h;rw[q]at h;dsimp only at h;rw[aK z]at h
   exact px i d<|h.br λu w d h=>fD.cS (r:=fM Q n b u w) h d) d
 |.fh b p o i a,g,k,H,_,d,h=>by
  refine px i d<|h.br λy w d h=> ?_;refine hp (λt d e=> ?_) d;rw[e]at h;have h:fD (br (fY Q L p a b t (gK H) w []) λl w=>ew l w) k g:=h;have h:=h.br (i:=λl w=>cS (ew l w)<|hA k g) λu w d h=>h.cS d;cases hb (oA d 2) 0
  ·exactλ{r} e=>h r _ e
  ·exact Us (λk H w d h=>Ur a d h) (λk H w d h=>du b d h) 9 t w [] (m_ d 2) h
theorem Ur:∀(a:List a_) {g:eh Nat} {k:eh V} {H:ap} {w:ae} (d:Nat),fD (hq Q L a H w) k g->Ji Q L g k H w a d|[],_,_,_,_,d,h=>h _ d rfl|[e],_,_,_,_,d,h=>du e d h|_::_::_,_,_,_,_,_,_=>trivial
theorem px:∀(a:List a_) {g:eh Nat} {k:eh<|List V} {H:ap} {w:ae} (d:Nat),fD (gn Q L a H w) k g->on Q L g k H w a d|[],_,_,_,_,d,h=>h.ok d|e::r,_,_,_,_,d,h=>du e d<|h.br λv w d h=>px r d<|h.br λu w d h=>h.ok d
end
end
abbrev mw:=ap->ae->Nat->Prop
def vG (k:mw) (q:bM->Nat->Prop):bM->Nat->Prop|.ok .a1 H w,d=>k H w d|x,d=>q x d
def D7 (a:nP) (u v:V):Option V:=match a with|.Add=>hO .Add u v|.Sub=>hO .Sub u v|_=>Y
def yo (a:(bM->Nat->Prop)->mw->ap->ae->Nat->Prop) (q:bM->Nat->Prop) (k:mw) (x:Nat):Nat->cB->ap->ae->Nat->Prop
 |0,_,_,_,_=>True|n+1,t,H,w,d=>cS (eO t w) (λo d=>match o with
  |none=>k H w d|some (v,j)=>a (λr d=>match r with
   |.ok .gm H w=>yo a q k x n j H w d|r=>q r d) (λH w d=>yo a q k x n j H w d) (aB H x v) w d) d
mutual
def Jj (Q:Bool->Nat->List V->ae->R V) (L:Bool):(bM->Nat->Prop)->mw->ap->ae->cA->Nat->Prop
 |q,k,H,w,.aN x e,d=>dp (Q L) L (λn w=>q<|.a4 n H w) (λv w=>k (aB H x v) w) H w e d|q,k,H,w,.jO o a e,d=>dp (Q L) L (λn w=>q<|.a4 n H w) (λv w=>dp (Q L) L (λn w=>q<|.a4 n H w) (λu w=>cS (sU u a v w) λw=>k H w) H w o) H w e d|q,k,H,w,.eu o i e,d=>dp (Q L) L (λn w=>q<|.a4 n H w) (λv w=>dp (Q L) L (λn w=>q<|.a4 n H w) (λu w=>dp (Q L) L (λn w=>q<|.a4 n H w) (λg w=>cS (jh u g v w) λw=>k H w) H w i) H w o) H w e d|q,k,H,w,.jS h e,d=>bif L then True else match h with|[x,b]=>dp (Q L) L (λn w=>q<|.a4 n H w) (λv w=>cS (kg [x,b] v H) λH=>k H w) H w e d|_=>True
 |q,k,H,w,.ik x b e,d=>cS (H x) (λu=>dp (Q L) L (λn w=>q<|.a4 n H w) (λv w=>cS (D7 b u v) λr=>k (aB H x r) w) H w e) d|q,k,H,w,.aQ c a b,d=>dp (Q L) L (λn w=>q<|.a4 n H w) (λv w=>kk v (λd=>oo Q L q k H w a d)<|λd=>oo Q L q k H w b d) H w c d|q,k,H,w,.while c b,d=>cS (eD Q L c b H w) (vG k q) d|q,k,H,w,.for x h i b,d=>on (Q L) L (λn w=>q<|.a4 n H w) (λy w=>cS (gb L h y) λt d=>bif hb (oA d 2) 0 then yo (λq k H w d=>oo Q L q k H w b d) q k x 9 t H w<|m_ d 2 else∀{r:bM},dZ Q L x b t H w=J r->vG k q r (m_ d 2)) H w i d|q,k,H,w,.aO e,d=>dp (Q L) L (λn w=>q<|.a4 n H w) (λv w=>q<|.ok (.aO v) H w) H w e d|q,k,H,w,.hW e,d=>bif L then True else dp (Q L) L (λn w=>q<|.a4 n H w) (λv w=>cS (xX v H w) q) H w e d|q,k,H,w,.try b x h,d=>cS (fj Q (.try b x h) L H w) (vG k q) d|q,k,H,w,.cu e,d=>dp (Q L) L (λn w=>q<|.a4 n H w) (λ_ w=>k H w) H w e d|q,k,H,w,.jM,d=>k H w d|q,_,H,w,.gm,d=>q (.ok .gm H w) d|q,k,H,w,.g9 o a,d=>dp (Q L) L (λn w=>q<|.a4 n H w) (λu w=>dp (Q L) L (λn w=>q<|.a4 n H w) (λg w=>cS (z8 u g H w)<|vG k q) H w a) H w o d
def oo (Q:Bool->Nat->List V->ae->R V) (L:Bool):(bM->Nat->Prop)->mw->ap->ae->List cA->Nat->Prop|q,k,H,w,[],d=>k H w d|q,k,H,w,a::r,d=>Jj Q L q (λH w=>oo Q L q k H w r) H w a d
end
section
variable {B:Type} {A:Bool->Nat->List V->ae->R V} {L:Bool} {k:mw} {q:bM->Nat->Prop} {H:ap} {w:ae}
abbrev kd (r:cx) (k:mw) (q:bM->Nat->Prop):Prop:=∀a d,r=J a->vG k q a d
def kd.br {r:R V} {g:eh V} (h:kd (fg r H b) k q) (c:∀v w d,kd (b v w) k q->g v w d):fD r g<|λn w=>q<|.a4 n H w:=by
 intro a d e
 subst e
 obtain⟨_|v,w⟩:=a
 ·exact h _ d rfl
 ·exact c v w d h
def kd.r2 {r:cx} {g:mw} (h:kd (sT r b) k q) (c:∀H w d,kd (b H w) k q->g H w d):kd r g q:=by
 intro a d e
 subst e
 obtain⟨_|_,H,w⟩|⟨n,H,w⟩:=a
 ·exact c H w d h
 ·exact h _ d rfl
 ·exact h _ d rfl
 ·exact h _ d rfl
def Ut {g:(bM->Nat->Prop)->mw->ap->ae->Nat->Prop} {x:Nat} (r:∀q k H w d,kd (b H w) k q->g q k H w d):∀(n:Nat) (t:cB) (H:ap) (w:ae) (d:Nat),kd (mJ x b t H w) k q->yo g q k x n t H w d:=by
 intro n
 induction n with
 |zero=>exactλ_ _ _ _ _=>trivial
 |succ n l=>exactλt H w d h=>hp (λo d e=>by
   have h:kd ((eO t w).bind λo=>match o with
    |none=>J<|.ok .a1 H w
    |some i=>(b (aB H x i.1) w).bind λc=>match sL c with
     |some q=>mJ x b i.2 q.1 q.2
     |none=>J c) k q:=λa d e=>h a d<|xv.trans e
   rw[e]at h;cases o with
   |none=>exact h _ d rfl
   |some p=>
    obtain⟨v,j⟩:=p;refine r _ _ _ _ d λa d e=> ?_
    have h:kd ((b (aB H x v) w).bind λc=>match sL c with
     |some q=>mJ x b j q.1 q.2
     |none=>J c) k q:=h
    rw[e]at h;obtain⟨_|_,H,w⟩|⟨n,H,w⟩:=a
    ·exact l j _ _ d h
    ·exact l j _ _ d h
    ·exact h _ d rfl
    ·exact h _ d rfl) d
mutual
theorem Uu:∀(l:cA) {q:bM->Nat->Prop} {k:mw} {H:ap} {w:ae} (d:Nat),kd (fj A l L H w) k q->Jj A L q k H w l d
 |.aN x e,_,_,_,_,d,h=>du e d<|h.br λv w d h=>h _ d rfl|.jO o a e,_,_,_,_,d,h=>du e d<|h.br λv w d h=>du o d<|h.br λu w d h=>hp (λa d e=>by rw[e]at h;exact h _ d rfl) d|.eu o i e,_,_,_,_,d,h=>du e d<|h.br λv w d h=>du o d<|h.br λu w d h=>du i d<|h.br λg w d h=>hp (λa d e=>by rw[e]at h;exact h _ d rfl) d|.jS g e,_,_,_,_,d,h=>by
  cases L
  ·cases g with
   |nil=>trivial|cons x g=>cases g with|nil=>trivial|cons i g=>cases g with|cons z g=>trivial|nil=>exact du e d<|h.br λv w d h=>hp (λa d e=>by rw[e]at h;exact h _ d rfl) d
  ·trivial
 |.ik x g e,_,_,H,_,d,h=>hp (λu d z=>by
   rw[Ta,z]at h
   exact du e d<|h.br λv w d h=>hp (λr d z=>by cases g<;>first|exact aq z|(dsimp only[D7]at z;rw[z]at h;exact h _ d rfl)) d) d
 |.aQ c a g,_,_,_,_,d,h=>du c d<|h.br λv w d h=>kk.of (λc e d=>by subst e;cases c;exact py g d h;exact py a d h) d|.while c g,_,_,_,_,d,h=>hp h d|.for x i p g,_,_,H,_,d,h=>px p d λa d e=>by
   rw[Tb,e]at h;obtain⟨_|y,w⟩:=a
   ·exact h _ d rfl
   ·refine yE<|hp (λt d z=> ?_) d
    ·have h:kd (match gb L i y with|some t=>mJ x (λH w=>bG A g L H w) t H w|none=>Y) _ _:=h;rw[z]at h;cases hb (oA d 2) 0
     ·exactλ{r} e=>h r _ e
     ·exact Ut (b:=λH w=>bG A g L H w) (x:=x) (λq k H w d h=>py g d h) 9 t H w (m_ d 2) h
 |.aO e,_,_,_,_,d,h=>du e d<|h.br λv w d h=>h _ d rfl|.hW e,_,_,_,_,d,h=>by
  cases L
  ·rw[Tc]at h
   exact du e d<|h.br λv w d h=>hp (λa d z=>by
    have:=h a d z;cases a with
    |a4 _ _ _=>exact this|ok _ _ _=>
     cases v with
     |ref n=>
      delta xX at z
      dsimp only at z
      revert z
      cases w[n]?with
      |none=>exact aq|some o=>cases o with
       |a3 c i=>cases c with
        |zero=>exact aq|succ c=>cases c with
         |zero=>exactλz=>by cases z
         |succ c=>exact aq
       |_=>exact aq
     |_=>exact aq z) d
  ·trivial
 |.try g x i,_,_,_,_,d,h=>hp h d|.cu e,_,_,_,_,d,h=>du e d<|h.br λv w d h=>h _ d rfl|.jM,_,_,_,_,d,h=>h _ d rfl|.gm,_,_,_,_,d,h=>h _ d rfl|.g9 o a,_,_,_,_,d,h=>du o d<|h.br λv w d h=>du a d<|h.br λu w d h=>hp h d
theorem py:∀(f:List cA) {q:bM->Nat->Prop} {k:mw} {H:ap} {w:ae} (d:Nat),kd (bG A f L H w) k q->oo A L q k H w f d|[],_,_,_,_,d,h=>h _ d rfl|a::r,_,_,_,_,d,h=>Uu a d<|h.r2 λH w d h=>py r d h
end
end
@[irreducible] noncomputable def aD (n:Nat) (L:Bool) (k:Nat) (y:List V) (w:ae):R V:=dT n L k y w
def Eo:aD=dT:=by funext n L k y w;unfold aD;rfl
section
variable {A:Bool->Nat->List V->ae->R V} {Q:Nat->List V->ae->R V} {L:Bool} {H:ap} {w:ae} {f:List cA} {r:cx} {c e:a_} {n s x:Nat} {d:bL} {y:List V} {t j:cB}
def LJ (n:Nat) (L:Bool) (s:Nat) (d:bL) (y:List V) (H:ap) (w:ae) (c:Nat):Prop:=oo (aD n) L (λx _=>aD (n+1) L s y w=lE (J x)) (λa b _=>aD (n+1) L s y w=lE (J<|.ok .a1 a b)) H w d.body c
def aL {r:R V} (b:bN s=J d) (c:kM d.params d.np y=J H) (g:Nat) (F:LJ n L s d y H w g->aD (n+1) L s y w=r):aD (n+1) L s y w=r:=
 F (py _ _ λa d e=>by
  have:aD (n+1) L s y w=lE (J a):=by rw[Eo]at e ⊢;rw[M0 b c,e]
  obtain⟨_|_,H,w⟩|⟨n,H,w⟩:=a<;>exact this)
def LN (A:Bool->Nat->List V->ae->R V) (L:Bool) (H:ap) (w:ae) (f:List cA) (c:Nat):Prop:=oo A L (λx _=>bG A f L H w=J x) (λa b _=>bG A f L H w=J (.ok .a1 a b)) H w f c
def ia (b:Nat) (F:LN A L H w f b->bG A f L H w=r):bG A f L H w=r:=F<|py _ _ λa d e=>by obtain⟨_|_,H,w⟩|⟨n,H,w⟩:=a<;>exact e
def LL (Q:Nat->List V->ae->R V) (L:Bool) (H:ap) (w:ae) (e:a_) (b:Nat):Prop:=dp Q L (λn a _=>aU Q L e H w=J (.error n,a)) (λv a _=>aU Q L e H w=J (.ok v,a)) H w e b
def iV {r:R V} (b:Nat) (F:LL Q L H w e b->aU Q L e H w=r):aU Q L e H w=r:=F<|du _ _ λa d e=>by obtain⟨_|_,w⟩:=a<;>exact e
def G4 (P:cx->Prop) (k:ap->ae->cx):bM->Nat->Prop|.ok .a1 H w,_=>P<|k H w|.ok .gm H w,_=>P<|k H w|x,_=>P<|J x
def LO (A:Bool->Nat->List V->ae->R V) (L:Bool) (c:a_) (f:List cA) (H:ap) (w:ae) (g:Nat):Prop:=
 dp (A L) L (λn a _=>eD A L c f H w=J (.a4 n H a))
  (λv a=>kk v (λd=>oo A L (G4 (λx=>eD A L c f H w=x)<|eD A L c f) (λe b _=>eD A L c f H w=eD A L c f e b) H a f d)
   (λ_=>eD A L c f H w=J (.ok .a1 H a))) H w c g
def te (k:ap->ae->cx) (a:bM):cx:=match sL a with|some q=>k q.1 q.2|none=>J a
theorem Cg:eD A L c f H w=(aU (A L) L c H w).bind λp=>match p.1 with
  |.error e=>J<|.a4 e H p.2|.ok v=>(op v).bind λb=>if b=ac then(bG A f L H p.2).bind<|te<|eD A L c f else J<|.ok .a1 H p.2:=by
 delta eD
 exact xv
theorem ci (h:Nat) (F:LO A L c f H w h->eD A L c f H w=r):eD A L c f H w=r:=by
 refine F<|du _ _ λa d e=> ?_;obtain⟨n|v,g⟩:=a
 ·exact Cg.trans<|U e rfl
 ·refine yE (kk.of (λb z d=> ?_) d)
  subst z
  cases b
  ·exact Cg.trans<|U e rfl
  ·refine py _ _ λx d z=> ?_;have:eD A L c f H w=te (eD A L c f) x:=Cg.trans<|U e (show(bG A f L H g).bind (te<|eD A L c f)=_ from U z rfl);obtain⟨_|_,H,w⟩|⟨n,H,w⟩:=x<;>exact this
def LM (A:Bool->Nat->List V->ae->R V) (L:Bool) (x:Nat) (f:List cA) (t j:cB) (H a:ap) (w:ae) (c:Nat):Prop:=oo A L (G4 (λr=>dZ A L x f t H w=r)<|dZ A L x f j) (λa b _=>dZ A L x f t H w=dZ A L x f j a b) a w f c
theorem FS:dZ A L x f t H w=(eO t w).bind λo=>match o with
  |none=>J<|.ok .a1 H w|some a=>(bG A f L (aB H x a.1) w).bind<|te<|dZ A L x f a.2:=by
 delta dZ
 exact xv
def FT (h:eO t w=J (J (v,j))) (z:bG A f L (aB H x v) w=J a):dZ A L x f t H w=te (dZ A L x f j) a:=FS.trans<|U h (show(bG A f L (aB H x v) w).bind (te<|dZ A L x f j)=_ from U z rfl)
def ev (h:eO t w=J (J (v,j))) (b:Nat) (F:LM A L x f t j H (aB H x v) w b->dZ A L x f t H w=r):dZ A L x f t H w=r:=by refine F<|py _ _ λa d z=> ?_;have:=FT h z;obtain⟨_|_,H,w⟩|⟨n,H,w⟩:=a<;>exact this
def hR (h:eO t w=J Y):dZ A L x f t H w=J (.ok .a1 H w):=FS.trans<|U h rfl
def fA {n:Nat} (h:w[n]?=J (.X l)) (e:l[i]?=J v):eO (.b5 n i) w=J (J (v,.b5 n<|i+1)):=by delta eO;dsimp only;exact U h<|by dsimp only;exact U e rfl
def ix {n:Nat} (h:w[n]?=J (.X l)) (e:l[i]?=Y):eO (.b5 n i) w=J Y:=by delta eO;dsimp only;exact U h<|by dsimp only;exact U e rfl
def R2 {n:Nat} (h:w[n]?=J (.X l)) (e:l[i]?=J v):eO (.fi n i) w=J (J (.av [.I i,v],.fi n<|i+1)):=by delta eO;dsimp only;exact U h<|by dsimp only;exact U e rfl
def R1 {n:Nat} (h:w[n]?=J (.X l)) (e:l[i]?=Y):eO (.fi n i) w=J Y:=by delta eO;dsimp only;exact U h<|by dsimp only;exact U e rfl
def cz {p:Prop} [Decidable p] (h:p):rQ (.ad<|bj p)=J ac:=al J<|decide_eq_true h
def gP [Decidable p] (h:¬p):rQ (.ad<|bj p)=J aa:=al J<|decide_eq_false h
def jz [Decidable p] (h:¬p):rQ (.ad<|!bj p)=J ac:=by rw[decide_eq_false h];rfl
def kN [Decidable p] (h:p):rQ (.ad<|!bj p)=J aa:=by rw[decide_eq_true h];rfl
def qn (h:a=b):ex .Eq (an a) (an b) w=J ac:=(Fb a b).trans<|al J<|decide_eq_true h
def gk (h:¬a=b):ex .Eq (an a) (an b) w=J aa:=(Fb a b).trans<|al J<|decide_eq_false h
def EG (h:¬a=b):ex .NotEq (an a) (an b) w=J ac:=al (hm nK)<|gk (w:=w) h
def Ng (h:a=b):ex .NotEq (an a) (an b) w=J aa:=al (hm nK)<|qn (w:=w) h
def gH (h:a=b):ex .Eq (.I a) (.I b) w=J ac:=al J<|decide_eq_true h
def dt {a b:Int} (h:¬a=b):ex .Eq (.I a) (.I b) w=J aa:=al J<|decide_eq_false h
def mR (h:¬a=b):ex .Eq (.Z<|S a) (.Z<|S b) w=J aa:=(Fd (q:=w) a b).trans<|al J<|decide_eq_false h
def yg (h:¬a=b):ex .NotEq (.Z<|S a) (.Z<|S b) w=J ac:=al (hm nK)<|mR (w:=w) h
def yf (h:a=b):ex .NotEq (.Z<|S a) (.Z<|S b) w=J aa:=al (hm nK)<|(Fd (q:=w) a b).trans<|al J<|decide_eq_true h
end
noncomputable def jj:List cA->a_|.while c _::_=>c|_::r=>jj r|[]=>.fZ
noncomputable def jT:List cA->List cA|.while _ b::_=>b|_::r=>jT r|[]=>[]
noncomputable def gE:List cA->List cA|.for _ _ _ b::_=>b|_::r=>gE r|[]=>[]
end
section
open PySem
noncomputable def aw.atom (f:aw) (s:List Nat):Nat×aw:=match f.bf.idxOf? s with|some k=>(k,f)|none=>(f.bf.length,{f with bf:=f.bf++[s]})
noncomputable def aw.d1 (f:aw) (p:Nat×Nat):Nat×aw:=match f.aW.idxOf? p with|some k=>(k,f)|none=>(f.aW.length,{f with aW:=f.aW++[p]})
def aw.func (f:aw) (s:List Nat) (r:Nat):Nat×aw:=(f.atom s).2.d1 ((f.atom s).1,r)
def ek (a b:O) (f:aw) (r:List O):ae:=a::b::xF:: .X (f.bf.map .Z)::ke f.bf:: .X (f.aW.map kU)::ki f.aW::r
def A9 [BEq K] [LawfulBEq K] (l:List K) (i:Nat) (s:K):((l.zipIdx i).map λp=>(p.1,V.I (p.2:Nat))).lookup s=(l.idxOf? s).map λk=>V.I ((i+k:Nat):Int):=by
 induction l generalizing i with
 |nil=>rfl|cons x l b=>
  simp only[Kt,jW,gt,VH];have e:(s==x)=(x==s):=by refine vI J0 ?_;simp only[beq_iff_eq];exact⟨hB,hB⟩
  refine U e ?_;cases h:x==s
  ·simp only[Vd,if_false,b,Option.map_map]
   congr 1;funext k;simp only[XS];congr 2;exact iD (aI<|aj [_,_] [] [.n 1 (.a (.a Z<|.a G W) W)<|.a (.a Z W) G] rfl)<|aI<|aj [_,_] [] [.n 1 (.a (.a (.a Z W) G) W)<|.a Z<|.a G W] rfl
  ·simp
set_option tactic.hygienic true in
def E3 [DecidableEq K] [BEq K] [LawfulBEq K] {l:List<|K×V} (h:l.lookup k=Y):eM l k v=l++[(k,v)]:=by
 induction l with
 |nil=>rfl|cons p l a=>
  obtain⟨x,u⟩:=p;rw[gt]at h
  split at h
  ·exact lN h
  ·rename_i q
   have:x≠k:=λe=>by subst e;simp at q
   exact(rY this).trans (al ((x,u)::·)<|a h)
noncomputable def im (p:Nat×Nat):List Int:=[(p.1:Int),(p.2:Int)]
def G1 (e:List<|Nat×Nat) (i:Nat) (p:Nat×Nat):((e.zipIdx i).map λq=>(im q.1,V.I (q.2:Nat))).lookup (im p)=(e.idxOf? p).map λk=>V.I ((i+k:Nat):Int):=by
 refine am (A9 _ _ _) ?_;induction e generalizing i with
 |nil=>rfl|cons x l h=>
  simp only[Kt,jW,gt,h]
  have:(im p==im x)=(p==x):=by refine vI J0 ?_;obtain⟨a,b⟩:=x;obtain⟨c,d⟩:=p;simp[im];exact and_congr Cu Cu
  exact U this rfl
def GH (a:List<|List Nat):qE (ke a)=J ((a.zipIdx 0).map λp=>(p.1,V.I (p.2:Nat))):=by cases a<;>rfl
def L4 (a:List<|List Nat) (s:List Nat):ke (a++[s])=.dS ((a.zipIdx 0).map (λp=>(p.1,V.I (p.2:Nat)))++[(s,.I a.length)]):=by
 have e:ke (a++[s])=.dS (((a++[s]).zipIdx 0).map λp=>(p.1,V.I (p.2:Nat))):=by cases a<;>rfl
 refine cJ e ?_;simp[VY]
def DW {a:ae} {n:Nat} {b:List<|List Nat} (h:a[n]?=J (ke b)):iu n 5 [.Z s,d] a=J (.ok<|(b.idxOf? s).elim d λk=>.I k,a):=by show ir ((a[n]?).bind λo=>(uX s o).map λx=>x.getD d) a=_;refine U h ?_;show ir (((qE<|ke b).map λl=>l.lookup s).map λx=>x.getD d) a=_;refine U (GH _) ?_;show J (mW<|(((b.zipIdx 0).map λp=>(p.1,V.I (p.2:Nat))).lookup s).getD d,a)=_;refine U (A9 _ _ _) ?_;cases b.idxOf? s<;>simp
def L3 {b:ae} {n:Nat} {a:List<|List Nat} (h:b[n]?=J (ke a)) (d:a.idxOf? s=Y) (e:a.length<=ar):jh (.ref n) (.Z s) (.I a.length) b=J (b.set n<|ke<|a++[s]):=by show((b[n]?).bind λo=>(I3 s (.I a.length) o).map λc=>b.set n c)=_;refine U h ?_;show(((qE<|ke a).bind λl=>if l.length<=ar then J<|O.dS<|eM l s<|.I a.length else Y).map λc=>b.set n c)=_;refine U (GH _) ?_;show((if((a.zipIdx 0).map λp=>(p.1,V.I (p.2:Nat))).length<=ar then J<|O.dS<|eM ((a.zipIdx 0).map λp=>(p.1,V.I (p.2:Nat))) s<|.I a.length else Y).map λc=>b.set n c)=_;refine U (aK<|by refine U (bX _)<|U VJ ?_;exact e)<|U (E3<|by refine U (A9 _ _ _)<|U d ?_;rfl)<|U (L4 _ _) ?_;rfl
def GA (a:List<|List Nat):dm (ke a)<3:=by cases a<;>exact(by decide:1<3)
def GI (a:List<|Nat×Nat):pk (ki a)=J ((a.zipIdx 0).map λq=>(im q.1,V.I (q.2:Nat))):=by cases a<;>rfl
def PJ (a:List<|Nat×Nat) (p:Nat×Nat):ki (a++[p])=.dT ((a.zipIdx 0).map (λq=>(im q.1,V.I (q.2:Nat)))++[(im p,.I a.length)]):=by
 have e:ki (a++[p])=.dT (((a++[p]).zipIdx 0).map λq=>(im q.1,V.I (q.2:Nat))):=by cases a<;>rfl
 refine cJ e ?_;simp[VY]
def FP {a:ae} {n:Nat} {b:List<|Nat×Nat} (h:a[n]?=J (ki b)):iu n 5 [kU p,d] a=J (.ok<|(b.idxOf? p).elim d λk=>.I k,a):=by show ir ((a[n]?).bind λo=>(GW (im p) o).map λx=>x.getD d) a=_;refine U h ?_;show ir (((pk<|ki b).map λl=>l.lookup<|im p).map λx=>x.getD d) a=_;refine U (GI _) ?_;show J (mW<|(((b.zipIdx 0).map λq=>(im q.1,V.I (q.2:Nat))).lookup<|im p).getD d,a)=_;refine U (G1 _ _ _) ?_;cases b.idxOf? p<;>simp
def PI {b:ae} {n:Nat} {a:List<|Nat×Nat} (h:b[n]?=J (ki a)) (d:a.idxOf? p=Y) (e:a.length<=ar):jh (.ref n) (kU p) (.I a.length) b=J (b.set n<|ki<|a++[p]):=by show((b[n]?).bind λo=>(I4 (im p) (.I a.length) o).map λc=>b.set n c)=_;refine U h ?_;show(((pk<|ki a).bind λl=>if l.length<=ar then J<|O.dT<|eM l (im p)<|.I a.length else Y).map λc=>b.set n c)=_;refine U (GI _) ?_;show((if((a.zipIdx 0).map λq=>(im q.1,V.I (q.2:Nat))).length<=ar then J<|O.dT<|eM ((a.zipIdx 0).map λq=>(im q.1,V.I (q.2:Nat))) (im p)<|.I a.length else Y).map λc=>b.set n c)=_;refine U (aK<|by refine U (bX _)<|U VJ ?_;exact e)<|U (E3<|by refine U (G1 _ _ _)<|U d ?_;rfl)<|U (PJ _ _) ?_;rfl
def Gz (a:List<|Nat×Nat):dm (ki a)<3:=by cases a<;>exact(by decide:1<3)
section
variable {a b:O} {f:aw} {r:List O} {t:Nat->List V->ae->R V} {z:List V}
def po {a:ae} {n m:Nat} {o:O} (h:a[n]?=J o) (b:mO o m=ac):lK (.ref n) m a=J n:=by delta lK;dsimp only;exact U h (show(bif mO o m then J n else Y)=J n from U b rfl)
theorem uY:(ek a b f r)[4]?=J (ke f.bf):=rfl
theorem uZ:(ek a b f r)[6]?=J (ki f.aW):=rfl
def HB:lK (.ref 4) 5 (ek a b f r)=J 4:=po uY<|by cases f.bf<;>rfl
def HC:lK (.ref 6) 5 (ek a b f r)=J 6:=po uZ<|by cases f.aW<;>rfl
def RO (h:f.bf.idxOf? s=J k):fM t 4 5 [.Z s,d] (ek a b f r)=J (.ok<|.I k,ek a b f r):=by refine U (jB uY<|GA _)<|U (DW uY)<|U h ?_;rfl
def RQ (h:f.bf.idxOf? s=Y):fM t 4 5 [.Z s,d] (ek a b f r)=J (.ok d,ek a b f r):=by refine U (jB uY<|GA _)<|U (DW uY)<|U h ?_;rfl
def RP (h:f.aW.idxOf? (x,y)=J k):fM t 6 5 [.av [.I x,.I y],d] (ek a b f r)=J (.ok<|.I k,ek a b f r):=cJ (jB uZ<|Gz _)<|(FP (p:=(x,y)) uZ).trans<|by refine U h ?_;rfl
def RR (h:f.aW.idxOf? (x,y)=Y):fM t 6 5 [.av [.I x,.I y],d] (ek a b f r)=J (.ok d,ek a b f r):=cJ (jB uZ<|Gz _)<|(FP (p:=(x,y)) uZ).trans<|by refine U h ?_;rfl
def RW {g:Bool}:e_ g .bb [.ref 3] (ek a b f r)=J (.ok<|.I f.bf.length,ek a b f r):=by exact U (mD g 3 (l:=f.bf.map .Z) rfl)<|U (bX _) rfl
def RX {g:Bool}:e_ g .bb [.ref 5] (ek a b f r)=J (.ok<|.I f.aW.length,ek a b f r):=by exact U (mD g 5 (l:=f.aW.map kU) rfl)<|U (bX _) rfl
def xG (a b:O) (f:aw) (s:List Nat) (r:List O):ae:=a::b::xF:: .X ((f.bf++[s]).map .Z)::ke f.bf:: .X (f.aW.map kU)::ki f.aW::r
def xH (a b:O) (f:aw) (p:Nat×Nat) (r:List O):ae:=a::b::xF:: .X (f.bf.map .Z)::ke f.bf:: .X ((f.aW++[p]).map kU)::ki f.aW::r
def RS (c:f.bf.length<ar):fM t 3 0 [.Z s] (ek a b f r)=J (.ok .a6,xG a b f s r):=by show iu 3 0 [.Z s] (ek a b f r)=_;rw[oT (l:=f.bf.map .Z) rfl (by refine U (bX _) ?_;exact c),xG,g_];rfl
def RT {x y:Nat} (c:f.aW.length<ar):fM t 5 0 [.av [.I x,.I y]] (ek a b f r)=J (.ok .a6,xH a b f (x,y) r):=by show iu 5 0 [kU (x,y)] (ek a b f r)=_;rw[oT (l:=f.aW.map kU) rfl (by refine U (bX _) ?_;exact c),xH,g_];rfl
def RU (h:f.bf.idxOf? s=Y) (c:f.bf.length<ar):jh (.ref 4) (.Z s) (.I f.bf.length) (xG a b f s r)=J (ek a b {f with bf:=f.bf++[s]} r):=L3 (b:=xG a b f s r) (n:=4) rfl h<|ky c
def RV (h:f.aW.idxOf? (x,y)=Y) (c:f.aW.length<ar):jh (.ref 6) (.av [.I x,.I y]) (.I f.aW.length) (xH a b f (x,y) r)=J (ek a b {f with aW:=f.aW++[(x,y)]} r):=PI (p:=(x,y)) (b:=xH a b f (x,y) r) (n:=6) rfl h<|ky c
def aw.m9 (h:f.bf.idxOf? s=J k):f.atom s=(k,f):=by unfold aw.atom;exact U h rfl
def aw.n0 (h:f.bf.idxOf? s=Y):f.atom s=(f.bf.length,{f with bf:=f.bf++[s]}):=by unfold aw.atom;exact U h rfl
def aw.n1 (h:f.aW.idxOf? p=J k):f.d1 p=(k,f):=by unfold aw.d1;exact U h rfl
def aw.n2 (h:f.aW.idxOf? p=Y):f.d1 p=(f.aW.length,{f with aW:=f.aW++[p]}):=by unfold aw.d1;exact U h rfl
@[elab_as_elim] def aw.i6 {s:List Nat} {C:Nat×aw->Prop} (a:∀k,f.bf.idxOf? s=J k->C (k,f)) (b:f.bf.idxOf? s=Y->C (f.bf.length,{f with bf:=f.bf++[s]})):C<|f.atom s:=by
 cases q:f.bf.idxOf? s with
 |some k=>exact U (aw.m9 q)<|a k q|none=>exact U (aw.n0 q)<|b q
@[elab_as_elim] def aw.ld {p:Nat×Nat} {C:Nat×aw->Prop} (a:∀k,f.aW.idxOf? p=J k->C (k,f)) (b:f.aW.idxOf? p=Y->C (f.aW.length,{f with aW:=f.aW++[p]})):C<|f.d1 p:=by
 cases q:f.aW.idxOf? p with
 |some k=>exact U (aw.n1 q)<|a k q|none=>exact U (aw.n2 q)<|b q
def zK (n:Nat) (g:Bool) (s:List Nat) (d:f.bf.length<ar):aD (n+1) g 5 [.ref 2,.Z s] (ek a b f r)=J (.ok<|.I (f.atom s).1,ek a b (f.atom s).2 r):=by
 cases h:f.bf.idxOf? s with
 |some k=>exact(U (aw.m9 h)<|aL FG rfl 36 λc=>c HB<|RO h)
 |none=>exact U (aw.n0 h)<|aL FG rfl 2164772 λc=>c HB (RQ h) RW (RS d)<|RU h d
def PW (n:Nat) (g:Bool) (x y:Nat) (d:f.aW.length<ar):aD (n+1) g 7 [.ref 2,.I x,.I y] (ek a b f r)=J (.ok<|.I (f.d1 (x,y)).1,ek a b (f.d1 (x,y)).2 r):=by
 cases h:f.aW.idxOf? (x,y)with
 |some k=>exact(U (aw.n1 h)<|aL FM rfl 144 λc=>c HC<|RP h)
 |none=>exact U (aw.n2 h)<|aL FM rfl 8659088 λc=>c HC (RR h) RX (RT d)<|RV h d
def D2 (f:aw) (s:List Nat):(f.atom s).2.aW=f.aW:=by unfold aw.atom;cases f.bf.idxOf? s<;>rfl
def F0 (n:Nat) (g:Bool) (s:List Nat) (y:Nat) (d:f.bf.length<ar) (e:f.aW.length<ar):aD (n+2) g 8 [.ref 2,.Z s,.I y] (ek a b f r)=J (.ok<|.I (f.func s y).1,ek a b (f.func s y).2 r):=aL Pz rfl 160 λc=>c (zK n g s d)<|PW n g _ y<|am ((D2 f s).symm) e
end
section
variable {w:aM} {j:List O} (n:Nat) (g:Bool)
def aw.small (f:aw):Prop:=f.bf.length<ar/\f.aW.length<ar
def rM (s:List Nat) (a:w.nm.small):aD (n+1) g 5 [.ref 2,.Z s] (mk w j)=J (.ok<|.I (w.nm.atom s).1,mk (w.sN<|(w.nm.atom s).2) j):=zK n g s a.1
def sl (s:List Nat) (y:Nat) (a:w.nm.small):aD (n+2) g 8 [.ref 2,.Z s,.I y] (mk w j)=J (.ok<|.I (w.nm.func s y).1,mk (w.sN<|(w.nm.func s y).2) j):=F0 n g s y a.1 a.2
def ta (k:Nat) (s:List Nat) (h:w.nm.bf[k]?=J s):aD (n+1) g 6 [.ref 2,.I k] (mk w j)=J (.ok<|.Z s,mk w j):=(by exact aL Pt rfl 8 λa=>a<|iq (v:=.Z s) (l:=w.nm.bf.map .Z) rfl<|by refine U lg<|U h ?_;rfl)
def sF (k:Nat) (p:Nat×Nat) (h:w.nm.aW[k]?=J p):aD (n+1) g 9 [.ref 2,.I k] (mk w j)=J (.ok<|.I p.1,mk w j):=(by exact aL PB rfl 8 λa=>a<|iq (v:=kU p) (l:=w.nm.aW.map kU) rfl<|by refine U lg<|U h ?_;rfl)
def rK (k:Nat) (p:Nat×Nat) (h:w.nm.aW[k]?=J p):aD (n+1) g 10 [.ref 2,.I k] (mk w j)=J (.ok<|.I p.2,mk w j):=(by exact aL O6 rfl 8 λa=>a<|iq (v:=kU p) (l:=w.nm.aW.map kU) rfl<|by refine U lg<|U h ?_;rfl)
end
end
section
open PySem
def BF (i:Bool):gb i 1 [.I 0,.I<|-1,.I<|-1]=J (.b8 [.I 0]):=by cases i<;>rfl
def BG (i:Bool):gb i 1 [.I 1,.I<|-1,.I<|-1]=J (.b8 [.I 1,.I 0]):=by cases i<;>rfl
noncomputable def bk:ag->Int|.I _=>1|.a5 _=>2|.Z _=>3|.b0 _=>3|_=>0
noncomputable def ee (a b:Int):Int:=if a<b then-1 else if b<a then 1 else 0
noncomputable def eV (a b:List Nat):Int:=if a<b then-1 else if b<a then 1 else 0
def bV (d:aw) (H:bh) (c:ag) (f k b:Nat):Prop:=match c with|.b0 a=>a=b/\f=0/\k=2|.Z a=>a+1=b/\H[a]?=J (.aA f)/\∃p,d.aW[f]?=J (p,k)|_=>False
theorem bV.b0 (b:Nat):bV a H (.b0 b) 0 2 b:=bB rfl rfl rfl
theorem bV.Z {a:aw} (h:H[b]?=J (.aA f)) (g:a.aW[f]?=J (p,k)):bV a H (.Z b) f k<|b+1:=⟨rfl,h,p,g⟩
@[elab_as_elim] def bV.E {d:aw} {H:bh} {c:ag} {f k b:Nat} {C:ag->Nat->Nat->Nat->Prop} (h:bV d H c f k b) (g:∀b,C (.b0 b) 0 2 b) (l:∀a f k p,H[a]?=J (.aA f)->d.aW[f]?=J (p,k)->C (.Z a) f k (a+1)):C c f k b:=by
 cases c with
 |b0 a=>exact am h.1<|U h.2.1<|U h.2.2<|g a|Z a=>exact am h.1<|h.2.2.elim λp e=>l a f k p h.2.1 e|_=>exact jU h
section
variable {w:aM} {j:List O} (n:Nat) (i:Bool)
def qY (c:ag) (a:ae):aD (n+1) i 49 [an c] a=J (.ok<|.ad<|bj<|bU c=0,a):=by cases c<;>exact aL Pq rfl 0 id
def qO (c:ag) (a:ae):aD (n+1) i 53 [an c] a=J (.ok<|.I<|bk c,a):=by cases c<;>exact aL Pr rfl 0 id
def It (h:bk c=3):aD (n+1) i 53 [an c] a=J (.ok<|.I 3,a):=am h<|qO n i c a
def HU (h:a<b):ee a b= -1:=aK h
def HT (h:b<a):ee a b=1:=(aX<|iA.mpr<|Cq h).trans<|aK h
def xS (a:Int):ee a a=0:=(aX<|pI a).trans<|aX<|pI a
def qL (a b:Int) (d:ae):aD (n+1) i 54 [.I a,.I b] d=J (.ok<|.I<|ee a b,d):=by
 rcases Int.lt_trichotomy a b with h|rfl|h
 ·exact(U (HU h)<|aL sd rfl 8 λc=>c<|cz h)
 ·exact(U (xS _)<|aL sd rfl 136 λc=>c (gP<|pI _)<|gP<|pI _)
 ·exact U (HT h)<|aL sd rfl 136 λc=>c (gP<|iA.mpr<|Cq h)<|cz h
def HY (a b:List Nat) (e:ae):aD (n+1) i 54 [.Z a,.Z b] e=J (.ok<|.I<|eV a b,e):=by
 unfold eV
 by_cases h:a<b
 ·exact(U (aK h)<|aL sd rfl 8 λc=>c<|cz h)
 ·refine(U (aX h) ?_)
  by_cases d:b<a
  ·exact(U (aK d)<|aL sd rfl 136 λc=>c (gP h)<|cz d)
  ·exact U (aX d)<|aL sd rfl 136 λc=>c (gP h)<|gP d
def oW (c:ag):aD (n+1) i 33 [.ref 9,an c] (mk w j)=J (.ok<|.ad<|bj<|bk c=3,mk w j):=by cases c<;>exact aL Pj rfl 0 id
def mC {c:ag} {f k b:Nat} (h:bV w.nm w.H c f k b):aD (n+1) i 36 [.ref 9,an c] (mk w j)=J (.ok<|.I b,mk w j):=by refine h.E (λb=> ?_) λa f k p _ _=> ?_ <;>exact aL Pk rfl 0 id
def qw {c:ag} {f k b:Nat} (h:bV w.nm w.H c f k b):aD (n+1) i 34 [.ref 9,an c] (mk w j)=J (.ok<|.I f,mk w j):=h.E (λb=>aL Fy rfl 0 id) λa f k p e g=>aL Fy rfl 512 λd=>d<|ga e
def qZ {c:ag} {f k b:Nat} (h:bV w.nm w.H c f k b):aD (n+2) i 35 [.ref 9,an c] (mk w j)=J (.ok<|.I k,mk w j):=h.E (λb=>aL Fz rfl 0 id) λa f k p e g=>aL Fz rfl 163840 λd=>d (ga e)<|rK n i _ _ g
def IG (h:bV w.nm w.H c f k b) (m:bV w.nm w.H d f o l) (e:bU c=bU d):aD (n+1) i 48 [.ref 9,an c,an d] (mk w j)=J (.ok<|.ad ac,mk w j):=by
 cases c with
 |b0 b=>cases d with|b0 l=>exact aL sa rfl 0 id|Z l=>exact bt (show(3:Int)=2 from e) (by decide)|_=>exact m.elim
 |Z a=>cases d with|b0 l=>exact bt (show(2:Int)=3 from e) (by decide)|Z l=>exact aL sa rfl 1589248 λg=>g (ga h.2.1) (ga m.2.1)<|qn<|@rfl ag<|.aA _|_=>exact m.elim
 |_=>exact h.elim
def Td (h:bV w.nm w.H c f k b) (m:bV w.nm w.H d o p l) (e:¬(bU c=bU d/\f=o)):aD (n+1) i 48 [.ref 9,an c,an d] (mk w j)=J (.ok<|.ad aa,mk w j):=by
 cases c with
 |b0 b=>cases d with|b0 l=>exact bt ⟨rfl,h.2.1.trans m.2.1.symm⟩ e|Z l=>exact aL sa rfl 0 id|_=>exact m.elim
 |Z a=>cases d with|b0 l=>exact aL sa rfl 0 id|Z l=>exact aL sa rfl 1589248 λg=>g (ga h.2.1) (ga m.2.1)<|gk<|λq=>e ⟨rfl,ag.aA.inj q⟩|_=>exact m.elim
 |_=>exact h.elim
def TM {p l:Nat×Nat} (h:bV w.nm w.H c f k b) (m:bV w.nm w.H d g u v) (e:w.nm.aW[f]?=J p) (o:w.nm.aW[g]?=J l) (q:w.nm.bf[p.1]?=J s) (x:w.nm.bf[l.1]?=J r):
  aD (n+2) i 55 [.ref 9,an c,an d] (mk w j)=J (.ok<|.I<|if f=g then 0 else if ee p.2 l.2≠0 then ee p.2 l.2 else eV s r,mk w j):=by
 by_cases z:f=g
 ·exact(U (aK z)<|aL AC rfl 4640 λa=>a (qw n i h) (qw n i m)<|gH<|al Kw z)
 ·have t:¬(f:Int)=g:=λq=>z<|eW q;refine(U (aX z) ?_)
  by_cases y:ee p.2 l.2=0
  ·exact(U (aX<|not_not_intro y)<|aL AC rfl 1930627781152 λa=>a (qw n i h) (qw n i m) (dt t) (rK n i _ _ e) (rK n i _ _ o) (qL n i _ _ _) (kN y) (sF n i _ _ e) (ta n i _ _ q) (sF n i _ _ o) (ta n i _ _ x)<|HY n i _ _ _)
  ·exact U (aK y)<|aL AC rfl 39981600 λa=>a (qw n i h) (qw n i m) (dt t) (rK n i _ _ e) (rK n i _ _ o) (qL n i _ _ _)<|jz y
theorem bV.bk {a:aw} {H:bh} {c:ag} {f k b:Nat} (h:bV a H c f k b):bk c=3:=h.E (C:=λc _ _ _=>Internal.bk c=3) (λ_=>rfl) λ_ _ _ _ _ _=>rfl
end
end
section
open PySem
class inductive bu (H:bh):ag->ag->Prop
 |dG {c:ag}:bU c≠0->bu H c c
 |eI {a:Nat}:H[a]?=J (.ref a)->bu H (.ref a) (.ref a)
 |cT {a:Nat} {d c:ag}:H[a]?=J d->d≠.ref a->bu H d c->bu H (.ref a) c
section
variable {w:aM} {g:List O} (n:Nat) (i:Bool)
def NF {c d:ag} (h:bu w.H c d):∀f:ap,f 0=J (.ref 9)->f 1=J (an c)->
  ∃j,eD (aD n) i (.W<|.ad ac) (jT Fp.body) f (mk w g)=J (.ok (.aO<|an d) j<|mk w g):=by
 induction h with
 | @dG c h=>
  intro f k e
  cases c with
  |ref a=>exact bt rfl h
  |_=>exact⟨_,by exact ci 514 λb=>b e e⟩
 | @eI a h=>
  intro f k e
  exact⟨_,by exact ci 46402 λb=>b e k e (ga h) e (qn<|@rfl ag<|.ref _) e⟩
 | @cT a d c h l m o=>
  intro f k e
  refine bw (o (aB (aB (aB f 2<|.I 0) 3<|an d) 1<|an d) k rfl) λj z=> ?_
  exact⟨j,by exact ci 13634 λb=>(b e k e (ga h) e<|gk l).trans z⟩
def dc {c d:ag} (h:bu w.H c d):aD (n+1) i 25 [.ref 9,an c] (mk w g)=J (.ok<|an d,mk w g):=by
 refine bw (NF (g:=g) n i h (aB (aB (λ_=>Y) 1<|an c) 0<|.ref 9) rfl rfl) λb e=> ?_
 exact aL Pe rfl 1 λa=>a e
def AS {c d:ag} (h:bu w.H c d):aD (n+2) i 29 [.ref 9,an c] (mk w g)=J (.ok<|an d,mk w g):=by
 have b:¬bU d=1:=by cases d<;>exact nofun
 exact aL Pg rfl 104 λa=>a (dc n i h) (iO d)<|dt b
def SJ (c:ag) (h:w.H.length<100000):aD (n+1) i 21 [.ref 9,an c] (mk w g)=J (.ok<|.I w.H.length,mk (w.sH<|w.H++[c]) g):=by
 have:¬(100000:Int)<=w.H.length:=by exact aj [_] [] [.n 1 (.a Z W)<|.k 100000,.z 1 (.k 100000)<|.e Z] rfl h
 exact aL Pb rfl 4228 λb=>b (xq i) (gP this)<|DZ<|iF h<|by decide
def RL (h:w.H.length<100000):aD (n+2) i 22 [.ref 9] (mk w g)=J (.ok<|an<|.ref w.H.length,mk (w.sH<|w.H++[.ref w.H.length]) g):=by exact aL Pc rfl 68 λa=>a (xq i)<|SJ n i (.ref w.H.length) h
def zR (h:x<w.H.length):aD (n+1) i 27 [.ref 9,an<|.ref x,an c] (mk w g)=J (.ok .a6,mk (w.sH<|w.H.set x c) g):=aL Pf rfl 1024 λa=>a<|oj h
def MJ (c:x<w.H.length) (d:y<w.H.length) (h:x≠y):aD (n+2) i 28 [.ref 9,an<|.ref x,an<|.ref y] (mk w g)=J (.ok .a6,mk (w.sH<|if x<y then w.H.set y<|.ref x else w.H.set x<|.ref y) g):=by
 have b:¬ag.ref x=.ref y:=λe=>h (ag.ref.inj e)
 by_cases l:x<y
 ·rw[aK l];exact aL Fx rfl 1081348 λa=>a (gk b) (cz<|mX.mpr l)<|zR n i d
 ·rw[aX l];exact aL Fx rfl 1081348 λa=>a (gk b) (gP<|λq=>l<|mX.mp q)<|zR n i c
def Qc {b:Nat} {c:ag} (e:w.H[b]?=J c):go (.ref 10) (.I<|(b:Int)+1-1) (mk w g)=J (an c):=am ((ow (b:Int) 1).symm)<|ga e
def L6 {c d:ag} {f k b:Nat} (h:bV w.nm w.H c f k b) (e:w.H[b]?=J d):aD (n+2) i 37 [.ref 9,an c,.I 1] (mk w g)=J (.ok<|an d,mk w g):=aL Pl rfl 544 λa=>a (mC n i h)<|Qc e
end
end
section
open PySem
def S9 (k:Nat):(tz 0 (k:Int) 1).toNat=k:=(al J7<|XX 0 k).trans<|al J7<|Vu k
def xZ (b:Bool) (k:Nat) (h:k<=ar):gb b 1 [.I k]=J (.b8<|(ic k).map λi=>.I (i:Nat)):=by
 have e:gb b 1 [.I k]=if-(ar:Int)<=k/\(k:Int)<=ar then J<|.b8<|(qN 0 k 1).map .I else Y:=by cases b<;>rfl
 have r:(qN 0 k 1).map V.I=(ic k).map λi=>.I (i:Nat):=by show((ic (tz 0 (k:Int) 1).toNat).map λ(k:Nat)=>(0:Int)+1*(k:Int)).map V.I=_;rw[S9,q_];exact Km λi _=>al V.I<|(tq _).trans<|Vs _
 exact e.trans<|(aK ⟨nL (by decide)<|lf k,jV.mpr h⟩).trans<|by rw[r]
noncomputable def dU (a k:Nat):bh:=(kx a k).map .ref
def sk (a k:Nat):(dU a k).length=k:=by simp[dU]
def FY (a k:Nat):dU a (k+1)=.ref a::dU (a+1) k:=by simp[dU,Ko]
section
variable {w:aM} {d:List O} (n:Nat) (b:Bool)
def SX (m:Nat):∀(j:Nat) (w:aM) (h:ap) (f:Nat),h 0=J (.ref 9)->h 2=J (.I f)->w.H.length=f+j->w.H.length+m<ar->
  ∃a,dZ (aD n) b 3 (gE Fo.body) (.b8<|(kx j m).map λi=>.I (i:Nat)) h (mk w d)=J (.ok .a1 a<|mk (w.sH<|w.H++dU (f+j) m) d)/\a 2=J (.I f):=by
 induction m with
 |zero=>intro j w h f l k p o;exact ax h (by rw[show dU (f+j) 0=[]from rfl,dI];exact hR rfl) k|succ m r=>
  intro j w h f l k p o
  refine ah (r (j+1) (w.sH<|w.H++[.ref<|f+j]) (aB h 3<|.I j) f l k (by rw[aM.k9,bH,p];rfl)<|by rw[aM.k9,bH,iC,l_ _ m];exact o) λa e q=> ?_;have s:(w.H++[.ref<|f+j])++dU (f+(j+1)) m=w.H++dU (f+j) (m+1):=by rw[FY,bD];rfl
  rw[<-s];exact ax a (by exact ev rfl 73 λg=>(g l k<|DZ (c:=.ref<|f+j)<|dK (ck _ _) o).trans e) q
def BE (k:Nat) (h:w.H.length+k<=100000):aD (n+1) b 23 [.ref 9,.I k] (mk w d)=J (.ok<|.I w.H.length,mk (w.sH<|w.H++dU w.H.length k) d):=by refine ah (SX (d:=d) n b k 0 w (aB (aB (aB (λ_=>Y) 1<|.I k) 0<|.ref 9) 2<|.I w.H.length) w.H.length rfl rfl rfl<|dK h<|by decide) λc e q=> ?_;have f:k<=ar:=aF (hE _ _) (aF h<|by decide);have g:¬(100000:Int)<w.H.length+k:=iA.mpr<|jV.mpr h;rw[<-Kp]at e;exact aL Pd rfl 14852 λa=>a (xq b) (gP g) (xZ b k f) e q
def RK {f i k:Nat} (j:f≠0) (e:w.nm.aW[f]?=J (i,k)) (h:w.H.length+(k+1)<=100000):
  aD (n+2) b 38 [.ref 9,.I f] (mk w d)=J (.ok<|an<|.Z w.H.length,mk (w.sH<|w.H++(.aA f::dU (w.H.length+1) k)) d):=by
 have p:=oj (w:=w.sH<|w.H++dU w.H.length (k+1)) (L:=d) (a:=w.H.length) (c:=.aA f) (by show _<(w.H++_).length;rw[bH,sk];exact li<|hF k)
 have z:(w.H++dU w.H.length (k+1)).set w.H.length (.aA f)=w.H++(.aA f::dU (w.H.length+1) k):=by rw[vR _ _<|bE _,re,FY];rfl
 rw[aM.k9,z]at p;have r:=BE (w:=w) (d:=d) n b (k+1) h;rw[show((k+1:Nat):Int)=1+k from yG k 1]at r;exact aL FA rfl 68098 λg=>g (dt<|λq=>j<|eW q) (rK n b _ _ e) r p
end
end
section
open PySem
def gs (p:ag×ag):V:=.av [an p.1,an p.2]
section
variable {l:Nat->List V->ae->R V} {w:aM} {g:List O} {j:Nat} {a:List V}
def sE (h:g[j]?=J (.X a)):lK (.ref<|17+j) 0 (mk w g)=J (17+j):=po ((lG w g j).trans h) rfl
def rJ {v:V} (h:g[j]?=J (.X a)) (b:a.length<ar):fM l (17+j) 0 [v] (mk w g)=J (.ok .a6,mk w<|g.set j<|.X<|a++[v]):=by
 exact U (jB ((lG w g j).trans h) (show 0<3 by decide))<|U (oT ((lG w g j).trans h) b)<|U (x8 _ _ _ _) rfl
def ya {o b:O} (h:g[j]?=J o):(g.set j b)[j]?=J b:=gX (cK.mp h).1
end
class inductive kC (H:bh) (b:Nat):Nat->List ag->Prop
 |cC {A:ag}:H[b]?=J A->kC H b 1 [A]
 |kv {A B:ag}:H[b]?=J A->H[b+1]?=J B->kC H b 2 [B,A]
section
variable {w:aM} {g:List O} (n:Nat) (i:Bool)
def SI {c:ag} {f k b j e:Nat} {a:List ag} {p:List ag} (o:bV w.nm w.H c f k b) (s:e=17+j) (m:g[j]?=J (.X<|a.map an)) (q:a.length+2<=ar) (t:kC w.H b k p):
  aD (n+3) i 46 [.ref 9,an c,.ref e] (mk w g)=J (.ok .a6,mk w<|g.set j<|.X<|(a++p).map an):=by
 subst s
 have r:(a.map an).length<ar:=by refine U (bX _) ?_;exact md q
 refine U g_ ?_
 cases t with
 |cC h=>exact aL FE rfl 6326408 λd=>d (mC _ i o) (qZ _ i o) (BF i) (sE m) (ga h)<|rJ m r
 | @kv A B h u=>
  have v:(a.map an++[an B]).length<ar:=by refine U bH<|U (bX _) ?_;exact q
  have z:(g.set j<|.X<|a.map an++[an B]).set j (.X<|a.map an++[an B]++[an A])=g.set j (.X<|a.map an++[B,A].map an):=by refine U (Kq _)<|U (bD _ _ _) ?_;rfl
  refine am z ?_
  exact aL FE rfl 6482331784 λd=>d (mC _ i o) (qZ _ i o) (BG i) (sE m) (ga u) (rJ m r) (sE<|ya m) (ga h)<|rJ (ya m) v
def SK {c d:ag} {f k b F v j e:Nat} {a:List<|ag×ag} {x y:List ag} (q:bV w.nm w.H c f k b) (p:bV w.nm w.H d F k v) (H:e=17+j) (o:g[j]?=J (.X<|a.map gs)) (C:a.length+2<=ar) (I:kC w.H b k x) (r:kC w.H v k y):
  aD (n+3) i 47 [.ref 9,an c,an d,.ref e] (mk w g)=J (.ok .a6,mk w<|g.set j<|.X<|(a++x.zip y).map gs):=by
 subst H
 have D:(a.map gs).length<ar:=by refine U (bX _) ?_;exact md C
 refine U g_ ?_
 generalize E:k=N at r
 cases I with
 | @cC A h=>cases r with
  |kv _ _=>cases E
  | @cC s t=>exact aL FF rfl 6476564616 λm=>m (mC _ i q) (mC _ i p) (qZ _ i q) (BF i) (sE o) (ga h) (ga t)<|rJ o D
 | @kv A B K L=>cases r with
  |cC _=>cases E
  | @kv s h t u=>
   have M:(a.map gs++[gs (B,h)]).length<ar:=by refine U bH<|U (bX _) ?_;exact C
   have z:(g.set j<|.X<|a.map gs++[gs (B,h)]).set j (.X<|a.map gs++[gs (B,h)]++[gs (A,s)])=g.set j (.X<|a.map gs++([B,A].zip [h,s]).map gs):=by refine U (Kq _)<|U (bD _ _ _) ?_;rfl
   refine am z ?_
   exact aL FF rfl 424452324624520 λm=>m (mC _ i q) (mC _ i p) (qZ _ i q) (BG i) (sE o) (ga L) (ga u) (rJ o D) (sE<|ya o) (ga K) (ga t)<|rJ (ya o) M
end
end
section
open PySem
noncomputable def aC (g:List O) (i:Nat):Nat:=17+g.length+i
section
variable {w:aM} {g l:List O} {i m:Nat} {Q:Nat->List V->ae->R V} {A:List V} {p:Bool}
theorem dB:(mk w<|g++l)[aC g i]?=l[i]?:=P5 w g l i
def h_ (o:O):(mk w<|g++l).set (aC g i) o=mk w (g++l.set i o):=TL w g l i o
def yq (o:O):iJ o (mk w<|g++l)=J (.ok<|.ref<|aC g l.length,mk w<|g++(l++[o])):=(
  congr (al (λa b=>J (mW<|V.ref a,b)) ((Hu w _).trans ((al (17+·) bH).trans (iC ..).symm)))<|(Ht w _ _).trans<|al (mk w)<|bD g l [o])
def sZ (o:O):iJ o (mk w g)=J (.ok<|.ref<|aC g 0,mk w<|g++[o]):=by have:=yq (w:=w) (g:=g) (l:=[]) o;rwa [dI]at this
def eP {a:List V} (h:ma a.length ar=ac):ew a (mk w<|g++l)=J (.ok<|.ref<|aC g l.length,mk w<|g++(l++[.X a])):=(aK<|jm h).trans<|yq _
def cX {a:List V} (h:ma a.length ar=ac):ew a (mk w g)=J (.ok<|.ref<|aC g 0,mk w<|g++[.X a]):=(aK<|jm h).trans<|sZ _
def JH:e_ p .set [] (mk w<|g++l)=J (.ok<|.ref<|aC g l.length,mk w<|g++(l++[.set []])):=yq _
def JI:e_ p .set [] (mk w g)=J (.ok<|.ref<|aC g 0,mk w<|g++[.set []]):=sZ _
def dj (h:l[i]?=J o) (a:mO o m=ac):lK (.ref<|aC g i) m (mk w<|g++l)=J (aC g i):=po (dB.trans h) a
def fc {a:List V} (h:l[i]?=J (.X a)):e_ p .bb [.ref<|aC g i] (mk w<|g++l)=J (.ok<|.I a.length,mk w<|g++l):=mD p _<|dB.trans h
def vt {a:List V} (h:l[i]?=J (.X a)) (b:a.length<ar):fM Q (aC g i) 0 [v] (mk w<|g++l)=J (.ok .a6,mk w<|g++l.set i (.X<|a++[v])):=U (jB (dB.trans h) (show 0<3 by decide))<|U (oT (dB.trans h) b)<|U (h_ _) rfl
def lc {b:List a} {x:a} (h:l[i]?=J (.X<|b.map f)) (c:b.length<ar):fM Q (aC g i) 0 [f x] (mk w<|g++l)=J (.ok .a6,mk w<|g++l.set i (.X<|(b++[x]).map f)):=(vt h<|dK (bp<|bX _) c).trans<|al (λz=>J (mW V.a6,mk w<|g++l.set i (.X z))) (g_ (l₂:=[x])).symm
def iw {r:R V} {c:List O} (h:r=J (.ok v,mk w<|a++b++c)):r=J (.ok v,mk w<|a++(b++c)):=am (bD a b c) h
def hZ (h:l[i]?=J (.X<|a++[v])):fM Q (aC g i) 3 [] (mk w<|g++l)=J (.ok v,mk w<|g++l.set i (.X a)):=U (jB (dB.trans h) (show 0<3 by decide))<|U (Sy<|dB.trans h)<|U (h_ _) rfl
def ot {a:List V} {k:Nat} {v:V} (h:l[i]?=J (.X a)) (e:a[k]?=J v):go (.ref<|aC g i) (.I k) (mk w<|g++l)=J v:=iq (dB.trans h) e
def B6 {s:List Int} (h:l[i]?=J (.set s)) (e:s.contains z=b):ex .In (.I z) (.ref<|aC g i) (mk w<|g++l)=J b:=by show(((mk w<|g++l)[aC g i]?).bind λo=>xg o<|.I z)=_;exact U dB<|U h<|al J e
def B_ {s:List Int} (h:l[i]?=J (.set s)) (e:s.contains z=b):ex .NotIn (.I z) (.ref<|aC g i) (mk w<|g++l)=J (!b):=al (hm nK)<|B6 (w:=w) (g:=g) h e
def BZ {s:List Int} (h:l[i]?=J (.set s)) (e:s.contains z=aa) (a:s.length<gC):fM Q (aC g i) 6 [.I z] (mk w<|g++l)=J (.ok .a6,mk w<|g++l.set i (.set<|s++[z])):=by refine U (jB (dB.trans h) (show 2<3 by decide)) ?_;show((((mk w<|g++l)[aC g i]?).bind BK).bind λs=>if s.length<gC then ok V.a6<|(mk w<|g++l).set (aC g i)<|.set<|if s.contains z then s else s++[z]else Y)=_;refine U dB<|U h ?_;show(if s.length<gC then ok V.a6<|(mk w<|g++l).set (aC g i)<|.set<|if s.contains z then s else s++[z]else Y)=_;refine U (aK a)<|U e<|U (h_ _) ?_;rfl
def s_ {c:Nat} {b:List<|Nat×V} (h:l[i]?=J (.a3 c b)) (e:b.lookup a=J v):rN (.ref<|aC g i) a (mk w<|g++l)=J v:=by delta rN;dsimp only;exact U dB<|U h e
def RH:(hb a b=aa)=(a≠b):=propext ⟨Nat.ne_of_beq_eq_false,λh=>by cases z:hb a b;rfl;exact bt (Ky z) h⟩
def II (c a:Nat) (b:List<|Nat×V):Bool:=ma b.length 100&&(!hb c 1&&(!hb c 7&&yJ a fu.length))
def JG {c:Nat} (h:l[i]?=J (.a3 c b)) (d:II c a b=ac):sU (.ref<|aC g i) a v (mk w<|g++l)=J (mk w<|g++l.set i (.a3 c<|eM b a v)):=by
 have d:b.length<=100/\(c≠1/\c≠7)/\a<fu.length:=by simpa only[II,JZ,Cn,tw,RH,V1,and_assoc]using d
 delta sU;dsimp only;exact U dB<|U h<|(aK d).trans<|al J<|h_ _
end
section
variable {w:aM} {g:List O} (n:Nat) (p:Bool)
noncomputable def vf (a:Nat) (e:Nat):O:=.a3 5 [(13,.I a),(12,.ref e)]
def xV:qk (aD (n+1) p) (.c2 5) [.ref 9] (mk w g)=J (.ok<|.ref<|aC g 0,mk w<|g++[vf (w.H.length+1)<|aC g 1,.set []]):=by
 have c:aD (n+1) p 44 [.ref<|aC g 0,.ref 9] (mk w<|g++[.a3 5 []])=J (.ok .a6,mk w<|g++[vf (w.H.length+1)<|aC g 1,.set []]):=aL Pp rfl 356 λa=>(a (xq p) (JG rfl rfl) JH (JG rfl rfl):);have d:∀a,qk (aD (n+1) p) (.c2 5) [.ref 9] a=br (aD (n+1) p 44 [.ref a.length,.ref 9]<|a++[.a3 5 []]) λr b=>if qA r then ok (.ref a.length) b else Y:=λ_=>rfl
 rw[d,Ht,Hu,show 17+g.length=aC g 0 from rfl,c]
 rfl
def Js {Q:Nat->List V->ae->R V} {A:List V} {l:List O} {i c m:Nat} (h:l[i]?=J (.a3 c b)) (e:kX.lookup (c,m)=J k):fM Q (aC g i) m A (mk w<|g++l)=Q k (.ref (aC g i)::A) (mk w<|g++l):=(by
  show(match(mk w<|g++l)[aC g i]?with
   |some (.a3 d _)=>match kX.lookup (d,m)with|some a=>Q a (.ref (aC g i)::A)<|mk w<|g++l|none=>Y
   |_=>iu (aC g i) m A<|mk w<|g++l)=_
  refine U (dB.trans h) ?_
  show(match kX.lookup (c,m)with
    |some a=>Q a (V.ref (aC g i)::A)<|mk w<|g++l|none=>Y)=_
  exact U e rfl)
def fz (a:Nat) (c d:ag):Int:=cp c*a+cp d
def DU {c:ag} {s:List Int} {l:List O} (h:l[0]?=J (vf a<|aC g 1)) (e:l[1]?=J (.set s)) (f:small (cp c)=ac) (i:small a=ac) (q:fz a c d∈s):
  fM (aD (n+1) p) (aC g 0) 6 [an c,an d] (mk w<|g++l)=J (.ok<|.ad aa,mk w<|g++l):=by
 have j:s.contains (cp c*a+cp d)=ac:=tr.mpr q;refine(Js h rfl).trans ?_;exact aL FD rfl 3162 λb=>b (kj _) (s_ h rfl) (uh f i) (kj _) (s_ h rfl)<|B6 e j
def DT {c:ag} {s:List Int} {l:List O} (h:l[0]?=J (vf a<|aC g 1)) (e:l[1]?=J (.set s)) (i:small (cp c)=ac) (j:small a=ac) (q:fz a c d∉s) (k:s.length<gC):
  fM (aD (n+1) p) (aC g 0) 6 [an c,an d] (mk w<|g++l)=J (.ok<|.ad ac,mk w<|g++l.set 1 (.set<|s++[fz a c d])):=by
 have f:s.contains (cp c*a+cp d)=aa:=ov.mpr λz=>q<|tr.mp z;refine(Js h rfl).trans ?_;exact aL FD rfl 183386 λb=>b (kj _) (s_ h rfl) (uh i j) (kj _) (s_ h rfl) (B6 e f) (s_ h rfl) (dj e rfl)<|BZ e f k
end
section
variable {w:aM} {g:List O} (n:Nat) (p:Bool)
def qy {l:List O} {i:Nat} (a:j=g.length+i):(g++l)[j]?=l[i]?:=(U a ((mY<|ck _ _).trans (al (l[·]?)<|pK _ _)))
def x9 {l:List O} {i:Nat} (a:j=g.length+i):(g++l).set j o=g++l.set i o:=U a<|(vR _ _<|ck _ _).trans<|al (λz=>g++l.set z o)<|pK _ _
def vd (k:Nat):(0:Int)<(k:Int)+1:=Int.lt_add_one_of_le<|lf k
def fO {b:Type} {f:b->V} (l:List b) (a:b):(0:Int)<((l++[a]).map f).length:=U (bX _)<|U bH<|vd l.length
def fP {b:Type} {f:b->V} {l:List b} {a:b}:J (O.X<|(l++[a]).map f)=J (.X<|l.map f++[f a]):=al (λz=>J<|O.X z) g_
def Ij {l:List O} {c:ag} {m e i:Nat} {y:List<|ag×ag} {h:List ag} (o:bV w.nm w.H c f k b) (a:bV w.nm w.H d m k e) (q:l[i]?=J (.X<|y.map gs)) (r:y.length+2<=ar) (v:kC w.H b k h) (x:kC w.H e k j):
  aD (n+3) p 47 [.ref 9,an c,an d,.ref<|aC g i] (mk w<|g++l)=J (.ok .a6,mk w<|g++l.set i (.X<|(y++h.zip j).map gs)):=
 (SK n p o a (iC _ _ _) ((qy rfl).trans q) r v x).trans<|al (λz=>J (mW V.a6,mk w z))<|x9 rfl
end
def rz (g:List O) (x:Nat) (t:ap):Prop:=(t 0,t 1,t 3,t 4)=(J<|.ref 9,J<|an<|.ref x,J<|.ref<|aC g 0,J<|.ref<|aC g 1)
section
variable {g:List O} {x:Nat} {t:ap} (L:rz g x t)
include L
def rz.bl:t 0=J (.ref 9):=al (·.1) L
def rz.dz:t 1=J (an<|.ref x):=al (·.2.1) L
def rz.cv:t 3=J (.ref<|aC g 0):=al (·.2.2.1) L
def rz.ce:t 4=J (.ref<|aC g 1):=al (·.2.2.2) L
end
def LC (w:aM) (g:List O) (r:Bool) (z:cx):Prop:=∃t l,z=J (.ok (if r then .aO<|.ad ac else .a1) t<|mk w<|g++l)
def kb (u:aw) (H:bh) (x:Nat) (s:List Int) (y:List ag) (r:Bool):Prop:=∀(w:aM) (n:Nat) (p:Bool) (g:List O) (t:ap),rz g x t->LC (w.at u H) g r (eD (aD<|n+3) p (jj Av.body) (jT Av.body) t<|mk (w.at u H)<|g++[.set s,.X<|y.map an])
def kH (u:aw) (H:bh) (x:Nat) (c:ag) (r:Bool):Prop:=∀(w:aM) (n:Nat) (p:Bool) (g:List O),∃l,aD (n+4) p 52 [.ref 9,an<|.ref x,an c] (mk (w.at u H) g)=J (.ok<|.ad r,mk (w.at u H)<|g++l)
section
variable {u:aw} {H:bh} {x:Nat} {s:List Int} {y:List ag} {c e:ag} {r:Bool}
def kb.g3 (s:List Int):kb u H x s [] aa:=λw n p g t L=>dn t _<|ci 3 λa=>a L.ce<|fc rfl
def kb.le (d:bu H c<|.ref x):kb u H x s (y++[c]) ac:=λw n p g t L=>dn _ _<|ci 7131 λa=>a L.ce (fc rfl) (cz<|fO _ _) L.bl L.ce (dj rfl rfl) (hZ fP) (dc _ p d) L.dz<|qn<|@rfl ag<|.ref _
def kb.gS (d:bu H c e) (b:e≠.ref x) (f:bk e=3->cp e∈s) (h:kb u H x s y r):kb u H x s (y++[c]) r:=λw n p g t L=>aZ (bk e=3)
 (λq=>dC (ci 15506395 λa=>a L.ce (fc rfl) (cz<|fO _ _) L.bl L.ce (dj rfl rfl) (hZ fP) (dc _ p d) L.dz (gk b) L.bl (oW _ p _) (cz q) (kj _) L.cv<|B_ rfl<|tr.mpr<|f q)<|h w n p g _<|by exact L)
 λq=>dC (ci 826331 λa=>a L.ce (fc rfl) (cz<|fO _ _) L.bl L.ce (dj rfl rfl) (hZ fP) (dc _ p d) L.dz (gk b) L.bl (oW _ p _)<|gP q)<|h w n p g _<|by exact L
def vj (a:bk e=3):e≠.ref x:=λz=>bt (show(0:Int)=3 from(z▸a:bk (.ref x)=3))<|by decide
def kb.iS {j:List ag} {f k b:Nat} (d:bu H c e) (h:bV u H e f k b) (i:cp e∉s) (l:s.length<gC) (m:y.length+2<=ar) (o:kC H b k j) (v:kb u H x (s++[cp e]) (y++j) r):kb u H x s (y++[c]) r:=λw n p g t L=>
 have q:s.contains (cp e)=aa:=ov.mpr λz=>i (tr.mp z)
 dC (ci 14880119771 λa=>a L.ce (fc rfl) (cz<|fO _ _) L.bl L.ce (dj rfl rfl) (hZ fP) (dc _ p d) L.dz (gk<|vj h.bk) L.bl (oW _ p _) (cz h.bk) (kj _) L.cv (B_ rfl q) L.cv (dj rfl rfl) (kj _) (BZ rfl q l) L.bl L.ce<|(
   (SI n p h (iC _ _ _) ((qy rfl).trans rfl) m o).trans<|al (λz=>J (mW V.a6,mk (w.at u H) z))<|x9 rfl))<|v w n p g _<|by exact L
def kH.le (d:bu H c<|.ref x):kH u H x c ac:=λw n p g=>⟨[],by refine U (dI _) ?_;exact aL wZ rfl 72 λa=>a (dc _ p d)<|qn<|@rfl ag<|.ref _⟩
def kH.atom (d:bu H c e) (b:e≠.ref x) (f:bk e≠3):kH u H x c aa:=λw n p g=>⟨[],by refine U (dI _) ?_;exact aL wZ rfl 196680 λa=>a (dc _ p d) (gk b) (oW _ p _)<|gP f⟩
def kH.r3 (d:bu H c e) (b:bk e=3) (h:kb u H x [] [e] r):kH u H x c r:=λw n p g=>
 fq (h w n p g (aB (aB (aB (aB (aB (aB (λ_=>Y) 2<|an c) 1<|an<|.ref x) 0<|.ref 9) 2<|an e) 3<|.ref<|aC g 0) 4<|.ref<|aC g 1) rfl) λf l z=>⟨l,by
  cases r
  ·exact aL wZ rfl 7012424 λa=>a (dc _ p d) (gk<|vj b) (oW _ p _) (cz b) JI (eP (a:=[an e]) rfl) z
  ·exact aL wZ rfl 7012424 λa=>a (dc _ p d) (gk<|vj b) (oW _ p _) (cz b) JI (eP (a:=[an e]) rfl) z⟩
end
end
section
open PySem
def oJ (g:aw) (H:bh) (c d:ag):Prop:=bk c≠3\/bk c=3/\∀(w:aM) (n:Nat) (a:List O),aD (n+1) aa 48 [.ref 9,an c,an d] (mk (w.at g H) a)=J (.ok<|.ad aa,mk (w.at g H) a)
section
variable {g:aw} {H:bh} {c d:ag}
def oJ.atom (h:bk c≠3):oJ g H c d:=.inl h
def oJ.fs (h:bk c=3) (e:bU c≠bU d):oJ g H c d:=.inr ⟨h,λw n a=>by exact aL sa rfl 42 λb=>b (iO _) (iO _)<|jz e⟩
def oJ.aA {f k b e u:Nat} (h:bV g H c f k b) (r:bV g H d e l u) (q:¬(bU c=bU d/\f=e)):oJ g H c d:=.inr ⟨h.bk,λw n a=>Td (w:=w.at g H) n aa h r q⟩
end
section
variable {w:aM} {a:List O} (n:Nat) (t:Bool)
def bV.fs {g:aw} {H:bh} {c:ag} {f k b:Nat} (h:bV g H c f k b):bU c≠0:=h.E (C:=λc _ _ _=>bU c≠0) (λ_=>nofun) λ_ _ _ _ _ _=>nofun
def wI {x:Nat} {c:ag} {r:Bool} (h:kH w.nm w.H x c r) (e:x<w.H.length):∃d,aD (n+5) t 51 [.ref 9,an<|.ref x,an c,.ad ac] (mk w<|a++l)=J (.ok<|.ad<|!r,mk (bif r then w else w.sH<|w.H.set x c)<|a++(l++d)):=
 bw (h w n t<|a++l) λd z=>⟨d,am (bD a l d) (by
  cases r
  ·exact aL FI rfl 4160 λb=>b z<|zR _ t e
  ·exact aL FI rfl 64 λb=>b z)⟩
def tf (a:List O) (j:Nat) (i:List Int) (o:List V) (b:List O):List O:=vf j (aC a 1):: .set i:: .X o::b
def lY {c:ag} {b:ae} (h:bU c≠0):aD (n+1) t 49 [an c] b=J (.ok<|.ad aa,b):=(qY n t c b).trans<|by exact U (decide_eq_false h) rfl
def ut {c:ag} (h:bk c=3):aD (n+1) t 33 [.ref 9,an c] (mk w a)=J (.ok<|.ad ac,mk w a):=(oW n t c).trans<|by exact U (decide_eq_true h) rfl
def Nf {c:ag} (h:bk c≠3):aD (n+1) t 33 [.ref 9,an c] (mk w a)=J (.ok<|.ad aa,mk w a):=(oW n t c).trans<|by exact U (decide_eq_false h) rfl
end
def rF (a:List O) (m:ap):Prop:=(m 0,m 3,m 4,m 5)=(J<|.ref 9,J<|.ad ac,J<|.ref<|aC a 0,J<|.ref<|aC a 2)
section
variable {a:List O} {m:ap} (L:rF a m)
include L
def rF.bl:m 0=J (.ref 9):=al (·.1) L
def rF.cv:m 3=J (.ad ac):=al (·.2.1) L
def rF.ce:m 4=J (.ref<|aC a 0):=al (·.2.2.1) L
def rF.bA:m 5=J (.ref<|aC a 2):=al (·.2.2.2) L
end
def LP (w:aM) (a:List O) (r:Bool) (z:cx):Prop:=∃m l,z=J (.ok (if r then .a1 else .aO<|.ad aa) m<|mk w<|a++l)
def dE (g:aw) (j:Nat) (H:bh) (i:List Int) (o:List<|ag×ag) (r:Bool) (p:bh):Prop:=∀(w:aM) (n:Nat) (a b:List O) (m:ap),small j=ac->rF a m->LP (w.at g p) a r (eD (aD<|n+5) aa (jj Au.body) (jT Au.body) m<|mk (w.at g H)<|a++tf a j i (o.map gs) b)
section
variable {g:aw} {j:Nat} {H p:bh} {i:List Int} {o:List (ag×ag)} {c d e s:ag} {x y:Nat} {r:Bool}
def dE.g3 (H:bh) (i:List Int):dE g j H i [] ac H:=λw n a c m d L=>dn m _<|ci 3 λb=>b L.bA<|fc rfl
def dE.lo (f:bu H c e) (h:bu H d e) (k:dE g j H i o r p):dE g j H i (o++[(c,d)]) r p:=λw n a l m q L=>dC (ci 301435 λb=>b L.bA (fc rfl) (cz<|fO _ _) L.bA (dj rfl rfl) (hZ fP) L.bl (dc _ _ f) L.bl (dc _ _ h)<|qn<|@rfl ag e)<|k w n a l _ q<|by exact L
def dE.vv (h:bu H c<|.ref x) (k:bu H d<|.ref y) (l:x<H.length) (q:y<H.length) (f:x≠y) (v:dE g j (if x<y then H.set y<|.ref x else H.set x<|.ref y) i o r p):dE g j H i (o++[(c,d)]) r p:=λw n a z m A L=>dC (ci 1160026491 λb=>b L.bA (fc rfl) (cz<|fO _ _) L.bA (dj rfl rfl) (hZ fP) L.bl (dc _ _ h) L.bl (dc _ _ k) (gk λe=>f<|ag.ref.inj e) (qY _ _ _ _) (qY _ _ _ _) L.bl<|MJ (w:=w.at g H) _ _ l q f)<|v w n a z _ A<|by exact L
def dE.bl (k:bu H c<|.ref x) (v:bu H d e) (f:bU e≠0) (y:x<H.length) (z:kH g H x e aa) (A:dE g j (H.set x e) i o r p):dE g j H i (o++[(c,d)]) r p:=λw n a h m B L=>bw (wI (w:=w.at g H) (a:=a) (l:=tf a j i (o.map gs) h) n aa z y) λC D=>dC (ci 1696897403 λb=>b L.bA (fc rfl) (cz<|fO _ _) L.bA (dj rfl rfl) (hZ fP) L.bl (dc _ _ k) L.bl (dc _ _ v) (gk λq=>f<|am q rfl) (qY _ _ (.ref _) _) (lY _ _ f) L.bl L.cv D)<|A w n a (h++C) _ B<|by exact L
def dE.r5 (h:bu H c<|.ref x) (k:bu H d e) (f:bU e≠0) (r:x<H.length) (v:kH g H x e ac):dE g j H i (o++[(c,d)]) aa H:=λw n a y m A L=>bw (wI (w:=w.at g H) (a:=a) (l:=tf a j i (o.map gs) y) n aa v r) λB z=>dn _ _<|ci 1696897403 λb=>b L.bA (fc rfl) (cz<|fO _ _) L.bA (dj rfl rfl) (hZ fP) L.bl (dc _ _ h) L.bl (dc _ _ k) (gk λq=>f<|am q rfl) (qY _ _ (.ref _) _) (lY _ _ f) L.bl L.cv z
def dE.br (k:bu H c e) (v:bu H d<|.ref x) (f:bU e≠0) (y:x<H.length) (z:kH g H x e aa) (A:dE g j (H.set x e) i o r p):dE g j H i (o++[(c,d)]) r p:=λw n a h m B L=>bw (wI (w:=w.at g H) (a:=a) (l:=tf a j i (o.map gs) h) n aa z y) λC D=>dC (ci 1696897403 λb=>b L.bA (fc rfl) (cz<|fO _ _) L.bA (dj rfl rfl) (hZ fP) L.bl (dc _ _ k) L.bl (dc _ _ v) (gk λq=>f<|U q rfl) (lY _ _ f) (qY _ _ (.ref _) _) L.bl L.cv D)<|A w n a (h++C) _ B<|by exact L
def dE.r7 (h:bu H c e) (k:bu H d<|.ref x) (f:bU e≠0) (r:x<H.length) (v:kH g H x e ac):dE g j H i (o++[(c,d)]) aa H:=λw n a y m A L=>bw (wI (w:=w.at g H) (a:=a) (l:=tf a j i (o.map gs) y) n aa v r) λB z=>dn _ _<|ci 1696897403 λb=>b L.bA (fc rfl) (cz<|fO _ _) L.bA (dj rfl rfl) (hZ fP) L.bl (dc _ _ h) L.bl (dc _ _ k) (gk λq=>f<|U q rfl) (lY _ _ f) (qY _ _ (.ref _) _) L.bl L.cv z
def dE.lt (h:bu H c e) (k:bu H d s) (l:bU e≠0) (q:bU s≠0) (f:e≠s) (r:oJ g H e s):dE g j H i (o++[(c,d)]) aa H:=λw n a x m y L=>r.elim
 (λv=>⟨_,_,ci 1227135355 λb=>b L.bA (fc rfl) (cz<|fO _ _) L.bA (dj rfl rfl) (hZ fP) L.bl (dc _ _ h) L.bl (dc _ _ k) (gk f) (lY _ _ l) (lY _ _ q) L.bl<|Nf _ _ v⟩)
 λz=>⟨_,_,ci 39881841019 λb=>b L.bA (fc rfl) (cz<|fO _ _) L.bA (dj rfl rfl) (hZ fP) L.bl (dc _ _ h) L.bl (dc _ _ k) (gk f) (lY _ _ l) (lY _ _ q) L.bl (ut _ _ z.1) L.bl<|z.2 w (n+4) _⟩
section
variable {f k b u:Nat}
def dE.h6 (z:bu H c e) (A:bu H d s) (l:e≠s) (q:bV g H e f k b) (x:bV g H s f k u) (B:bU e=bU s) (C:small (cp e)=ac) (F:i.length<gC) (v:fz j e s∈i) (D:dE g j H i o r p):dE g j H i (o++[(c,d)]) r p:=λw n a E m y L=>dC (ci 2651221956987 λh=>h L.bA (fc rfl) (cz<|fO _ _) L.bA (dj rfl rfl) (hZ fP) L.bl (dc _ _ z) L.bl (dc _ _ A) (gk l) (lY _ _ q.fs) (lY _ _ x.fs) L.bl (ut _ _ q.bk) L.bl (IG (w:=w.at g H) _ _ q x B) L.ce (dj rfl rfl)<|DU _ _ rfl rfl C y v)<|D w n a E _ y<|by exact L
def dE.g4 {y:List ag} (B:bu H c e) (C:bu H d s) (q:e≠s) (l:bV g H e f k b) (v:bV g H s f k u) (D:bU e=bU s) (E:small (cp e)=ac) (x:fz j e s∉i) (F:i.length<gC) (I:o.length+2<=ar) (J:kC H b k y) (K:kC H u k z)
  (M:dE g j H (i++[fz j e s]) (o++y.zip z) r p):dE g j H i (o++[(c,d)]) r p:=λw n a N m A L=>
 dC (ci 222553547512187 λh=>h L.bA (fc rfl) (cz<|fO _ _) L.bA (dj rfl rfl) (hZ fP) L.bl (dc _ _ B) L.bl (dc _ _ C) (gk q) (lY _ _ l.fs) (lY _ _ v.fs) L.bl (ut _ _ l.bk) L.bl (IG (w:=w.at g H) _ _ l v D) L.ce (dj rfl rfl) (DT _ _ rfl rfl E A x F) L.bl L.bA<|Ij (w:=w.at g H) (n+2) aa l v rfl I J K)<|M w n a N _ A<|by exact L
end
end
section
variable {w:aM} {a:List O} (n:Nat)
def U5 {c d:ag} {p:bh} {r:Bool} (e:small (w.H.length+1:Nat)=ac) (h:dE w.nm (w.H.length+1) w.H [] [(c,d)] r p):
  ∃l,aD (n+6) aa 50 [.ref 9,an c,an d,.ad ac] (mk w a)=J (.ok<|.ad r,mk (w.sH p)<|a++l):=
 fq (h w n a [] (aB (aB (aB (aB (aB (aB (λ_=>Y) 3<|.ad ac) 2<|an d) 1<|an c) 0<|.ref 9) 4<|.ref<|aC a 0) 5<|.ref<|aC a 2) e rfl) λf l z=>⟨l,by
  cases r
  ·exact aL FH rfl 50 λb=>b (xV _ _) (eP (a:=[gs (c,d)]) rfl) z
  ·exact aL FH rfl 50 λb=>b (xV _ _) (eP (a:=[gs (c,d)]) rfl) z⟩
end
end
section
open PySem
def jx (a:aw) (H:bh) (c d:ag) (r:Int):Prop:=∀(w:aM) (n:Nat) (b:Bool) (g:List O),aD (n+3) b 56 [.ref 9,an c,an d] (mk (w.at a H) g)=J (.ok<|.I r,mk (w.at a H) g)
section
variable {a:aw} {H:bh}
def jx.r8 {c d:ag} (h:bk c≠bk d):jx a H c d<|ee (bk c)<|bk d:=λw n e g=>(by
  have:ee (bk c) (bk d)≠0:=by
   refine gf (Int.lt_or_gt_of_ne h) (λb=> ?_)<|λb=> ?_
   ·refine U (HU b) ?_;decide
   ·refine U (HT b) ?_;decide
  exact aL w0 rfl 306 λb=>b (qO _ e _ _) (qO _ e _ _) (qL _ e _ _ _)<|jz this)
theorem jx.I (x y:Int):jx a H (.I x) (.I y)<|ee x y:=λw n c g=>by exact aL w0 rfl 524338 λb=>b (qO _ c _ _) (qO _ c _ _) (qL _ c _ _ _)<|qL _ c _ _ _
theorem jx.a5 {d:List Nat} (q:a.bf[x]?=J s) (e:a.bf[y]?=J d):jx a H (.a5 x) (.a5 y)<|eV s d:=λw n c g=>by exact aL w0 rfl 1619001394 λb=>b (qO _ c _ _) (qO _ c _ _) (qL _ c _ _ _) (ta (n+1) c _ _ q) (ta (n+1) c _ _ e)<|HY _ c _ _ _
def jx.g4 {c d:ag} {f k b u:Nat} {p r:Nat×Nat} (h:bV a H c f k b) (z:bV a H d x A u) (e:a.aW[f]?=J p) (j:a.aW[x]?=J r) (q:a.bf[p.1]?=J s) (B:a.bf[r.1]?=J y):jx a H c d<|if f=x then 0 else if ee p.2 r.2≠0 then ee p.2 r.2 else eV s y:=λw n v g=>by exact aL w0 rfl 2097202 λl=>l (It _ v h.bk) (It _ v z.bk) (qL _ v _ _ _)<|TM n v h z e j q B
end
def tM (g:List O) (i:ap):Prop:=(i 0,i 3,i 4)=(J<|.ref 9,J<|.ref<|aC g 0,J<|.ref<|aC g 2)
section
variable {g:List O} {i:ap} (L:tM g i)
include L
def tM.bl:i 0=J (.ref 9):=al (·.1) L
def tM.cv:i 3=J (.ref<|aC g 0):=al (·.2.1) L
def tM.ce:i 4=J (.ref<|aC g 2):=al (·.2.2) L
end
def Lc (w:aM) (g:List O) (r:Int) (z:cx):Prop:=∃i l,z=J (.ok (if r=0 then .a1 else .aO<|.I r) i<|mk w<|g++l)
def gy (a:aw) (o:Nat) (H:bh) (m:List Int) (t:List<|ag×ag) (r:Int):Prop:=∀(w:aM) (n:Nat) (g:List O) (i:ap),small o=ac->tM g i->Lc (w.at a H) g r (eD (aD<|n+5) aa (jj Aw.body) (jT Aw.body) i<|mk (w.at a H)<|g++tf g o m (t.map gs) [])
section
variable {a:aw} {o:Nat} {H:bh} {m:List Int} {t:List (ag×ag)} {c d e j:ag} {r:Int}
def gy.g3 (m:List Int):gy a o H m [] 0:=λw n g i c L=>dn i _<|ci 3 λb=>b L.ce<|fc rfl
def gy.lo (f:bu H c e) (h:bu H d e) (k:gy a o H m t r):gy a o H m (t++[(c,d)]) r:=λw n g i l L=>dC (ci 301435 λb=>b L.ce (fc rfl) (cz<|fO _ _) L.ce (dj rfl rfl) (hZ fP) L.bl (dc _ _ f) L.bl (dc _ _ h)<|qn<|@rfl ag e)<|k w n g _ l<|by exact L
def gy.cs (k:bu H c e) (l:bu H d j) (f:e≠j) (p:jx a H e j r) (h:r≠0):gy a o H m (t++[(c,d)]) r:=λw n g i q L=>dn _ _<|U (aX h)<|ci 76847483 λb=>b L.ce (fc rfl) (cz<|fO _ _) L.ce (dj rfl rfl) (hZ fP) L.bl (dc _ _ k) L.bl (dc _ _ l) (gk f) L.bl (p w (n+2) aa _)<|jz h
section
variable {f k b u:Nat}
def gy.h6 (s:bu H c e) (v:bu H d j) (l:e≠j) (x:jx a H e j 0) (y:bV a H e f k b) (B:bV a H j f k u) (z:small (cp e)=ac) (C:m.length<gC) (p:fz o e j∈m) (A:gy a o H m t r):gy a o H m (t++[(c,d)]) r:=λw n g i q L=>dC (ci 165634414971 λh=>h L.ce (fc rfl) (cz<|fO _ _) L.ce (dj rfl rfl) (hZ fP) L.bl (dc _ _ s) L.bl (dc _ _ v) (gk l) L.bl (x w (n+2) aa _) L.bl (ut _ _ y.bk) L.cv (dj rfl rfl)<|DU _ _ rfl rfl z q p)<|A w n g _ q<|by exact L
def gy.g4 {q:List ag} (y:bu H c e) (z:bu H d j) (l:e≠j) (A:jx a H e j 0) (v:bV a H e f k b) (B:bV a H j f k u) (C:small (cp e)=ac) (p:fz o e j∉m) (D:m.length<gC) (E:t.length+2<=ar) (F:kC H b k q) (I:kC H u k s)
  (J:gy a o H (m++[fz o e j]) (t++q.zip s) r):gy a o H m (t++[(c,d)]) r:=λw n g i x L=>
 dC (ci 13909529762171 λh=>h L.ce (fc rfl) (cz<|fO _ _) L.ce (dj rfl rfl) (hZ fP) L.bl (dc _ _ y) L.bl (dc _ _ z) (gk l) L.bl (A w (n+2) aa _) L.bl (ut _ _ v.bk) L.cv (dj rfl rfl) (DT _ _ rfl rfl C x p D) L.bl L.ce<|Ij (w:=w.at a H) (n+2) aa v B rfl E F I)<|J w n g _ x<|by exact L
end
end
section
variable {w:aM} {g:List O} (n:Nat)
def Nq {c d:ag} {r:Int} (e:small (w.H.length+1:Nat)=ac) (h:gy w.nm (w.H.length+1) w.H [] [(c,d)] r):
  ∃l,aD (n+6) aa 57 [.ref 9,an c,an d] (mk w g)=J (.ok<|.I r,mk w<|g++l):=
 fq (h w n g (aB (aB (aB (aB (aB (λ_=>Y) 2<|an d) 1<|an c) 0<|.ref 9) 3<|.ref<|aC g 0) 4<|.ref<|aC g 2) e rfl) λf l z=>⟨l,aZ (r=0)
  (λq=>by subst q;exact aL FJ rfl 50 λb=>b (xV _ _) (eP (a:=[gs (c,d)]) rfl) z)
  λq=>by
   rw[aX q]at z
   exact aL FJ rfl 50 λb=>b (xV _ _) (eP (a:=[gs (c,d)]) rfl) z⟩
end
end
section
open PySem
def tT (m:List O) (r:ap):Prop:=(r 0,r 2,r 3)=(J<|.ref 9,J<|.ref<|aC m 0,J<|.ref<|aC m 1)
section
variable {m:List O} {r:ap} (L:tT m r)
include L
def tT.bl:r 0=J (.ref 9):=al (·.1) L
def tT.cw:r 2=J (.ref<|aC m 0):=al (·.2.1) L
def tT.cv:r 3=J (.ref<|aC m 1):=al (·.2.2) L
end
def Lw (w:aM) (m:List O) (a:List ag) (t:ag) (z:cx):Prop:=∃r Q,z=J (.ok .a1 r<|mk w<|m++[.X<|a.map an,.set Q])/\r 1=J (an t)/\r 2=J (.ref<|aC m 0)
def eK (H:bh) (Q:List Int) (c:ag) (b:List ag) (t:ag):Prop:=∀(w:aM) (d:aw) (n:Nat) (s:Bool) (m:List O) (r:ap) (a:List ag),tT m r->r 1=J (an c)->a.length+b.length<=ar->Lw (w.at d H) m (a++b) t (eD (aD<|n+1) s (jj Ar.body) (jT Ar.body) r<|mk (w.at d H)<|m++[.X<|a.map an,.set Q])
section
variable {H:bh} {Q:List Int}
def eK.dG {c:ag} (h:bU c≠3):eK H Q c [] c:=λw e n s m r d L b f=>dD r Q (U (dI d)<|ci 14 λa=>a b (iO c)<|dt h) b L.cw
def eK.cT {b:Nat} {a y e c t:ag} {h:List ag} (i:(b:Int)∉Q) (o:Q.length<gC) (p:H[b]?=J a) (u:bu H a e) (v:H[b+1]?=J y) (A:bu H y c) (B:eK H (Q++[(b:Int)]) c h t):eK H Q (.b0 b) (e::h) t:=λw C n s m r k L g l=>
 have q:Q.contains (b:Int)=aa:=ov.mpr λz=>i (tr.mp z)
 am (bD k [e] h)<|dC (ci 27240684962 λd=>d g g L.cv (B_ rfl q) L.cv (dj rfl rfl) g (BZ rfl q o) L.cw (dj rfl rfl) L.bl L.bl g (ga p) (dc n s u) (lc (f:=an) (x:=e) rfl<|dL (li<|hF _) l) L.bl L.bl g (ga v)<|dc n s A)
  (B w C n s m _ (k++[e]) (by exact L) (by exact rfl)<|by refine U bH<|U (iC _ _ _)<|U (l_ [e].length _) ?_;exact l)
end
section
variable {w:aM} {m:List O} (n:Nat) (s:Bool)
def uW {b:List ag} (f:bu w.H c d) (h:eK w.H [] d b t) (g:b.length<=ar):∃o,aD (n+2) s 41 [.ref 9,an c] (mk w m)=J (.ok<|.av [.ref<|aC m 0,an t],mk w<|m++[.X<|b.map an,o]):=bF (h w w.nm n s m (aB (aB (aB (aB (aB (λ_=>Y) 1<|an c) 0<|.ref 9) 2<|.ref<|aC m 0) 3<|.ref<|aC m 1) 1<|an d) [] rfl rfl<|aF (bp<|eb _) g) λi e z k l=>⟨.set e,aL Pn rfl 483 λa=>a (cX (a:=[]) rfl) JH (dc n s f) z l k⟩
end
def bW (o:O) (f:Int->Option V) (k:Nat):Prop:=(o=.dE/\k=0/\∀a,f a=Y)\/∃l,o=.dI l/\l.length=k/\∀a,l.lookup a=f a
def bW.b_:bW .dE (λ_=>Y) 0:=.inl<|bB rfl rfl<|λ_=>rfl
section
variable {j:ae} {i:Nat} {o:O} {f:Int->Option V} {k:Nat}
def bW.ld (h:bW o f k):∃l,pj o=J l/\l.length=k/\∀a,l.lookup a=f a:=by
 rcases h with⟨rfl,rfl,e⟩|⟨l,rfl,e,b⟩
 ·exact cM ([]) rfl rfl<|λa=>(e a).symm
 ·exact cM l rfl e b
def bW.mem (h:bW o f k) (g:j[i]?=J o) (a:Int):xh (.I a) (.ref i) j=J (f a).isSome:=by
 show((j[i]?).bind λo=>xg o<|.I a)=_;refine U g ?_;rcases h with⟨rfl,_,e⟩|⟨l,rfl,_,e⟩
 ·refine U (e _) ?_;rfl
 ·refine am (e _) ?_;rfl
def bW.i7 (h:bW o f k) (g:j[i]?=J o) (e:f a=J v):ex .In (.I a) (.ref i) j=J ac:=(h.mem g a).trans<|by refine U e ?_;rfl
def bW.h7 (h:bW o f k) (g:j[i]?=J o) (e:f a=Y):ex .In (.I a) (.ref i) j=J aa:=(h.mem g a).trans<|by refine U e ?_;rfl
def bW.l0 (h:bW o f k) (g:j[i]?=J o) (e:f a=J v):ex .NotIn (.I a) (.ref i) j=J aa:=al (hm nK)<|h.i7 g e
def bW.i8 (h:bW o f k) (g:j[i]?=J o) (e:f a=Y):ex .NotIn (.I a) (.ref i) j=J ac:=al (hm nK)<|h.h7 g e
def bW.ao (h:bW o f k) (g:j[i]?=J o) (e:f a=J v):go (.ref i) (.I a) j=J v:=by
 show((j[i]?).bind λo=>xo o<|.I a)=_;refine U g ?_;rcases h with⟨rfl,_,b⟩|⟨l,rfl,_,b⟩
 ·have e:=cJ (hB<|b _) e;exact aq e
 ·exact(b a).trans e
theorem bW.bb (h:bW o f k) (g:j[i]?=J o) (s:Bool) (b:k<=ar):e_ s .bb [.ref i] j=J (.ok<|.I k,j):=by
 refine cps λc a=> ?_;rcases h with⟨rfl,rfl,_⟩|⟨l,rfl,rfl,_⟩
 ·refine a ?_;show rO [.ref i] j=_;delta rO;dsimp only;exact U g rfl
 ·refine a ?_;show rO [.ref i] j=_;delta rO;dsimp only;exact U g<|aK b
def NK {l:List<|Int×V}:(eM l a v).lookup b=if b=a then J v else l.lookup b:=by
 induction l with
 |nil=>exact iR|cons p l c=>
  obtain⟨x,u⟩:=p;refine aZ (x=a) (λh=> ?_)<|λh=> ?_
  ·subst h
   rw[uz rfl];simp only[iR]
   split<;>rfl
  ·rw[rY h];simp only[iR,c]
   by_cases q:b=x
   ·subst q;simp[h]
   ·simp[q]
def NJ {l:List<|Int×V}:(eM l a v).length=if(l.lookup a).isSome then l.length else l.length+1:=by
 induction l with
 |nil=>rfl|cons p l b=>
  obtain⟨x,u⟩:=p;refine aZ (x=a) (λh=> ?_)<|λh=> ?_
  ·subst h;rw[uz rfl];simp[gt]
  ·have:(a==x)=aa:=by simpa usingλq:a=x=>h q.symm
   rw[rY h];simp only[gY,b,gt,this]
   split<;>rfl
def bW.kind (h:bW o f k):dm o=1:=by rcases h with⟨rfl,_⟩|⟨l,rfl,_⟩<;>rfl
def bW.so (h:bW o f k) (a:Int) (v:V):vq a v o=(pj o).bind λl=>if l.length<=ar then J<|O.dI<|eM l a v else Y:=by rcases h with⟨rfl,_⟩|⟨l,rfl,_⟩<;>rfl
def bW.g5 (h:bW o f k) (g:j[i]?=J o) (a:Int) (v:V) (n:k<=ar):∃c,jh (.ref i) (.I a) v j=J (j.set i c)/\bW c (λb=>if b=a then J v else f b) (if(f a).isSome then k else k+1)/\dm c=dm o:=by refine bR h.ld λl p d e=> ?_;refine cM (.dI<|eM l a v) (?_) (.inr<|cM _ rfl (by rw[NJ,e,d])<|λb=>by exact U NK<|U (e _) rfl) h.kind.symm;show((j[i]?).bind λo=>(vq a v o).map λc=>j.set i c)=_;refine U g ?_;show(vq a v o).map (λc=>j.set i c)=_;rw[h.so,p];show(if l.length<=ar then J<|O.dI<|eM l a v else Y).map (λc=>j.set i c)=_;rw[aK<|by refine U d ?_;exact n];rfl
def bW.d6 (h:bW o f k) (g:j[i]?=J o) (a:Int) (d:V):iu i 5 [.I a,d] j=J (.ok<|(f a).getD d,j):=by refine bR h.ld λl b e c=> ?_;show ir ((j[i]?).bind λo=>(qF a o).map λx=>x.getD d) j=_;refine U g ?_;show ir (((pj o).map λl=>l.lookup a).map λx=>x.getD d) j=_;refine U b ?_;show J (mW<|(l.lookup a).getD d,j)=_;exact U (c _) rfl
end
end
section
open PySem
noncomputable def iU (tb:List Nat):Int->Option V:=λa=>if 0<=a then(tb.idxOf? a.toNat).map λk=>.I (k:Nat)else Y
noncomputable def pz (tb:List Nat) (a:Nat):List Nat:=if a∈tb then tb else tb++[a]
def xb {l:List Nat} (h:a∈l):l.idxOf? a=J (l.idxOf a):=by
 induction l with
 |nil=>cases h
 |cons x l b=>
  refine U VH<|U List.idxOf_cons ?_;refine aZ (x=a) (λq=> ?_)<|λq=> ?_
  ·subst q;simp
  ·have c:(x==a)=aa:=by simpa using q
   refine U c ?_;refine gf (bY.mp h) (λe=> ?_)<|λe=> ?_
   ·exact bt e.symm q
   ·simp[b e]
def AW {l:List Nat} (h:a∉l):l.idxOf? a=Y:=List.idxOf?_eq_none_iff.mpr h
def B0 {tb:List Nat} (h:a∈tb):iU tb a=J (.I<|tb.idxOf a):=by simp[iU,xb h]
def Jp {tb:List Nat} (h:a∉tb):iU tb a=Y:=by simp[iU,AW h]
set_option tactic.hygienic true in
def Ux {tb:List Nat} (h:a∉tb):(λb:Int=>if b=(a:Int)then J<|.I tb.length else iU tb b)=iU (tb++[a]):=by
 funext b
 unfold iU
 refine aZ (b=(a:Int)) (λq=> ?_)<|λq=> ?_
 ·subst q
  have:a∈tb++[a]:=by simp
  simp[xb this,Kh,h]
 ·refine(U (aX q) ?_)
  split
  ·rename_i f
   have c:b.toNat≠a:=λe=>q (by omega)
   congr 1
   refine aZ (b.toNat∈tb) (λm=> ?_)<|λm=> ?_
   ·exact U (xb m)<|U (xb<|vQ _ m)<|U Kh<|U (aK m) rfl
   ·exact U (AW m)<|U (AW<|by simp[m,c]) rfl
  ·rfl
noncomputable def hX (K:Int->Option (Option T)) (a:Int) (c:Option T):Int->Option (Option T):=λb=>if b=a then J c else K b
def ph (K:Int->Option (Option T)):Int->Option V:=λa=>(K a).map λo=>o.elim V.a6 af
def Gx (K:Int->Option (Option T)) (a:Int) (c:Option T):(λb=>if b=a then J<|c.elim V.a6 af else ph K b)=ph (hX K a c):=by
 funext b
 delta ph hX
 split<;>rfl
def Qt (a:T) {b:ae}:ex .Is (af a) .a6 b=J aa:=by cases a<;>rfl
def mV (a:Bool×ag):V:=.av [.I<|if a.1 then 1 else 0,an a.2]
def bV.n5 {p:aw} {H:bh} {c:ag} {f k b:Nat} (h:bV p H c f k b):bU c≠0/\bU c≠4/\bU c≠5:=h.E (C:=λc _ _ _=>bU c≠0/\bU c≠4/\bU c≠5) (λ_=>bB (nofun) (nofun)<|nofun) λ_ _ _ _ _ _=>bB (nofun) (nofun)<|nofun
noncomputable def be (j:Nat):Nat:=17+j
section
variable {w:aM} {g l:List O} {i j m:Nat} {o z:O} {d:Nat->List V->ae->R V} {t:List V} {r:Bool}
def vv:aC (g.set j o) i=aC g i:=by unfold aC;exact U lZ rfl
def kt:(mk w<|g.set j o++l)[aC g i]?=l[i]?:=by refine am (vv (j:=j) (o:=o)) ?_;exact dB
def Cb (z:O):(mk w<|g.set j o++l).set (aC g i) z=mk w (g.set j o++l.set i z):=by refine am (vv (j:=j) (o:=o)) ?_;exact h_ z
def Jo {a:List V} (h:a.length<=ar):ew a (mk w<|g.set j o++l)=J (.ok<|.ref<|aC g l.length,mk w<|g.set j o++(l++[.X a])):=(aK h).trans<|by refine am (vv (j:=j) (o:=o)) ?_;exact yq _
def hz {x:O} (h:l[i]?=J x) (a:mO x m=ac):lK (.ref<|aC g i) m (mk w<|g.set j o++l)=J (aC g i):=po (kt.trans h) a
def lV {a:List V} (h:l[i]?=J (.X a)):e_ r .bb [.ref<|aC g i] (mk w<|g.set j o++l)=J (.ok<|.I a.length,mk w<|g.set j o++l):=mD r _<|kt.trans h
def pC {a:List V} {v:V} (h:l[i]?=J (.X<|a++[v])):fM d (aC g i) 3 [] (mk w<|g.set j o++l)=J (.ok v,mk w<|g.set j o++l.set i (.X a)):=by refine am (vv (j:=j) (o:=o)) ?_;exact hZ h
def Ju {k:Nat} (h:l[i]?=J (.X a)) (e:a[k]?=J v):go (.ref<|aC g i) (.I k) (mk w<|g.set j o++l)=J v:=iq (kt.trans h) e
def TP {c a:List V} {b:Int} {k:Nat} (h:l[i]?=J (.X c)) (e:b=k) (f:k<=ar) (m:c.drop k=a) (n:a.length<=ar):pv (λl i=>l.drop i) (.ref<|aC g i) (.I b) (mk w<|g.set j o++l)=J (.ok<|.ref<|aC g l.length,mk w<|g.set j o++(l++[.X a])):=by
 subst e;subst m
 unfold pv;refine U (sw<|kt.trans h) ?_
 exact(aK ⟨lf k,jV.mpr f⟩).trans<|Jo n
def UW {a:List V}:e_ r .e6 [.ref<|aC g l.length] (mk w<|g.set j o++(l++[.X a]))=J (.ok<|.av a,mk w<|g.set j o++(l++[.X a])):=by show(match kW (.ref<|aC g l.length) (mk w<|g.set j o++(l++[O.X a]))with|some b=>ok (V.av b)<|mk w<|g.set j o++(l++[O.X a])|none=>Y)=_;refine U (sw<|kt.trans dJ) ?_;rfl
def ND {c a:List V} {b:Int} {k:Nat} {B:ap} (h:l[i]?=J (.X c)) (e:b=k) (f:k<=c.length) (m:c.take k=a):z8 (.ref<|aC g i) (.I b) B (mk w<|g.set j o++l)=J (.ok .a1 B<|mk w<|g.set j o++l.set i (.X a)):=by
 subst e;subst m
 exact U (NB (kt.trans h) f)<|U (Cb _) rfl
def kq (h:j<g.length):(mk w<|g.set j o++l)[be j]?=J o:=by
 unfold be
 rw[lG,iW (by refine U lZ ?_;exact h),gX h]
def Ig (h:j<g.length):(mk w<|g.set j o++l).set (be j) z=mk w (g.set j z++l):=by
 unfold be
 rw[x8,List.set_append_left _ _ (by refine U lZ ?_;exact h),Kq]
end
section
variable {w:aM} {g:List O} (n:Nat)
noncomputable def qS (a:O) (u Q:List V) (b:List O):List O:=a:: .X u:: .X Q::b
def qg (g:List O) (j:Nat) (B:ap):Prop:=(B 0,B 2,B 3,B 4,B 5)=(J<|.ref 9,J<|.ref<|be j,J<|.ref<|aC g 0,J<|.ref<|aC g 1,J<|.ref<|aC g 2)
section
variable {j:Nat} {B:ap} (L:qg g j B)
include L
def qg.bl:B 0=J (.ref 9):=al (·.1) L
def qg.cw:B 2=J (.ref<|be j):=al (·.2.1) L
def qg.cv:B 3=J (.ref<|aC g 0):=al (·.2.2.1) L
def qg.ce:B 4=J (.ref<|aC g 1):=al (·.2.2.2.1) L
def qg.bA:B 5=J (.ref<|aC g 2):=al (·.2.2.2.2) L
end
def LK (w:aM) (g:List O) (j:Nat) (u:List T) (tb:List Nat) (a:cx):Prop:=∃B o b c,a=J (.ok .a1 B<|mk w<|g.set j o++qS b (u.map af) [] c)/\bW o (iU tb) tb.length/\B 4=J (.ref<|aC g 1)
def db (p:aw) (H:bh) (s:Nat) (K:Int->Option (Option T)) (tb:List Nat) (u:List T) (Q:List<|Bool×ag) (y:List T) (A:List Nat):Prop:=
 ∀(w:aM) (n:Nat) (g:List O) (j:Nat) (B:ap) (o a:O) (k:Nat) (b:List O),j<g.length->qg g j B->bW o (iU tb) tb.length->bW a (ph K) k->k<=s->
  LK (w.at p H) g j y A (eD (aD<|n+3) aa (jj At.body) (jT At.body) B<|mk (w.at p H)<|g.set j o++qS a (u.map af) (Q.map mV) b)
def lT {j i:Nat} {o:O} {l:List O} {a:Type} {f:a->V} {u:List a} {x:a} {d:Nat->List V->ae->R V} (h:l[i]?=J (.X<|u.map f)) (b:u.length<ar):fM d (aC g i) 0 [f x] (mk w<|g.set j o++l)=J (.ok .a6,mk w<|g.set j o++l.set i (.X<|(u++[x]).map f)):=am (vv (j:=j) (o:=o))<|lc h b
section
variable {p:aw} {H:bh} {s:Nat} {K:Int->Option (Option T)} {tb A:List Nat} {u y:List T} {Q:List (Bool×ag)} {c e:ag} {f k b:Nat}
def db.g3 (s:Nat) (K:Int->Option (Option T)) (tb:List Nat) (u:List T):db p H s K tb u [] u tb:=λw n g j B o b e c f L D h i=>tR B o b c (ci 3 λa=>a L.bA<|lV rfl) D L.ce
theorem db.a5 (b:bu H c<|.a5 k) (h:u.length<ar) (i:db p H s K tb (u++[.a k]) Q y A):db p H s K tb u (Q++[(aa,c)]) y A:=
 λw n g j B o l m q v L D C E=>dC (ci 159402107 λe=>e L.bA (lV rfl) (cz<|fO _ _) L.bA (hz rfl rfl) (pC fP) L.bl (dc _ _ b) L.ce (hz rfl rfl)<|lT (f:=af) (x:=.a k) rfl h)<|i w n g j _ o l m q v (by exact L) D C E
theorem db.I {a:Int} (b:bu H c<|.I a) (h:u.length<ar) (k:db p H s K tb (u++[.i a]) Q y A):db p H s K tb u (Q++[(aa,c)]) y A:=
 λw n g j B o l m q v L D C E=>dC (ci 1275086971 λe=>e L.bA (lV rfl) (cz<|fO _ _) L.bA (hz rfl rfl) (pC fP) L.bl (dc _ _ b) L.ce (hz rfl rfl)<|lT (f:=af) (x:=.i a) rfl h)<|k w n g j _ o l m q v (by exact L) D C E
def db.fS {a:Nat} (e:bu H c<|.ref a) (E:u.length<ar) (F:tb.length<=ar) (l:db p H s K (pz tb a) (u++[.v<|(pz tb a).idxOf a]) Q y A):db p H s K tb u (Q++[(aa,c)]) y A:=
 λw n g j B o m J C h L D M N=>aZ (a∈tb)
  (λq=>by
   rw[show pz tb a=tb from aK q]at l
   exact dC (ci 3468707963 λb=>b L.bA (lV rfl) (cz<|fO _ _) L.bA (hz rfl rfl) (pC fP) L.bl (dc _ _ e) L.cw (D.l0 (kq h)<|B0 q) L.ce (hz rfl rfl) L.cw (D.ao (kq h)<|B0 q)<|lT (f:=af) (x:=.v<|tb.idxOf a) rfl E)<|l w n g j _ o m J C h (by exact L) D M N)
  λq=>by
   rw[show pz tb a=tb++[a]from aX q]at l
   refine bR (D.g5 (i:=be j) (j:=mk (w.at p H)<|g.set j o++qS m (u.map af) (Q.map mV) C) (kq h) a (.I tb.length) F) λO P k _=> ?_
   rw[Ig h]at P
   rw[Ux q,Jp q]at k
   have k:bW O (iU<|tb++[a]) (tb++[a]).length:=by refine U bH ?_;exact k
   have R:a∈tb++[a]:=yH _<|dk.mpr rfl
   exact dC (ci 222512040059 λb=>b L.bA (lV rfl) (cz<|fO _ _) L.bA (hz rfl rfl) (pC fP) L.bl (dc _ _ e) L.cw (D.i8 (kq h)<|Jp q) L.cw (D.bb (kq h) aa F) L.cw P L.ce (hz rfl rfl) L.cw (k.ao (kq h)<|B0 R)<|lT (f:=af) (x:=.v<|(tb++[a]).idxOf a) rfl E)<|l w n g j _ O m J C h (by exact L) k M N
def db.s0 (h:bu H c e) (q:bV p H e f k b) (m:K (cp e)=J (J a)) (v:u.length<ar) (C:db p H s K tb (u++[a]) Q y A):db p H s K tb u (Q++[(aa,c)]) y A:=λw n g j B o E F M N L D l O=>dq q.n5 λP R S=>dC (ci 3121252485243 λi=>i L.bA (lV rfl) (cz<|fO _ _) L.bA (hz rfl rfl) (pC fP) L.bl (dc _ _ h) (iO _) (dt P) (dt R) (dt S) (kj _) L.cv (l.i7 (kt.trans rfl)<|al (hm _) m) L.cv (kj _) (l.ao (kt.trans rfl)<|al (hm _) m) (Qt a) L.ce (hz rfl rfl)<|lT (f:=af) (x:=a) rfl v)<|C w n g j _ o E F M N (by exact L) D l O
def db.iS {T:List ag} (m:bu H c e) (v:bV p H e f k b) (a4:K (cp e)=Y) (a7:s<ar) (J:Q.length+3<=ar) (a8:kC H b k T) (C:db p H (s+1) (hX K (cp e) Y) tb u (Q++((ac,e)::T.map λc=>(aa,c))) y A):db p H s K tb u (Q++[(aa,c)]) y A:=
 λw n g j B o a9 M N V L D O P=>dq v.n5 λX a0 a1=>by
  have R:ph K (cp e)=Y:=al (hm _) a4;refine bR (O.g5 (i:=aC g 0) (j:=mk (w.at p H)<|g.set j o++qS a9 (u.map af) (Q.map mV) N) (kt.trans rfl) (cp e) .a6<|ky<|dK P a7) λq F E _=> ?_;have F:=(Cb _)▸F;rw[R]at E;have E:bW q (ph<|hX K (cp e) Y)<|M+1:=by refine am (Gx _ _ _) ?_;exact E
  have a2:Q.length<ar:=Nat.lt_of_succ_le<|aF (dv<|ck _ 2) J;have a3:(Q++[(ac,e)]).length<ar:=by refine U bH ?_;exact md J
  cases a8 with
  | @cC a S=>have C:=(show Q++((ac,e)::[a].map λc=>(aa,c))=(Q++[(ac,e)])++[(aa,a)]from(bD Q [(ac,e)] _).symm)▸C;exact dC (ci 3523025327983249531 λl=>l L.bA (lV rfl) (cz<|fO _ _) L.bA (hz rfl rfl) (pC fP) L.bl (dc _ _ m) (iO _) (dt X) (dt a0) (dt a1) (kj _) L.cv (O.h7 (kt.trans rfl) R) L.cv (kj _) F L.bA (hz rfl rfl) (lT (f:=mV) (x:=(ac,e)) rfl a2) L.bl (mC _ _ v) L.bl (qZ _ _ v) (BF aa) L.bA (hz rfl rfl) L.bl (ga S)<|lT (f:=mV) (x:=(aa,a)) rfl a3)<|C w n g j _ o q (M+1) N V (by exact L) D E<|dv P
  | @kv a h S b0=>
   rw[show Q++((ac,e)::[h,a].map λc=>(aa,c))=((Q++[(ac,e)])++[(aa,h)])++[(aa,a)]from((bD _ [(aa,h)] [(aa,a)]).trans<|bD Q [(ac,e)] _).symm]at C;have b1:(Q++[(ac,e)]++[(aa,h)]).length<ar:=by refine U bH<|U bH ?_;exact J
   exact dC (ci 3609861491738200590459 λl=>l L.bA (lV rfl) (cz<|fO _ _) L.bA (hz rfl rfl) (pC fP) L.bl (dc _ _ m) (iO _) (dt X) (dt a0) (dt a1) (kj _) L.cv (O.h7 (kt.trans rfl) R) L.cv (kj _) F L.bA (hz rfl rfl) (lT (f:=mV) (x:=(ac,e)) rfl a2) L.bl (mC _ _ v) L.bl (qZ _ _ v) (BG aa) L.bA (hz rfl rfl) L.bl (ga b0) (lT (f:=mV) (x:=(aa,h)) rfl a3) L.bA (hz rfl rfl) L.bl (ga S)<|lT (f:=mV) (x:=(aa,a)) rfl b1)<|C w n g j _ o q (M+1) N V (by exact L) D E<|dv P
def db.n6 (a:T) (c:List T) (E:bV p H e f c.length b) (F:af a=.av [.Z<|S "s",.I f,.av<|c.map af]) (Y:c.length<=ar) (a0:(K<|cp e).isSome=ac) (a1:s<=ar) (a2:u.length+2<=ar) (a3:db p H s (hX K (cp e)<|J a) tb (u++[a]) Q y A):db p H s K tb (u++c) (Q++[(ac,e)]) y A:=
 λw n g j B o a4 M N a6 L D a7 O=>by
  have P:((u++c).map af).length-(c.length:Nat)=(u.length:Int):=by refine U (bX _)<|U bH ?_;exact ow (u.length:Int) c.length
  have a8:((u++c).map af).drop u.length=c.map af:=by refine U g_ ?_;exact Vx<|bX _
  have q:((u++c).map af).take u.length=u.map af:=by refine U g_ ?_;exact List.take_left'<|bX _
  have v:u.length<=((u++c).map af).length:=by refine U (bX _)<|U bH ?_;exact ck _ _
  refine bR (a7.g5 (i:=aC g 0) (j:=mk (w.at p H)<|g.set j o++qS a4 (u.map af) (Q.map mV) (N++[.X<|c.map af])) (kt.trans rfl) (cp e) (af a)<|aF O a1) λk C m _=> ?_
  rw[Cb]at C
  rw[aK (show(ph K<|cp e).isSome=ac from Wl.trans a0)]at m
  have m:bW k (ph<|hX K (cp e)<|J a) M:=by refine am (Gx _ _ _) ?_;exact m
  have R:u.length<ar:=md a2
  rw[F]at C
  have V:=lT (w:=w.at p H) (g:=g) (j:=j) (o:=o) (d:=aD (n+3) aa) (l:=qS k (u.map af) (Q.map mV)<|N++[.X<|c.map af]) (i:=1) (f:=af) (x:=a) rfl R
  rw[F]at V
  exact dC (ci 406655846523 λh=>h L.bA (lV rfl) (cz<|fO _ _) L.bA (hz rfl rfl) (pC fP) L.bl (qw _ _ E) L.ce (lV rfl) L.bl (qZ _ _ E) L.ce (TP rfl P (ky R) a8<|aF (bp<|bX _) Y) UW L.ce (ND rfl P v q) L.cv (kj _) C L.ce (hz rfl rfl) V)<|a3 w n g j _ o k M _ a6 (by exact L) D m O
def db.s1 (a:bV p H e f 1 b) (c:(K<|cp e).isSome=ac) (h:s<=ar) (i:u.length+2<=ar) (j:db p H s (hX K (cp e)<|J<|.ay f x) tb (u++[.ay f x]) Q y A):db p H s K tb (u++[x]) (Q++[(ac,e)]) y A:=.n6 _ [x] a rfl (jm rfl) c h i j
def db.s2 (c:bV p H e f 2 b) (h:(K<|cp e).isSome=ac) (i:s<=ar) (j:u.length+2<=ar) (k:db p H s (hX K (cp e)<|J<|.ak f x a) tb (u++[.ak f x a]) Q y A):db p H s K tb (u++[x,a]) (Q++[(ac,e)]) y A:=.n6 _ [x,a] c rfl (jm rfl) h i j k
end
def pu {j:Nat} {o:O} (a:g[j]?=J o):g.set j o=g:=Vz λi=>by
 refine aZ (j=i) (λq=> ?_)<|λq=> ?_
 ·subst q;exact U (gX (cK.mp a).1)<|U a rfl
 ·exact ge q
def Jm {j:Nat} {o:O} {tb A:List Nat} {c:ag} {b:T} (m:g[j]?=J o) (D:bW o (iU tb) tb.length) (q:bu w.H c a) (h:db w.nm w.H 0 (λ_=>Y) tb [] [(aa,a)] [b] A):
  ∃z s,aD (n+4) aa 43 [.ref 9,an c,.ref<|be j] (mk w g)=J (.ok<|af b,mk w<|g.set j z++s)/\bW z (iU A) A.length:=by
 refine zn (h w n g j (aB (aB (aB (aB (aB (aB (λ_=>Y) 2<|.ref<|be j) 1<|an c) 0<|.ref 9) 3<|.ref<|aC g 0) 4<|.ref<|aC g 1) 5<|.ref<|aC g 2) o .dE 0 [] (cK.mp m).1 rfl D bW.b_<|bE _) λv z i l e x C=> ?_;rw[pu m]at e;exact cZ z (qS i ([b].map af) [] l) (by exact aL Po rfl 995 λf=>f (sZ .dE) (eP (a:=[]) rfl) (AS _ _ q) (eP (a:=[mV (aa,a)]) rfl) e C<|Ju (k:=0) rfl rfl) x
end
end
section
open PySem
def gr (tb:cd):Int->Option V:=λa=>if 0<=a then(tb.lookup a.toNat).map λx=>an<|.ref x else Y
def vh {tb:cd} {n:Nat} (h:tb.lookup n=J a):gr tb n=J (an<|.ref a):=by simp[gr,h]
def Bv {tb:cd} {n:Nat} (h:tb.lookup n=Y):gr tb n=Y:=by simp[gr,h]
set_option tactic.hygienic true in
def SG {tb:cd} {n:Nat} (h:tb.lookup n=Y):(λb:Int=>if b=(n:Int)then J<|an<|.ref a else gr tb b)=gr (tb++[(n,a)]):=by
 funext b
 unfold gr
 refine aZ (b=(n:Int)) (λq=> ?_)<|λq=> ?_
 ·subst q;simp[jJ,h]
 ·refine(U (aX q) ?_)
  split
  ·rename_i f
   have c:b.toNat≠n:=λe=>q (by omega)
   congr 1
   refine U jJ ?_;cases tb.lookup b.toNat with
   |some _=>rfl|none=>refine U iR<|U (aX c) ?_;rfl
  ·rfl
abbrev mz:=List<|Nat×List T
def xW (p:Nat×List T):V:=.av [.I p.1,.av<|p.2.map af]
def As:List cA:=jT rZ.body
def Oq:List cA:=gE As
def Bq (a:O) (q:mz):List O:=[a,.X<|q.map xW]
def oR (d:List O) (j:Nat) (i:Nat) (v:Option V) (r:ap):Prop:=(r 0,r 2,r 6,r 7,r 5)=(J<|.ref 9,J<|.ref<|be j,J<|.ref<|aC d 1,J<|.I i,v)
section
variable {d:List O} {j i:Nat} {v:Option V} {r:ap} (L:oR d j i v r)
include L
def oR.bl:r 0=J (.ref 9):=al (·.1) L
def oR.cw:r 2=J (.ref<|be j):=al (·.2.1) L
def oR.fx:r 6=J (.ref<|aC d 1):=al (·.2.2.1) L
def oR.fa:r 7=J (.I i):=al (·.2.2.2.1) L
def oR.bA:r 5=v:=al (·.2.2.2.2) L
end
def DR (w:aM) (d:List O) (j:Nat) (tb:cd) (v:Option V) (z:cx):Prop:=∃r o l,z=J (.ok .a1 r<|mk w<|d.set j o++l)/\bW o (gr tb) tb.length/\r 5=v
def rG (s:aw) (H:bh) (tb:cd) (Q:mz) (i:Nat) (B:bh) (A:cd):Prop:=∀(w:aM) (n:Nat) (d:List O) (j:Nat) (a:O) (v:Option V) (r:ap) (o:O),j<d.length->oR d j i v r->bW o (gr tb) tb.length->DR (w.at s B) d j A v (eD (aD<|n+3) aa (jj rZ.body) As r<|mk (w.at s H)<|d.set j o++Bq a Q)
def LF (n:Nat) (w:aM) (d:List O) (j:Nat) (tb:cd) (v:Option V) (z:cx):Prop:=∃r a,z=J (.ok .a1 r a)/\DR w d j tb v (eD (aD<|n+3) aa (jj rZ.body) As r a)
def gB (s:aw) (H:bh) (tb:cd) (Q:mz) (i p:Nat) (u:List T) (B:bh) (A:cd):Prop:=∀(w:aM) (n:Nat) (d:List O) (j:Nat) (a:O) (v:Option V) (r:ap) (o:O),j<d.length->oR d j i v r->r 8=J (.I p)->bW o (gr tb) tb.length->LF n (w.at s B) d j A v (dZ (aD<|n+3) aa 10 Oq (.b8<|u.map af) r<|mk (w.at s H)<|d.set j o++Bq a Q)
def bW.n7 {w:aM} {d:List O} {j k:Nat} {tb:cd} (c:j<d.length) (D:bW o (gr tb) tb.length) (h:tb.length<=ar) (e:tb.lookup k=Y):∃b,jh (.ref<|be j) (.I k) (an<|.ref a) (mk w<|d.set j o++l)=J (mk w<|d.set j b++l)/\bW b (gr<|tb++[(k,a)]) (tb++[(k,a)]).length:=
 bR (D.g5 (j:=mk w<|d.set j o++l) (kq c) k (an<|.ref a) h) λb i f _=>(ax b (i.trans<|al J<|Ig c)<|by
  rw[SG e,Bv e]at f
  exact U bH f)
def ng (s:aw) (H:bh) (f:Nat) (c:ag) (g:bh):Prop:=∀(w:aM) (n:Nat) (d:List O),aD (n+2) aa 38 [.ref 9,.I f] (mk (w.at s H) d)=J (.ok<|an c,mk (w.at s g) d)
section
variable {s:aw} {H B:bh} {tb A:cd} {Q:mz} {p i:Nat} {u:List T}
def rG.b_ (h:Q.length=i):rG s H tb Q i H tb:=λw n d j b v r o c L D=>iY r o _ (ci 23 λa=>a L.fa L.fx (lV rfl)<|gP<|am h<|U (bX _)<|pI _) D L.bA
def rG.cons (e:Q[i]?=J (p,u)) (h:gB s H tb Q (i+1) p u B A):rG s H tb Q i B A:=λw n d j b v r o c L D=>bS (h w n d j b v (aB (aB (aB r 8<|.I p) 9<|.av<|u.map af) 7<|.I (i+1:Nat)) o c (by have z:(r 0,r 2,r 6,J<|V.I (i+1:Nat),r 5)=_:=al (λz=>(z.1,z.2.1,z.2.2.1,J<|V.I (i+1:Nat),z.2.2.2.2)) L;exact z) rfl D) λf k z y=>dC (ci 8951 λa=>a L.fa L.fx (lV rfl) (cz<|U (bX _)<|mX.mpr (cK.mp e).1) L.fx L.fa (Ju rfl<|(lg ..).trans<|al (hm xW) e) L.fa z) y
def gB.b_ (h:rG s H tb Q i B A):gB s H tb Q i p [] B A:=λw n d j a v r o b L c D=>cZ r _ (hR rfl)<|h w n d j a v r o b L D
def gB.gS {k a:Nat} (f:tb.lookup k=J a) (l:p<H.length) (q:gB s (H.set p<|.ref a) tb Q i (p+1) u B A):gB s H tb Q i p (.v k::u) B A:=λw n d j c v r o e L h D=>dC (ev rfl 484736 λb=>b L.cw (D.i7 (kq e)<|vh f) L.cw (D.ao (kq e)<|vh f) L.bl h (oj (w:=w.at s H) l) h)<|q w n d j c v _ o e (by exact L) (by exact rfl) D
def gB.iS {k:Nat} (f:tb.lookup k=Y) (q:tb.length<=ar) (t:gB s H (tb++[(k,p)]) Q i (p+1) u B A):gB s H tb Q i p (.v k::u) B A:=λw n d j c v r o e L h D=>ah (D.n7 (w:=w.at s H) (l:=Bq c Q) (a:=p) e q f) λx y z=>dC (ev rfl 52608 λb=>b L.cw (D.h7 (kq e)<|Bv f) h L.cw y h)<|t w n d j c v _ x e (by exact L) (by exact rfl) z
theorem gB.a5 {k:Nat} (h:p<H.length) (l:gB s (H.set p<|.a5 k) tb Q i (p+1) u B A):gB s H tb Q i p (.a k::u) B A:=λw n d j e v r o q L f D=>dC (ev rfl 29696 λb=>b L.bl f (oj (w:=w.at s H) (c:=.a5 k) h) f)<|l w n d j e v _ o q (by exact L) (by exact rfl) D
theorem gB.I {k:Int} (f:p<H.length) (h:gB s (H.set p<|.I k) tb Q i (p+1) u B A):gB s H tb Q i p (.i k::u) B A:=λw n d j b v r o l L e D=>dC (ev rfl 237568 λa=>a L.bl e (oj (w:=w.at s H) (c:=.I k) f) e)<|h w n d j b v _ o l (by exact L) (by exact rfl) D
section
variable {f k b:Nat} {c:ag} {g:bh} {m:List T} {y:T}
def gB.l1 (l:af y=.av [.Z<|S "s",.I f,.av<|m.map af]) (q:ng s H f c g) (t:p<g.length) (z:bV s (g.set p c) c f k b) (C:Q.length<ar) (E:gB s (g.set p c) tb (Q++[(b,m)]) i (p+1) u B A):gB s H tb Q i p (y::u) B A:=λw n d j e v r o F L h D=>
 U (show(y::u).map af=V.av [.Z<|S "s",.I f,.av<|m.map af]::u.map af from al (· ::u.map af) l)
  (dC (ev rfl 1694140416 λa=>a L.bl (q w (n+1) _) L.bl h (oj (w:=w.at s g) t) L.fx (hz rfl rfl) L.bl (mC (w:=w.at s<|g.set p c) _ _ z) (lT (f:=xW) (x:=(b,m)) rfl C) h)<|E w n d j e v _ o F (by exact L) (by exact rfl) D)
end
end
def fX (s:aw) (H:bh) (tb:cd) (t:T) (c:ag) (B:bh) (A:cd):Prop:=∀(w:aM) (n:Nat) (d:List O) (j:Nat) (o:O),d[j]?=J o->bW o (gr tb) tb.length->tb.length<=ar->∃a b,aD (n+4) aa 42 [.ref 9,af t,.ref<|be j] (mk (w.at s H) d)=J (.ok<|an c,mk (w.at s B)<|d.set j a++b)/\bW a (gr A) A.length
section
variable {w:aM} {d:List O} (n:Nat)
def QR {j:Nat} (z:j<d.length) {tb:cd} (D:bW a (gr tb) tb.length) (C:tb.length<=ar):∃v:List Int,e_ aa .X [.ref<|be j] (mk w<|d.set j a)=J (.ok<|.ref<|aC d 0,mk w<|d.set j a++[.X<|v.map .I])/\∀k∈v,∃x,gr tb k=J (an<|.ref x):=by
 have c:(mk w<|d.set j a)[be j]?=J a:=by have:=kq (w:=w) (l:=[]) (o:=a) z;rwa [dI]at this
 have y:∀i:List V,i.length<=ar->ew i (mk w<|d.set j a)=J (.ok<|.ref<|aC d 0,mk w<|d.set j a++[.X i]):=λi h=>by have:=Jo (w:=w) (g:=d) (l:=[]) (j:=j) (o:=a) h;rwa [dI]at this
 have E:e_ aa .X [.ref<|be j] (mk w<|d.set j a)=match J a with|some .dE=>ew []<|mk w<|d.set j a|some (.dI b)=>ew (b.map λp=>.I p.1)<|mk w<|d.set j a|_=>Y:=by refine am c ?_;rfl
 refine U E ?_;rcases D with⟨rfl,_,e⟩|⟨b,rfl,F,e⟩
 ·exact ax ([]) (y _<|cr _) (λk h=>by cases h)
 ·refine(ax (b.map (·.1)) ((y _<|by refine U (bX _)<|U F ?_;exact C).trans<|by refine U q_ ?_;rfl)<|λk h=> ?_);refine ah (rc.mp h) λp H t=> ?_
  subst t
  have:∀(b:List<|Int×V),p∈b->(b.lookup p.1).isSome:=λb=>by
   induction b with
   |nil=>intro h;cases h
   |cons q b K=>
    obtain⟨x,n⟩:=q
    intro h
    refine U iR ?_;refine aZ (p.1=x) (λf=> ?_)<|λf=> ?_
    ·refine U (aK f) ?_;rfl
    ·refine U (aX f) ?_;rcases bY.mp h with rfl|h
     ·exact bt rfl f
     ·exact K h
  have:=this b H;rw[e]at this
  unfold gr at this ⊢
  refine aZ (0<=p.1) (λf=> ?_)<|λf=> ?_
  ·rw[aK f]at this ⊢;rw[Wl]at this;exact bw (KE.mp this) λx n=>⟨x,by refine U n ?_;rfl⟩
  ·rw[aX f]at this;exact cW this
def QQ {j:Nat} (C:j<d.length) {tb:cd} (D:bW o (gr tb) tb.length) {f:List Int} (p:∀k∈f,∃x,gr tb k=J (an<|.ref x)):∀(b i:Nat) (r:ap),b+i=f.length->r 0=J (.ref 9)->r 2=J (.ref<|be j)->
  ∃c,dZ (aD<|n+3) aa 3 (gE rZ.body) (.b5 (aC d 0) i) r (mk w<|d.set j o++[.X<|f.map .I])=J (.ok .a1 c<|mk w<|d.set j o++[.X<|f.map .I])/\c 0=r 0/\c 1=r 1/\c 2=r 2:=by
 intro b
 induction b with
 |zero=>
  intro i r l t q
  exact hM r (hR<|ix (kt.trans rfl)<|VD<|by refine U (bX _)<|am l<|U (eb _) ?_;exact bE _) rfl rfl rfl
 |succ b E=>
  intro i r l t q
  have y:i<f.length:=by exact bo<|aj [_,_,_] [] [.n 1 (.a (.a Z W) G) v2,.n 1 v2 G] rfl<|bp l
  refine bw (p f[i]<|Kg y) λx F=> ?_;refine ah (E (i+1) (aB r 3<|.I f[i]) (by exact iD (aI<|aj [_,_,_] [] [.n 1 (.a (.a Z W) G) v2,.n 1 (.a v2 W)<|.a Z<|.a G W] rfl<|bp l)<|aI<|aj [_,_,_] [] [.n 1 Z<|.a (.a G W) v2,.n 1 (.a (.a G<|.a v2 W) W) Z] rfl<|bp l.symm) t q) λc z H=> ?_;have e:(f.map V.I)[i]?=J (.I f[i]):=by refine U lg<|U (fd y) ?_;rfl
  exact ax c (by exact ev (fA (kt.trans rfl) e) 5 λh=>(h q<|D.ao (kq C) F).trans z) H
def qd (v:V) (j:Nat) (r:ap):Prop:=(r 0,r 1,r 2)=(J<|.ref 9,J v,J<|.ref<|be j)
def qd.bl {v:V} {j:Nat} {r:ap} (L:qd v j r):r 0=J (.ref 9):=al (·.1) L
def qd.dz {v:V} {j:Nat} {r:ap} (L:qd v j r):r 1=J v:=al (·.2.1) L
def qd.cw {v:V} {j:Nat} {r:ap} (L:qd v j r):r 2=J (.ref<|be j):=al (·.2.2) L
def vi {j:Nat} {o:O} {tb:cd} (v:V) (e:d[j]?=J o) (D:bW o (gr tb) tb.length) (i:tb.length<=ar) {C:Prop} (k:∀(b:List Int) (r:ap),e_ aa .X [.ref<|be j] (mk w d)=J (.ok<|.ref<|aC d 0,mk w<|d++[.X<|b.map .I])->
  dZ (aD<|n+3) aa 3 (gE rZ.body) (.b5 (aC d 0) 0) (aB (aB (aB (λ_=>Y) 2<|.ref<|be j) 1 v) 0<|.ref 9) (mk w<|d++[.X<|b.map .I])=J (.ok .a1 r<|mk w<|d++[.X<|b.map .I])->qd v j r->C):C:=by
 have c:=(cK.mp e).1;have l:=pu e;refine ah (QR (w:=w) c D i) λb f p=>fT (QQ (w:=w) n c D p b.length 0 (aB (aB (aB (λ_=>Y) 2<|.ref<|be j) 1 v) 0<|.ref 9) rfl rfl rfl) λa h q t x=> ?_;rw[l]at f h;exact k b a f h (show(a 0,a 1,a 2)=_ from q▸t▸x▸rfl)
def Bt {j:Nat} (c:d[j]?=J a) {b:List O}:(mk w<|d++b)[be j]?=J a:=by
 have:=kq (w:=w) (l:=b) (o:=a) (cK.mp c).1
 rwa [pu c]at this
end
section
variable {s:aw} {H B:bh} {tb A:cd} {k:Nat}
def fX.gS {a:Nat} (e:tb.lookup k=J a):fX s H tb (.v k) (.ref a) H tb:=λw n d j o c D f=>vi (w:=w.at s H) n (af<|.v k) c D f λh r i z L=>cZ o ([.X<|h.map .I]) (U (pu c)<|aL uI rfl 186906 λb=>b i z L.dz L.dz L.cw (D.l0 (Bt c)<|vh e) L.cw L.dz<|D.ao (Bt c)<|vh e) D
def fX.iS (f:tb.lookup k=Y) (x:H.length<100000):fX s H tb (.v k) (.ref H.length) (H++[.ref H.length])<|tb++[(k,H.length)]:=λw n d j o e D i=>vi (w:=w.at s H) n (af<|.v k) e D i λp r y z L=>by have c:=(cK.mp e).1;refine ah (D.n7 (w:=w.at s<|H++[.ref H.length]) (l:=[.X<|p.map .I]) (a:=H.length) c i f) λC q t=>cZ C ([.X<|p.map .I]) (?_) t;rw[pu e]at q;have h:(tb++[(k,H.length)]).lookup k=J H.length:=U jJ<|U f<|U iR<|U (aK rfl) rfl;exact aL uI rfl 24599066 λb=>b y z L.dz L.dz L.cw (D.i8 (Bt e)<|Bv f) L.bl (RL (w:=w.at s H) _ _ x) L.cw L.dz q L.cw L.dz<|t.ao (kq c)<|vh h
theorem fX.a5 (H:bh) (tb:cd) (k:Nat):fX s H tb (.a k) (.a5 k) H tb:=λw n d j o c D e=>vi (w:=w.at s H) n (af<|.a k) c D e λf r h z L=>cZ o ([.X<|f.map .I]) (U (pu c)<|aL uI rfl 4122 λb=>b h z L.dz L.dz) D
theorem fX.I (H:bh) (tb:cd) (k:Int):fX s H tb (.i k) (.I k) H tb:=λw n d j o b D c=>vi (w:=w.at s H) n (af<|.i k) b D c λe r f z L=>cZ o ([.X<|e.map .I]) (U (pu b)<|aL uI rfl 32794 λa=>a f z L.dz L.dz) D
def fX.l1 {f b:Nat} {c:ag} {g:bh} {m:List T} {y:T} (i:af y=.av [.Z<|S "s",.I f,.av<|m.map af]) (p:ng s H f c g) (q:bV s g c f k b) (h:rG s g tb [(b,m)] 0 B A):fX s H tb y c B A:=λw n d j o e D t=>
 U i<|vi (w:=w.at s H) n (.av [.Z<|S "s",.I f,.av<|m.map af]) e D t λv r x z L=>
  eY (h w n d j (.X<|v.map .I) (J<|an c) (aB (aB (aB (aB r 4<|.Z<|S "s") 5<|an c) 6<|.ref<|aC d 1) 7<|.I 0) o (cK.mp e).1 (by have z:(r 0,r 2,J<|V.ref<|aC d 1,J<|V.I 0,J<|an c)=_:=al (λz=>(z.1,z.2.2,J<|V.ref<|aC d 1,J<|V.I 0,J<|an c)) L;exact z) D) λC E l y F K=>⟨E,l,by
   have y:=(pu e)▸y
   exact aL uI rfl 496664602 λa=>a x z L.dz L.bl L.dz (p w (n+1) _) L.bl (mC (w:=w.at s g) _ _ q) L.dz (eP (a:=[xW (b,m)]) rfl) y K,F⟩
theorem ng.b0 (b:H.length+2<=100000):ng s H 0 (.b0 H.length)<|H++dU H.length 2:=λw n d=>by exact aL FA rfl 32 λa=>a<|BE n aa 2 b
theorem ng.Z {f:Nat} (b:f≠0) (c:s.aW[f]?=J (a,k)) (e:H.length+(k+1)<=100000):ng s H f (.Z H.length)<|H++(.aA f::dU (H.length+1) k):=λw n d=>RK (w:=w.at s H) n aa b c e
end
section
variable {w:aM} {d:List O} (n:Nat)
def Im {j:Nat} {tb A:cd} {c:ag} {B:bh} (b:d[j]?=J o) (D:bW o (gr tb) tb.length) (e:tb.length<=ar) (h:fX w.nm w.H tb t c B A):
  ∃a f,aD (n+4) aa 42 [.ref 9,af t,.ref<|be j] (mk w d)=J (.ok<|an c,mk (w.sH B)<|d.set j a++f)/\bW a (gr A) A.length:=h w n d j o b D e
end
end
section
open PySem
noncomputable def kr:Nat->List ag->bh->bh|_,[],H=>H|p,c::r,H=>kr (p+2) r<|(H.set p c).set (p+1)<|.b0<|p+2
def Bw (p:Nat) (a:List ag) (H:bh):(kr p a H).length=H.length:=by
 induction a generalizing p H with
 |nil=>rfl|cons c r d=>show(kr (p+2) r<|(H.set p c).set (p+1)<|.b0<|p+2).length=_;rw[d];simp
def mE (H:bh) (a:List ag):bh:=(kr H.length a<|H++dU H.length (2*a.length)).set (H.length+2*a.length-1)<|.a5 0
section
variable {w:aM} {b:List O} (n:Nat)
def Op:List cA:=gE<|Aq.body.drop 3
theorem f_ {j:Nat} {o:O} {l:List O} (a:b[j]?=J o):(mk w<|b++l)[be j]?=J o:=U (lG _ _ _)<|U (iW (cK.mp a).1) a
def eN {c d:List a} (h:c=d++e::i):(c.map f)[d.length]?=J (f e):=by refine U h<|U lg<|U (mY<|bE _)<|U (re _) ?_;rfl
def mK {c d:List a} (h:c=d++[]):(c.map f)[d.length]?=Y:=(U h<|U (dI _)<|VD<|by refine U (bX _) ?_;exact bE _)
def d_ (c:List a) (e:a):(c++[e]).length=c.length+1:=bH
def iT (h:f=a++e::c):f=a++[e]++c:=h.trans (bD a [e] c).symm
def nC (h:c=d++e::f):e∈c:=U h<|yH _<|rb ..
def qH {c d:List a} {n:Nat} (h:c=d++e::f) (g:c.length<=n):d.length<n:=dL (by refine U h<|U bH ?_;exact li<|hF _) g
def Em {j:Nat} {k:List ag} (l:b[j]?=J (.X<|k.map an)) (q:k.length<=ar) (r:∀c∈k,bu w.H c c):∀(m i:List ag) (d:ap),k=i++m->d 0=J (.ref 9)->d 4=J (.ref<|aC b 0)->
  ∃a,dZ (aD<|n+3) aa 5 (gE Aq.body) (.b5 (be j) i.length) d (mk w<|b++[.X<|i.map an])=J (.ok .a1 a<|mk w<|b++[.X<|k.map an])/\a 0=d 0/\a 3=d 3/\a 4=d 4:=by
 intro m
 induction m with
 |nil=>
  intro i d h o p
  have e:=mK (f:=an) h;rw[dI]at h
  subst h
  exact hM d (hR<|ix (f_ l) e) rfl rfl rfl
 |cons e m s=>
  intro i d h o p
  refine ah (s (i++[e]) (aB d 5<|an e) (iT h) o p) λa z t=> ?_;have u:(i.map an).length<ar:=by refine U (bX _) ?_;exact qH h q
  have z:=(d_ _ _)▸(g_▸z);exact ax a (by exact ev (fA (f_ l)<|eN h) 103 λg=>(g p (dj rfl rfl) o (AS _ _<|r e<|nC h)<|vt rfl u).trans z) t
def SO {a:Nat} {c:ag} {i:Int} (d:i=a) (h:a<w.H.length):jh (.ref 10) (.I i) (an c) (mk w b)=J (mk (w.sH<|w.H.set a c) b):=by subst d;exact oj h
def qQ {k:Nat} (h:k<2^60):small (k:Int)=ac:=by
 unfold small
 simp only[JZ,decide_eq_true_eq];exact⟨vL (by decide)<|lf k,Cs (mX.mpr h)<|by decide⟩
def MR {o:List ag}:∀(h j:List ag) (f:ap) (H:bh) (p:Nat),o=j++h->f 0=J (.ref 9)->f 7=J (.I p)->p+2*h.length<=H.length->
  ∃d,dZ (aD<|n+3) aa 8 Op (.b5 (aC b 0) j.length) f (mk (w.sH H)<|b++[.X<|o.map an])=J (.ok .a1 d<|mk (w.sH<|kr p h H)<|b++[.X<|o.map an])/\d 0=f 0/\d 3=f 3/\d 6=f 6/\d 7=J (.I (p+2*h.length:Nat)):=by
 intro h
 induction h with
 |nil=>
  intro j f H p l m i k
  exact Dw f (hR<|ix dB<|mK l) rfl rfl rfl i
 |cons e h r=>
  intro j f H p l m i k
  have k:p+2+2*h.length<=H.length:=by rwa [gY,Wc,l_<|2*_, <-iC]at k
  have q:p+2<=H.length:=aF (ck _ _) k;have s:p+1<(H.set p e).length:=by refine U lZ ?_;exact q
  refine Do (r (j++[e]) (aB (aB f 8<|an e) 7<|.I<|(p:Int)+2) ((H.set p e).set (p+1)<|.b0<|p+2) (p+2) (iT l) m rfl<|by refine U lZ<|U lZ ?_;exact k) λd z t u v x=> ?_;rw[d_]at z;exact Dw d (by exact ev (fA dB<|eN l) 6842 λg=>(g m i (oj (w:=w.sH H) (c:=e)<|md q) i m i (oj (w:=w.sH<|H.set p e) (a:=p+1) (c:=.b0<|p+2) s) i).trans z) t u v<|x.trans<|by exact U gY<|U (Wc _ _)<|U (l_ (2*_) _)<|am (iC _ _ _) rfl
def MQ (d:b[j]?=J (.X [])):∃l,aD (n+4) aa 40 [.ref 9,.ref<|be j] (mk w b)=J (.ok<|an<|.a5 0,mk w<|b++l):=fT (Em (w:=w) n (k:=[]) d (cr _) (λc h=>by cases h) [] [] (aB (aB (aB (aB (aB (λ_=>Y) 2 .a6) 1<|.ref<|be j) 0<|.ref 9) 3<|an<|.a5 0) 4<|.ref<|aC b 0) rfl rfl rfl) λe z i f g=>⟨[.X []],by exact aL FC rfl 2504 λa=>a (cX (a:=[]) rfl) z g (fc rfl) f⟩
def MO {j:Nat} {d:List ag} (r:b[j]?=J (.X<|d.map an)) (B:∀f∈d,bu w.H f f) (x:w.H.length+2*d.length<=100000) (o:0<d.length):
  ∃l,aD (n+4) aa 40 [.ref 9,.ref<|be j] (mk w b)=J (.ok<|an<|.b0 w.H.length,mk (w.sH<|mE w.H d)<|b++l):=by
 have A:d.length<=ar:=by exact aI<|aj [_,_] [] [.n 1 (.a Z<|.m 2 G)<|.k 100000,.n 2 (.a (.k 1000000) W) G] rfl x
 refine cps λM C=> ?_
 refine fT (Em (w:=w) n r A B d [] (aB (aB (aB (aB (aB (λ_=>Y) 2 .a6) 1<|.ref<|be j) 0<|.ref 9) 3<|an<|.a5 0) 4<|.ref<|aC b 0) rfl rfl rfl) λh z p D q=> ?_
 have len:e_ aa .bb [.ref<|aC b 0] (mk w<|b++[.X<|d.map an])=J (.ok<|.I d.length,mk w<|b++[.X<|d.map an]):=(fc rfl).trans (by exact U (bX _) rfl)
 have E:small (2:Int)=ac:=rfl
 have F:small (d.length:Int)=ac:=qQ (dK A<|by decide)
 have H:¬(d.length:Int)=0:=λe=>me o<|eW e
 refine Do (MR (w:=w) (b:=b) n d [] (aB (aB h 6<|.I w.H.length) 7<|.I w.H.length) (w.H++dU w.H.length (2*d.length)) w.H.length rfl p rfl<|by refine U bH<|U (sk _ _) ?_;exact bE _) λi y s t u K=> ?_
 have s:i 0=J (.ref 9):=s.trans p
 have t:i 3=J (an<|.a5 0):=t.trans D
 have u:i 6=J (.I w.H.length):=u
 have p:h 0=J (.ref 9):=p
 have q:h 4=J (.ref<|aC b 0):=q
 have L:jh (.ref 10) (.I<|((w.H.length+2*d.length:Nat):Int)-1) (an<|.a5 0) (mk (w.sH<|kr w.H.length d<|w.H++dU w.H.length (2*d.length))<|b++[.X<|d.map an])=J (mk (w.sH<|mE w.H d)<|b++[.X<|d.map an]):=
  SO (w:=w.sH<|kr w.H.length d<|w.H++dU w.H.length (2*d.length)) (b:=b++[.X<|d.map an]) (c:=.a5 0) (a:=w.H.length+2*d.length-1) (by omega) (by show _<(kr _ _ _).length;refine U (Bw _ _ _)<|U bH<|U (sk _ _) ?_;exact Nat.sub_lt (dL (Wb (by decide) o)<|hE _ _) Nat.one_pos)
 refine C ?_
 exact⟨[.X<|d.map an],by exact aL FC rfl 225831880 λg=>g (cX (a:=[]) rfl) z q len (dt H) p q len (uh E F) (BE _ _ (2*d.length) x) q y t s K L u⟩
def AP {i:Nat} {v c d:ag} (h:w.xs[i]?=J (an c)) (e:bu w.H c d):aD (n+3) aa 70 [.ref 8,.I i] (mk w b)=J (.ok<|an d,mk w b):=aL Pw rfl 192 λa=>a (iq (PZ w b) h)<|AS n aa e
end
end
section
open PySem
def oq (f:List O) (i:Nat):aC f i=be (f.length+i):=by delta aC be;exact iD (aI<|aj [_,_] [] [.n 1 (.a (.a (.k 17)<|.a Z G) W)<|.a (.a (.k 17) Z) G] rfl)<|aI<|aj [_,_] [] [.n 1 (.a (.a (.a (.k 17) Z) G) W)<|.a (.k 17)<|.a Z G] rfl
section
variable {w:aM} {f:List O} (n:Nat)
def Ns:bW .dE (iU []) ([]:List Nat).length:=.inl<|bB rfl rfl<|λa=>by unfold iU;split<;>rfl
def vu (L:List O) (i:Nat):aC (f++L) i=aC f (L.length+i):=by unfold aC;exact U bH<|am (iC _ _ _)<|am (iC _ _ _) rfl
def yp (e:bu w.H c d) (h:db w.nm w.H 0 (λ_=>Y) [] [] [(aa,d)] [t] b):∃l,aD (n+5) aa 72 [.ref 8,an c] (mk w f)=J (.ok<|af t,mk w<|f++l):=by refine bS (Jm (w:=w) (g:=f++[.dE]) n (j:=f.length) (o:=.dE) dJ Ns e h) λg i z _=> ?_;rw[vR _ _<|bE _,re,bD]at z;exact⟨g::i,by exact aL Py rfl 48 λa=>a (sZ .dE) z⟩
def JP (e:small (w.H.length+1:Nat)=ac) (h:dE w.nm (w.H.length+1) w.H [] [(c,d)] r b):
  ∃l,aD (n+7) aa 71 [.ref 8,an c,an d] (mk w f)=J (.ok<|.ad r,mk (w.sH b)<|f++l):=by
 refine bw (U5 (a:=f) n e h) λl z=> ?_;exact⟨l,by exact aL Px rfl 64 λa=>a z⟩
def qu (t:T):O:=.a3 1 [(0,af t)]
def jD (t:T):O:=.a3 7 [(0,af t)]
def instErr (b:aw):T×aw:=(.ak 16 (.a (b.atom<|S "instantiation_error").1)<|.a 25,(b.atom<|S "instantiation_error").2)
def c_ (c:aw) (b:List Nat) (t:T):T×aw:=(.ak 16 (.ak ((c.atom b).2.func (S "type_error") 2).1 (.a (c.atom b).1) t)<|.a 25,((c.atom b).2.func (S "type_error") 2).2)
def L5 (t:T):qk a (.c2 1) [af t] (mk w f)=J (.ok<|.ref<|aC f 0,mk w<|f++[qu t]):=sZ _
def Jh:aD (n+1) aa 15 [af t] (mk w f)=J (.ok<|.ref<|aC f 0,mk w<|f++[qu<|.ak 16 t<|.a 25]):=aL O7 rfl 2 λb=>b<|L5<|.ak 16 t<|.a 25
def Go (c:w.nm.small):aD (n+2) aa 17 [.ref 2] (mk w f)=J (.ok<|.ref<|aC f 0,mk (w.sN<|(instErr w.nm).2)<|f++[qu (instErr w.nm).1]):=aL O9 rfl 12 λb=>b (rM n aa _ c)<|Jh n (t:=.a (w.nm.atom<|S "instantiation_error").1)
def L_ {a:aw} (h:a.bf.length+1<ar/\a.aW.length<ar):(a.atom s).2.small:=by
 delta aw.small
 exact aw.i6 (λ_ _=>⟨md h.1,h.2⟩) λ_=>⟨by simp only[bH,gZ];exact h.1,h.2⟩
def HI (t:T):e_ aa .isStr [af t] a=J (.ok<|.ad aa,a):=by cases t<;>rfl
def pD (h:l[i]?=J (.X r)):e_ aa .e6 [.ref<|aC f i] (mk w<|f++l)=J (.ok<|.av r,mk w<|f++l):=by show(match kW (.ref<|aC f i) (mk w<|f++l)with|some a=>ok (V.av a)<|mk w<|f++l|none=>Y)=_;refine U (sw<|dB.trans h) ?_;rfl
def PN (c:w.nm.bf.length+2<ar/\w.nm.aW.length<ar):
  aD (n+3) aa 16 [.ref 2,.Z<|S "type_error",.av [.Z s,af t]] (mk w f)=J (.ok<|af<|.ak ((w.nm.atom s).2.func (S "type_error") 2).1 (.a (w.nm.atom s).1) t,mk (w.sN<|((w.nm.atom s).2.func (S "type_error") 2).2)<|f++[.X [af<|.a (w.nm.atom s).1,af t]]):=by
 exact aL O8 rfl 2957664321 λb=>b (cX (a:=[]) rfl) (dj rfl rfl) (rM (w:=w) (n+1) aa s ⟨md<|md c.1,c.2⟩) (vt rfl<|jm rfl) (dj rfl rfl) (HI t) (vt rfl<|jm rfl) (fc rfl) (sl (w:=w.sN (w.nm.atom s).2) n aa (S "type_error") 2<|L_ ⟨md c.1,c.2⟩)<|pD rfl
def yA (d:w.nm.bf.length+2<ar/\w.nm.aW.length<ar):
  ∃o,aD (n+4) aa 18 [.ref 2,.Z s,af b] (mk w f)=J (.ok<|.ref<|aC (f++[o]) 0,mk (w.sN<|(c_ w.nm s b).2)<|f++[o]++[qu (c_ w.nm s b).1]):=
 ⟨.X [af<|.a (w.nm.atom s).1,af b],by exact aL O_ rfl 24 λc=>c (PN n d)<|Jh (n+2) (t:=.ak ((w.nm.atom s).2.func (S "type_error") 2).1 (.a (w.nm.atom s).1) b)⟩
def sO:xX (.ref<|aC f 0) a (mk w<|f++[qu t])=J (.a4 (aC f 0) a<|mk w<|f++[jD t]):=by
 show(match(mk w<|f++[qu t])[aC f 0]?with
  |some (.a3 1 b)=>J<|bM.a4 (aC f 0) a<|(mk w<|f++[qu t]).set (aC f 0)<|.a3 7 b|_=>Y)=_
 exact U dB<|al J<|al (bM.a4 _ a)<|h_ _
def Ag {L:List O} {r:R V} {a:aM} {t:T} (h:r=J (.error<|aC (f++L) 0,mk a<|f++L++[jD t])):∃l i,r=J (.error<|aC f i,mk a<|f++l)/\l[i]?=J (jD t):=cZ (L++[jD t]) L.length (by refine U h<|U (vu _ _)<|U (bD _ _ _) ?_;rfl) dJ
def SE {b:List ag} (e:bu w.H c d) (h:eK w.H [] d b<|.a5 0) (g:b.length<=ar):∃o,aD (n+3) aa 61 [.ref 8,an c] (mk w f)=J (.ok<|.ref<|aC f 0,mk w<|f++[.X<|b.map an,o]):=bw (uW (m:=f) n aa e h g) λo z=>⟨o,by exact aL AE rfl 16 λa=>a z⟩
def SF {c d:ag} {e:List ag} {a:Nat} (g:bu w.H c d) (h:eK w.H [] d e<|.ref a) (j:e.length<=ar) (k:w.nm.small):∃l i,aD (n+3) aa 61 [.ref 8,an c] (mk w f)=J (.error<|aC f i,mk (w.sN<|(instErr w.nm).2)<|f++l)/\l[i]?=J (jD (instErr w.nm).1):=bw (uW (m:=f) n aa g h j) λo z=>Ag (L:=[.X<|e.map an,o])<|aL AE rfl 12304 λb=>b z (Go n k) sO
def SD {c d a:ag} {e:List ag} {u:T} {j:List Nat} (g:bu w.H c d) (h:eK w.H [] d e a) (k:e.length<=ar) (m:bU a≠0) (p:a≠.a5 0) (q:w.nm.bf.length+2<ar/\w.nm.aW.length<ar) (r:db w.nm w.H 0 (λ_=>Y) [] [] [(aa,d)] [u] j):
  ∃l i,aD (n+6) aa 61 [.ref 8,an c] (mk w f)=J (.error<|aC f i,mk (w.sN<|(c_ w.nm (S "list") u).2)<|f++l)/\l[i]?=J (jD (c_ w.nm (S "list") u).1):=by
 refine cps λB v=> ?_;refine bw (uW (m:=f) (n+3) aa g h k) λo z=> ?_;refine bw (yp (w:=w) (f:=f++[.X<|e.map an,o]) n g r) λl y=> ?_;rw[bD]at y;refine bw (yA (w:=w) (f:=f++([.X<|e.map an,o]++l)) (n+1) (b:=u) (s:=S "list") q) λA x=> ?_;rw[bD f]at x;refine v ?_;refine Ag (L:=[.X<|e.map an,o]++l++[A]) ?_;exact aL AE rfl 1837456 λb=>b z (iO _) (dt m) (EG p) y x sO
def Sn {b:List ag} (e:bu w.H c d) (h:eK w.H [] d b t) (g:b.length<=ar) (i:bU t=0\/t=.a5 0):∃o,aD (n+3) aa 60 [.ref 8,an c] (mk w f)=J (.ok<|.ref<|aC f 0,mk w<|f++[.X<|b.map an,o]):=by
 refine bw (uW (m:=f) n aa e h g) λo z=> ?_;refine⟨o,?_⟩;refine aZ (bU t=0) (λq=> ?_)<|λq=> ?_
 ·exact aL AD rfl 1296 λa=>a z (iO _)<|kN q
 ·have j:=i.resolve_left q;exact aL AD rfl 5392 λa=>a z (iO _) (jz q)<|Ng j
def Sm {e:List ag} (g:bu w.H c d) (h:eK w.H [] d e a) (k:e.length<=ar) (m:bU a≠0) (p:a≠.a5 0) (q:w.nm.bf.length+2<ar/\w.nm.aW.length<ar) (r:db w.nm w.H 0 (λ_=>Y) [] [] [(aa,d)] [u] j):
  ∃l i,aD (n+6) aa 60 [.ref 8,an c] (mk w f)=J (.error<|aC f i,mk (w.sN<|(c_ w.nm (S "list") u).2)<|f++l)/\l[i]?=J (jD (c_ w.nm (S "list") u).1):=by
 refine cps λB v=> ?_;refine bw (uW (m:=f) (n+3) aa g h k) λo z=> ?_;refine bw (yp (w:=w) (f:=f++[.X<|e.map an,o]) n g r) λl y=> ?_;rw[bD]at y;refine bw (yA (w:=w) (f:=f++([.X<|e.map an,o]++l)) (n+1) (b:=u) (s:=S "list") q) λA x=> ?_;rw[bD f]at x;refine v ?_;refine Ag (L:=[.X<|e.map an,o]++l++[A]) ?_;exact aL AD rfl 3675408 λb=>b z (iO _) (jz m) (EG p) y x sO
def Qv (c:ag) (b:Bool) (h:(b=ac/\∃a,c=.Z a/\w.H[a]?=J (.aA 13))\/(b=aa/\((∀a,c≠.Z a)\/∃a d,c=.Z a/\w.H[a]?=J d/\d≠.aA 13))):aD (n+1) aa 62 [.ref 8,an c] (mk w f)=J (.ok<|.ad b,mk w f):=by
 rcases h with⟨rfl,a,rfl,e⟩|⟨rfl,h|⟨a,d,rfl,e,i⟩⟩
 ·exact aL AF rfl 1024 λg=>g<|ga e
 ·have:¬bU c=2:=by cases c<;>first|exact bt rfl<|h _|exact nofun
  exact aL AF rfl 12 λg=>g (iO _)<|dt this
 ·exact aL AF rfl 3072 λg=>g (ga e)<|gk i
end
end
section
open PySem
noncomputable def Hr (c:Nat->Nat->Int) (u:Bool) (a:Nat) (l:List Nat) (f:List Nat->List Nat):List Nat->List Nat|[]=>a::l|b::r=>if c a b<=0 then a::(if c a b=0/\u=ac then f r else f<|b::r)else b::Hr c u a l f r
def fm (c:Nat->Nat->Int) (u:Bool):List Nat->List Nat->List Nat|[]=>λr=>r|a::l=>Hr c u a l<|fm c u l
noncomputable def cc (k:Nat):V:=.I k
section
variable {c:Nat->Nat->Int} {u:Bool} {a b:Nat} {l r:List Nat}
def Hk (h:c a b<=0) (e:c a b=0):fm c ac (a::l) (b::r)=a::fm c ac l r:=(aK h).trans<|al _<|aK ⟨e,rfl⟩
def Hl (h:c a b<=0) (e:¬(c a b=0/\u=ac)):fm c u (a::l) (b::r)=a::fm c u l (b::r):=(aK h).trans<|al _<|aX e
def Hn (h:¬c a b<=0):fm c u (a::l) (b::r)=b::fm c u (a::l) r:=aX h
def xA {P:List Nat->List Nat->List Nat->Prop} (i:∀r,P [] r r) (j:∀a l,P (a::l) []<|a::l) (k:∀a b l r m,u=ac->c a b=0->P l r m->P (a::l) (b::r) (a::m))
  (n:∀a b l r m,c a b<=0->¬(c a b=0/\u=ac)->P l (b::r) m->P (a::l) (b::r) (a::m)) (t:∀a b l r m,¬c a b<=0->P (a::l) r m->P (a::l) (b::r) (b::m)):∀l r,P l r<|fm c u l r:=by
 intro l
 induction l with
 |nil=>exact i|cons a l h=>
  intro r
  induction r with
  |nil=>exact j a l|cons b r f=>
   by_cases q:c a b<=0
   ·by_cases e:c a b=0/\u=ac
    ·obtain⟨e,rfl⟩:=e;rw[Hk q e];exact k a b l r _ rfl e<|h r
    ·rw[Hl q e];exact n a b l r _ q e<|h _
   ·rw[Hn q];exact t a b l r _ q f
end
section
variable {w:aM} {d:List O} (n:Nat)
def iZ (d:List O) (s p o:Nat) (u:Bool) (a b:Nat) (g:ap):Prop:=(g 0,g 1,g 2,g 3,g 4,g 5,g 6,g 7)=(J<|.ref 9,J<|.ref<|be s,J<|.ref<|be p,J<|.ref<|be o,J<|.ad u,J<|.ref<|aC d 0,J<|cc a,J<|cc b)
section
variable {s p o:Nat} {u:Bool} {a b:Nat} {g:ap} (L:iZ d s p o u a b g)
include L
def iZ.bl:g 0=J (.ref 9):=al (·.1) L
def iZ.dz:g 1=J (.ref<|be s):=al (·.2.1) L
def iZ.cw:g 2=J (.ref<|be p):=al (·.2.2.1) L
def iZ.cv:g 3=J (.ref<|be o):=al (·.2.2.2.1) L
def iZ.ce:g 4=J (.ad u):=al (·.2.2.2.2.1) L
def iZ.bA:g 5=J (.ref<|aC d 0):=al (·.2.2.2.2.2.1) L
def iZ.fx:g 6=J (cc a):=al (·.2.2.2.2.2.2.1) L
def iZ.fa:g 7=J (cc b):=al (·.2.2.2.2.2.2.2) L
def iZ.l {a:Nat}:iZ d s p o u a b<|aB g 6<|cc a:=al (λz:Option V×Option V×Option V×Option V×Option V×Option V×Option V×Option V=>(z.1,z.2.1,z.2.2.1,z.2.2.2.1,z.2.2.2.2.1,z.2.2.2.2.2.1,J<|cc a,z.2.2.2.2.2.2.2)) L
def iZ.r {b:Nat}:iZ d s p o u a b<|aB g 7<|cc b:=al (λz:Option V×Option V×Option V×Option V×Option V×Option V×Option V×Option V=>(z.1,z.2.1,z.2.2.1,z.2.2.2.1,z.2.2.2.2.1,z.2.2.2.2.2.1,z.2.2.2.2.2.2.1,J<|cc b)) L
end
def pZ (w:aM) (e:List ag) (c:Nat->Nat->Int):Prop:=∀(a b:Nat) (x y:ag),e[a]?=J x->e[b]?=J y->gy w.nm (w.H.length+1) w.H [] [(x,y)] (c a b)
def mN {l:List O} {L:List Nat} (h:d[j]?=J (.X<|L.map cc)) {a:Bool}:e_ a .bb [.ref<|be j] (mk w<|d++l)=J (.ok<|.I L.length,mk w<|d++l):=(mD a _<|f_ h).trans<|by rw[bX]
def gG {l:List O} {a:List V} (h:d[j]?=J (.X a)) (e:a[k]?=J v):go (.ref<|be j) (cc k) (mk w<|d++l)=J v:=iq (f_ h) e
def jG {b:Type} {f:b->V} {c:List b} {a:Nat} {x:b} (h:c[a]?=J x):(c.map f)[a]?=J (f x):=by rw[lg,h];rfl
def og {a:Type} {b c f:List a} {e:a} (h:b=c++e::f):(c.length:Int)<b.length:=mX.mpr<|qH h<|bE _
def Hz {c:Type} {a b:List c} (h:a=b++[]):¬(b.length:Int)<a.length:=by rw[h,dI];exact pI _
def Lz (w:aM) (d:List O) (s p o:Nat) (u:Bool) (L R m:List Nat) (z:cx):Prop:=∃g h a b c e f,z=J (.ok .a1 g<|mk w<|d++(.X (a.map cc)::h))/\iZ d s p o u b.length e.length g/\L=b++c/\R=e++f/\a++c++f=m
def Rz {s p o:Nat} {u:Bool} {r:List ag} {c:Nat->Nat->Int} {L R:List Nat} (F:d[s]?=J (.X<|r.map an)) (D:d[p]?=J (.X<|L.map cc)) (E:d[o]?=J (.X<|R.map cc)) (a4:pZ w r c)
  (a5:small (w.H.length+1:Nat)=ac) (a6:∀a∈L,a<r.length) (a7:∀a∈R,a<r.length) (T:L.length+R.length<=ar):∀B v:List Nat,∀(z t j:List Nat) (δ:List O) (g:ap),L=z++B->R=t++v->j.length<=z.length+t.length->iZ d s p o u z.length t.length g->
  Lz w d s p o u L R (j++fm c u B v) (eD (aD<|n+6) aa (jj Ax.body) (jT Ax.body) g<|mk w<|d++(.X (j.map cc)::δ)):=by
 have V:∀{a b:Nat} {B v z t j:List Nat} {δ:List O} {C:Prop},L=z++a::B->R=t++b::v->j.length<=z.length+t.length->(∀(A y:ag) (l:List O),r[a]?=J A->r[b]?=J y->aD (n+6) aa 57 [.ref 9,an A,an y] (mk w<|d++(.X (j.map cc)::δ))=J (.ok<|.I<|c a b,mk w<|d++(.X (j.map cc)::(δ++l)))->j.length<ar->C)->C:=
  λ{a b B v z t j δ C} m q K k=>
   have N:=fd<|a6 a<|nC m;have P:=fd (a7 b<|nC q)
   bw (Nq (w:=w) (g:=d++(.X (j.map cc)::δ)) n a5<|a4 a b _ _ N P) λl S=>k _ _ l N P (iw S) (dL (dK K<|Nat.add_lt_add (qH m<|bE _)<|qH q<|bE _) T)
 intro B
 induction B with
 |nil=>
  intro v z t j δ g m q K M
  exact⟨g,δ,j,z,[],t,v,ci 46 λe=>e M.fx M.cw (mN D)<|gP<|Hz m,M,m,q,al (· ++v)<|dI j⟩
 |cons a B a2=>
  intro v
  induction v with
  |nil=>
   intro z t j δ g m q K M
   exact⟨g,δ,j,z,a::B,t,[],ci 1518 λe=>e M.fx M.cw (mN D) (cz<|og m) M.fa M.cv (mN E)<|gP<|Hz q,M,m,q,dI _⟩
  |cons b v a0=>
   intro z t j δ g m q K M
   refine V (δ:=δ) m q K λA y l N P S k=> ?_;have a1:iZ d s p o u z.length t.length<|aB g 8<|.I<|c a b:=M;have a3:(j++[a]).length<=(z++[a]).length+t.length:=U (d_ _ _)<|U (d_ _ _)<|U (jo _ _)<|dv K;refine aZ (c a b<=0) (λH=> ?_) λH=> ?_
   ·refine aZ (c a b=0/\u=ac) (λQ=> ?_) λQ=> ?_
    ·obtain⟨Q,rfl⟩:=Q;have i:=a2 v (z++[a]) (t++[b]) (j++[a]) (δ++l) _ (iT m) (iT q) (U (d_ t b)<|lh a3)<|U (d_ z a)<|U (d_ t b) a1.l.r;rw[Hk H Q,show j++a::fm c ac B v=j++[a]++fm c ac B v from(bD _ [a] _).symm];exact dC (ci 1451673779694 λe=>e M.fx M.cw (mN D) (cz<|og m) M.fa M.cv (mN E) (cz<|og q) M.bl M.dz M.cw M.fx (gG D<|eN m) (gG F<|jG N) M.dz M.cv M.fa (gG E<|eN q) (gG F<|jG P) S (cz H) M.bA (dj rfl rfl) M.cw M.fx (gG D<|eN m) (lc (f:=cc) (x:=a) rfl k) M.fx (gH Q) M.ce M.fa) i
    ·have i:=a2 (b::v) (z++[a]) t (j++[a]) (δ++l) _ (iT m) q a3<|U (d_ z a) a1.l;rw[Hl H Q,show j++a::fm c u B (b::v)=j++[a]++fm c u B (b::v)from(bD _ [a] _).symm];refine aZ (c a b=0) (λY=> ?_) λY=> ?_
     ·obtain rfl:u=aa:=ov.mpr λh=>Q ⟨Y,h⟩;exact dC (ci 352162151918 λe=>e M.fx M.cw (mN D) (cz<|og m) M.fa M.cv (mN E) (cz<|og q) M.bl M.dz M.cw M.fx (gG D<|eN m) (gG F<|jG N) M.dz M.cv M.fa (gG E<|eN q) (gG F<|jG P) S (cz H) M.bA (dj rfl rfl) M.cw M.fx (gG D<|eN m) (lc (f:=cc) (x:=a) rfl k) M.fx (gH Y) M.ce) i
     ·exact dC (ci 77284244974 λe=>e M.fx M.cw (mN D) (cz<|og m) M.fa M.cv (mN E) (cz<|og q) M.bl M.dz M.cw M.fx (gG D<|eN m) (gG F<|jG N) M.dz M.cv M.fa (gG E<|eN q) (gG F<|jG P) S (cz H) M.bA (dj rfl rfl) M.cw M.fx (gG D<|eN m) (lc (f:=cc) (x:=a) rfl k) M.fx<|dt Y) i
   ·have i:=a0 z (t++[b]) (j++[b]) (δ++l) _ m (iT q) (U (d_ _ _)<|U (d_ _ _)<|dv K)<|U (d_ t b) a1.r;rw[Hn H,show j++b::fm c u (a::B) v=j++[b]++fm c u (a::B) v from(bD _ [b] _).symm];exact dC (ci 8564768238 λe=>e M.fx M.cw (mN D) (cz<|og m) M.fa M.cv (mN E) (cz<|og q) M.bl M.dz M.cw M.fx (gG D<|eN m) (gG F<|jG N) M.dz M.cv M.fa (gG E<|eN q) (gG F<|jG P) S (gP H) M.bA (dj rfl rfl) M.cv M.fa (gG E<|eN q) (lc (f:=cc) (x:=b) rfl k) M.fa) i
def Rv {c:Nat->Nat->Int} {u:Bool} {l r:List Nat}:x∈fm c u l r->x∈l\/x∈r:=
 xA (c:=c) (u:=u) (P:=λl r m=>x∈m->x∈l\/x∈r) (λr h=>.inr h) (λa l h=>.inl h)
  (λa b l r m _ _ f h=>(bY.mp h).elim (λe=>.inl<|e▸.head _) λh=>(f h).imp (.tail _)<|.tail _)
  (λa b l r m _ _ f h=>(bY.mp h).elim (λe=>.inl<|e▸.head _) λh=>(f h).imp_left<|.tail _)
  (λa b l r m _ f h=>(bY.mp h).elim (λe=>.inr<|U e<|.head _) λh=>(f h).imp_right<|.tail _) l r
def Hm {c:Nat->Nat->Int} {u:Bool} (l r:List Nat):(fm c u l r).length<=l.length+r.length:=
 xA (c:=c) (u:=u) (P:=λl r m=>m.length<=l.length+r.length) (λr=>bp (eb _).symm) (λa l=>bE _)
  (λa b l r m _ _ e=>aF (dv e)<|by rw[gY,gY,jo];exact dv<|ig _)
  (λa b l r m _ _ e=>by rw[gY,gY,jo];exact dv e)
  (λa b l r m _ e=>dv e) l r
def I0 {a:ae} {l r:List V} (h:a[m]?=J (.X l)) (b:k<=ar) (c:l.drop k=r):pv (λl i=>l.drop i) (.ref m) (cc k) a=ew r a:=by
 subst c
 show(match kW (.ref m) a,cc k with
  |some l,.I i=>if 0<=i/\i<=ar then ew (l.drop i.toNat) a else Y|_,_=>Y)=_
 exact U (sw h)<|aK ⟨lf k,jV.mpr b⟩
def xw {a:ae} {n:Nat} {l:List V} (h:a[n]?=J (.X l)):lI a n=J l:=(al (Wi · xx) h).trans rfl
def Jt {l:List O} {a b:List V} (h:l[i]?=J (.X a)) (j:l[k]?=J (.X b)) (c:k≠i) (m:a.length+b.length<=ar):fM f (aC d i) 1 [.ref<|aC d k] (mk w<|d++l)=J (.ok .a6,mk w<|d++l.set i (.X<|a++b)):=by refine(jB (dB.trans h) (show 0<3 by decide)).trans ?_;show((lI (mk w<|d++l)<|aC d i).bind λe=>(lI (mk w<|d++l)<|aC d k).bind λr=>if aC d k≠aC d i/\e.length+r.length<=ar then ok V.a6<|(mk w<|d++l).set (aC d i)<|.X<|e++r else Y)=_;exact U (xw<|dB.trans h)<|U (xw<|dB.trans j)<|(aK ⟨λe=>c<|CG e,m⟩).trans<|U (h_ _) rfl
def E5 {L a b:List Nat} (h:L=a++b):(L.map cc).drop a.length=b.map cc:=by rw[h,g_];exact Vx<|bX _
def Ry {s p o:Nat} {u:Bool} {b:List ag} {c:Nat->Nat->Int} {L R:List Nat} (E:d[s]?=J (.X<|b.map an)) (v:d[p]?=J (.X<|L.map cc)) (x:d[o]?=J (.X<|R.map cc)) (F:pZ w b c)
  (H:small (w.H.length+1:Nat)=ac) (I:∀a∈L,a<b.length) (K:∀a∈R,a<b.length) (e:L.length+R.length<=ar):
  ∃l,aD (n+7) aa 58 [.ref 9,.ref<|be s,.ref<|be p,.ref<|be o,.ad u] (mk w d)=J (.ok<|.ref<|aC d 0,mk w<|d++ .X ((fm c u L R).map cc)::l):=by
 obtain⟨N,O,f,r,i,t,m,z,M,y,A,P⟩:=Rz (w:=w) (d:=d) n (u:=u) E v x F H I K e L R [] [] [] [] (aB (aB (aB (aB (aB (aB (aB (aB (λ_=>Y) 4<|.ad u) 3<|.ref<|be o) 2<|.ref<|be p) 1<|.ref<|be s) 0<|.ref 9) 5<|.ref<|aC d 0) 6<|cc 0) 7<|cc 0) rfl rfl (cr _) rfl;have q:=aF (Hm (c:=c) (u:=u) L R) e;rw[show fm c u L R=f++i++m from P.symm]at q ⊢;rw[bH,bH]at q;rw[g_,g_];have B:r.length+i.length<=ar:=am bH<|y▸aF (ck _ _) e;have C:t.length+m.length<=ar:=am bH<|A▸aF (hE _ _) e;have D:∀{l:List Nat} {k:Nat},k+l.length<=ar->ma (l.map cc).length ar=ac:=λh=>tw.mpr<|U (bX _)<|aF (hE _ _) h;have Q:(f.map cc).length+(i.map cc).length<=ar:=U (bX _)<|U (bX _)<|aF (ck _ _) q;have S:(f.map cc++i.map cc).length+(m.map cc).length<=ar:=U bH<|U (bX _)<|U (bX _)<|U (bX _) q;exact⟨_,by exact aL Ps rfl 32767 λj=>j (cX (a:=[]) rfl) z M.bA (dj rfl rfl) M.cw M.fx ((I0 (f_ v) (aF (ck _ _) B)<|E5 y).trans<|eP<|D B) (Jt rfl dJ (CO _) Q) M.bA (dj rfl rfl) M.cv M.fa ((I0 (f_ x) (aF (ck _ _) C)<|E5 A).trans<|eP<|D C) (Jt rfl dJ (CO _) S) M.bA⟩
end
end
section
open PySem
def Br (c:Nat->Nat->Int) (u:Bool):List (List Nat)->List (List Nat)|a::b::r=>fm c u a b::Br c u r|_=>[]
noncomputable def xN:List (List Nat)->List (List Nat)|_::_::r=>xN r|l=>l
def fQ (c:Nat->Nat->Int) (u:Bool) (a:List<|List Nat):List<|List Nat:=Br c u a++xN a
def gU (c:Nat->Nat->Int) (u:Bool):Nat->List (List Nat)->List Nat|0,a=>a.headD []|k+1,a=>if a.length<=1 then a.headD []else gU c u k<|fQ c u a
theorem ou {P:List h->Prop} (c:P []) (e:∀a,P [a]) (f:∀a b r,P r->P (a::b::r)):∀l,P l|[]=>c|[a]=>e a|a::b::r=>f a b r<|ou c e f r
def vc (c:Nat->Nat->Int) (u:Bool):∀e:List<|List Nat,(fQ c u e).length=(e.length+1)/2:=ou rfl (λ_=>(by decide:(1:Nat)=(1+1)/2)) λa b r f=>by rw[show(fQ c u<|a::b::r).length=(fQ c u r).length+1 from rfl,f,gY,gY,gv _ 1 1,gv _ 1 1];exact(Ku _<|by decide).symm
def eB (l:List O):List Nat->List (List Nat)->Prop|[],[]=>True|k::a,R::b=>l[k]?=J (.X<|R.map cc)/\eB l a b|_,_=>False
theorem eB.cons {R:List Nat} (h:eB l a<|R::c):∃k b,a=k::b/\l[k]?=J (.X<|R.map cc)/\eB l b c:=by
 cases a with
 |nil=>exact h.elim|cons k a=>exact cZ k a rfl h
theorem eB.b_ (h:eB l a []):a=[]:=by
 cases a with
 |nil=>rfl|cons k a=>exact h.elim
theorem eB.bb {l:List O}:∀{b:List<|List Nat} {a:List Nat},eB l a b->a.length=b.length|[],_,h=>by rw[h.b_];rfl|R::b,a,h=>by obtain⟨k,a,rfl,_,h⟩:=h.cons;exact al Nat.succ h.bb
theorem eB.c4 (b:eB l a B):∀{A:List<|List Nat} {c:List Nat},eB l c A->eB l (c++a) (A++B)|[],_,h=>by rw[h.b_];exact b|R::i,f,h=>by obtain⟨k,f,rfl,e,h⟩:=h.cons;exact⟨e,b.c4 h⟩
def eB.cC {l:List O} {k:Nat} {R:List Nat} (h:l[k]?=J (.X<|R.map cc)):eB l [k] [R]:=⟨h,trivial⟩
def fW (q:Nat) (l a:List O):Prop:=∀i o,i≠q->l[i]?=J o->a[i]?=J o
theorem eB.keep (K:fW q l c):∀{b:List<|List Nat} {a:List Nat},(∀k∈a,k≠q)->eB l a b->eB c a b|[],_,_,h=>by rw[h.b_];trivial|R::b,a,f,h=>by obtain⟨k,a,rfl,e,h⟩:=h.cons;exact⟨K _ _ (f _<|.head _) e,h.keep K λk i=>f k<|.tail _ i⟩
theorem eB.ht {l:List O}:∀{b:List<|List Nat} {a:List Nat},eB l a b->∀k∈a,k<l.length
 |[],_,h=>by rw[h.b_];exactλk c=>by cases c
 |R::b,a,h=>by obtain⟨k,a,rfl,e,h⟩:=h.cons;exactλi c=>(bY.mp c).elim (λf=>U f<|(cK.mp e).1)<|h.ht i
def cG {b:Type} {l m:List b} {n:Nat} {a:b} (e:l[n]?=J a):(l++m)[n]?=J a:=by rw[iW (cK.mp e).1];exact e
def fW.trans {q:Nat} {a b c:List O} (h:fW q a b) (k:fW q b c):fW q a c:=λi o f e=>k i o f<|h i o f e
def fW.c4 {q:Nat} (l m:List O):fW q l<|l++m:=λi o _ e=>cG e
theorem fW.set {q:Nat} (l:List O) (o:O):fW q l<|l.set q o:=λi _ a e=>by rw[ge<|λz=>a z.symm];exact e
def R5:∀(i:List<|List Nat) {f:List Nat},eB l f i->i.length %2=1->∃c k R,f=c++[k]/\xN i=[R]/\l[k]?=J (.X<|R.map cc):=ou (λ_ h=>bt (show 0=1 from h)<|by decide) (λR f h _=>bF h.cons λk f m e h=>⟨[],k,R,m.trans<|al _ h.b_,rfl,e⟩) λa b r n f h o=>bF h.cons λq s m _ t=>bF t.cons λu v w _ x=>eY (n x<|by rwa [gY,gY,V0 (hC r) 2]at o) λc k R e y z=>⟨q::u::c,k,R,m.trans<|al _<|w.trans<|al _ e,y,z⟩
def NX:∀c:List<|List Nat,¬c.length %2=1->xN c=[]:=ou (λ_=>rfl) (λ_ h=>bt rfl h) λa b r e h=>e<|by rwa [gY,gY,V0 (hC r) 2]at h
def SR (m:Nat):kx 0 m 2=(ic m).map λk=>0+2*k:=by
 apply Vy
 ·simp
 ·intro i a b;simp[List.getElem_range']
theorem S8:∀k:Nat,(tz 0 (k:Int) 2).toNat=(k+1)/2|0=>rfl|k+1=>(al J7 ((aK<|by decide).trans ((aK<|Vp.mpr<|hF k).trans (al (λz:Int=>z/2+1) ((al (· -1)<|Vu _).trans<|ow k 1))))).trans (Ku k<|by decide).symm
theorem SY:∀{m:Nat},m<=ar->1<=m->gb aa 1 [.I 0,.I<|(m:Int)-1,.I 2]=J (.b8<|(kx 0 (m/2) 2).map cc)
 |0,_,h=>(rd 0 h).elim|k+1,h,_=>by
  rw[show((k+1:Nat):Int)-1=k from ow k 1];refine(aK (⟨by decide,by decide,nL (by decide)<|lf k,jV.mpr<|fn h,.inr<|.inl rfl⟩: -(ar:Int)<=0/\(0:Int)<=ar/\ -(ar:Int)<=(k:Int)/\(k:Int)<=ar/\((2:Int)=1\/(2:Int)=2\/(2:Int)= -1))).trans ?_;show J (cB.b8<|((ic (tz 0 (k:Int) 2).toNat).map λ(k:Nat)=>(0:Int)+2*(k:Int)).map V.I)=_;rw[S8,SR,q_,q_]
  rfl
section
variable {w:aM} {d:List O} (n:Nat)
def uF:List cA:=Fs.body
def OG:List cA:=gE uF
def Ay:List cA:=jT uF
def OH:List cA:=gE Ay
def OF:List cA:=gE<|uF.drop 5
def wx (w:aM) (p:Bool) (a e:List ag):Prop:=a.length=e.length/\if p then∀(i:Nat) (c x:ag),a[i]?=J c->e[i]?=J x->∃f k b,bV w.nm w.H c f k b/\w.H[b]?=J x/\bu w.H c c else e=a
def dA (d:List O) (k:Nat):V:=.ref<|aC d k
def iI (d:List O) (j:Nat) (u p:Bool) (r:Nat) (g:ap):Prop:=(g 0,g 1,g 2,g 3,g 4,g 5)=(J<|.ref 9,J<|.ref<|be j,J<|.ad u,J<|.ad p,J<|dA d 0,J<|dA d r)
section
variable {j:Nat} {u p:Bool} {r:Nat} {g:ap} (L:iI d j u p r g)
include L
def iI.bl:g 0=J (.ref 9):=al (·.1) L
def iI.dz:g 1=J (.ref<|be j):=al (·.2.1) L
def iI.cw:g 2=J (.ad u):=al (·.2.2.1) L
def iI.cv:g 3=J (.ad p):=al (·.2.2.2.1) L
def iI.ce:g 4=J (dA d 0):=al (·.2.2.2.2.1) L
def iI.bA:g 5=J (dA d r):=al (·.2.2.2.2.2) L
def iI.to:iI d j u p a<|aB g 5<|dA d a:=al (λz:Option V×Option V×Option V×Option V×Option V×Option V=>(z.1,z.2.1,z.2.2.1,z.2.2.2.1,z.2.2.2.2.1,J<|dA d a)) L
end
noncomputable def dV (k:Nat):List<|List Nat:=(ic k).map λi=>[i]
def IB (k:Nat):dV (k+1)=dV k++[[k]]:=by unfold dV;rw[VW,g_];rfl
def x3 (k:Nat):(dV k).length=k:=by unfold dV;rw[bX,Kk]
def Lv (w:aM) (d:List O) (j:Nat) (u p:Bool) (b:List ag) (N:Nat) (z:cx):Prop:=∃g l a,z=J (.ok .a1 g<|mk w<|d++l)/\iI d j u p 1 g/\l[0]?=J (.X<|b.map an)/\l[1]?=J (.X<|a.map<|dA d)/\eB l a (dV N)
def QP {j:Nat} {u p:Bool} {y o:List ag} (Q:d[j]?=J (.X<|y.map an)) (s:wx w p y o) (a3:y.length<=1000):∀(m i:Nat) (g:ap) (l:List O) (t:List Nat),i+m=y.length->iI d j u p 1 g->
  l[0]?=J (.X<|(o.take i).map an)->l[1]?=J (.X<|t.map<|dA d)->eB l t (dV i)->(∀k∈t,k≠0/\k≠1)->
  Lv w d j u p o y.length (dZ (aD<|n+7) aa 6 OG (.b8<|(kx i m).map cc) g<|mk w<|d++l):=by
 intro m
 induction m with
 |zero=>
  intro i g l t B L z F H _
  have B:i=y.length:=B
  subst B
  exact⟨g,l,t,hR rfl,L,am (CD<|bp s.1.symm) z,F,H⟩
 |succ m C=>
  intro i g l t B L z F H I
  have K:i<y.length:=dL (li<|hF m)<|bp B;have D:i<o.length:=am s.1 K;have S:=fd K;refine bw (g:=λa=>o[i]?=J a) ⟨_,fd D⟩ λa M=> ?_;have E:i<ar:=dL K (aF a3<|by decide);have T:(o.take i).length<ar:=U vO<|U (CL<|ky D) E;have V:t.length<ar:=U (H.bb.trans<|x3 i) E;have a4:o.take (i+1)=o.take i++[a]:=List.take_add_one.trans<|U M rfl;have N:=fW.set (q:=0) l (.X<|(o.take i++[a]).map an) 1 _ (by decide) F;have P:(l.set 0 (.X<|(o.take i++[a]).map an)++[.X [cc i]])[1]?=J (.X<|t.map<|dA d):=cG N;have Y:(l.set 0<|.X<|(o.take i++[a]).map an).length=l.length:=lZ;have a0:=(cK.mp z).1;have a1:=(cK.mp F).1;refine bw (g:=λA=>A=(l.set 0 (.X<|(o.take i++[a]).map an)++[O.X [cc i]]).set 1 (.X<|(t++[l.length]).map<|dA d)) ⟨_,rfl⟩ λA v=> ?_;have a5:A[0]?=J (.X<|(o.take<|i+1).map an):=U a4<|U v<|fW.set (q:=1) _ _ 0 _ (by decide)<|cG<|gX a0;have a6:A[1]?=J (.X<|(t++[l.length]).map<|dA d):=U v<|gX (cK.mp P).1;have a7:A[l.length]?=J (.X [cc i]):=U v<|fW.set (q:=1) _ _ _ _ (me a1)<|am Y dJ;have a8:eB A (t++[l.length])<|dV<|i+1:=U (IB i)<|eB.c4 (eB.cC (R:=[i]) a7)<|U v<|((H.keep (fW.set (q:=0) l _) λk s=>(I k s).1).keep (fW.c4 (q:=1) _ _) λk s=>(I k s).2).keep (fW.set (q:=1) _ _) λk s=>(I k s).2;have C:=C (i+1) (aB g 6<|cc i) A (t++[l.length]) (am B<|gv i 1 m) L a5 a6 a8 λk s=>(fB.mp s).elim (I k) λh=>U (dk.mp h) ⟨me a0,me a1⟩;have a2:ew [cc i] (mk w<|d++l.set 0 (.X<|(o.take i++[a]).map an))=J (.ok<|dA d l.length,mk w<|d++(l.set 0 (.X<|(o.take i++[a]).map an)++[.X [cc i]])):=am Y<|eP rfl;rw[v]at C;cases p with
  |false=>have b:y[i]?=J a:=am (show o=y from s.2) M;exact dC (ev rfl 7133 λe=>e L.cv L.ce (dj z rfl) L.dz (gG Q<|jG b) (lc (f:=an) z T) L.bA (dj N rfl) a2<|lc (f:=dA d) (x:=l.length) P V) C
  |true=>exact eY ((show∀(i:Nat) (c a:ag),y[i]?=J c->o[i]?=J a->∃r k b,bV w.nm w.H c r k b/\w.H[b]?=J a/\bu w.H c c from s.2) i _ _ S M) λr k b a9 b0 b1=>dC (ev rfl 458077 λe=>e L.cv L.ce (dj z rfl) L.bl L.bl L.dz (gG Q<|jG S) (dc _ aa b1) (L6 _ aa a9 b0) (lc (f:=an) z T) L.bA (dj N rfl) a2<|lc (f:=dA d) (x:=l.length) P V) C
def Rt (m:Nat):(m+2)/2=m/2+1:=Ku m<|by decide
def rA (w:aM) (d:List O) (j:Nat) (u p:Bool) (r q:Nat) (l:List O) (e:List Nat) (b:List<|List Nat) (z:cx):Prop:=∃g a c,z=J (.ok .a1 g<|mk w<|d++a)/\iI d j u p r g/\g 7=J (dA d q)/\fW q l a/\a[q]?=J (.X<|(e++c).map<|dA d)/\eB a c b/\∀k∈c,k≠q
def rA.b_ {j:Nat} {u p:Bool} {r:Nat} {b:List Nat} {g:ap} (L:iI d j u p r g) (c:g 7=J (dA d q)) (e:a[q]?=J (.X<|b.map<|dA d)):rA w d j u p r q a b []<|J<|.ok .a1 g<|mk w<|d++a:=⟨g,a,[],rfl,L,c,λ_ _ _ h=>h,am ((dI b).symm) e,trivial,λk=>eG (l:=[])⟩
def rA.cons {j:Nat} {u p:Bool} {r:Nat} {l:List O} {R:List Nat} (n:fW q l b) (f:l.length≠q) (o:b[l.length]?=J (.X<|R.map cc)) (h:rA w d j u p r q b (c++[l.length]) a z):rA w d j u p r q l c (R::a) z:=ro h λg s i z t v m x y A=>⟨g,s,l.length::i,z,t,v,n.trans m,am (bD c [l.length] i) x,⟨m _ _ f o,y⟩,λk h=>(bY.mp h).elim (λe=>U e f)<|A k⟩
def Sq {j:Nat} {u p:Bool} {K:List ag} (b0:pZ w K c) (b1:small (w.H.length+1:Nat)=ac) {r:Nat} {C:List Nat} (P:r≠b) (Q:0≠b):∀(D:List<|List Nat) (s E v:List Nat) (g:ap) (l:List O),C=s++E->eB l E D->(∀m∈E,m≠b)->(∀R∈D,(∀a∈R,a<K.length)/\R.length<=1000)->
  iI d j u p r g->g 7=J (dA d b)->l[0]?=J (.X<|K.map an)->l[r]?=J (.X<|C.map<|dA d)->l[b]?=J (.X<|v.map<|dA d)->v.length+D.length<=2000->
  rA w d j u p r b l v (Br c u D) (dZ (aD<|n+8) aa 6 OH (.b8<|(kx s.length (D.length/2) 2).map cc) g<|mk w<|d++l):=by
 refine ou ?_ ?_ ?_
 ·exactλs E v g l _ _ _ _ L F _ _ z _=>dC (hR rfl)<|.b_ L F z
 ·exactλa s E v g l _ _ _ _ L F _ _ z _=>U gZ<|dC (hR rfl)<|.b_ L F z
 ·intro A B D M s E v g l e H a2 S L F a3 T z a4
  refine bF H.cons λa5 b2 V b3 b4=>bF b4.cons λb5 Y a0 b6 b7=> ?_
  subst a0;subst V
  have a6:=S A<|.head _;have a7:=S B<|.tail _<|.head _;have a1:∀{i:Nat} {o:O},l[i]?=J o->(d++l)[d.length+i]?=J o:=λ{i o} h=>(qy rfl).trans h;refine bw (Ry (w:=w) (d:=d++l) (n+1) (u:=u) (a1 a3) (a1 b3) (a1 b6) b0 b1 a6.1 a7.1<|aF (vS a6.2 a7.2)<|by decide) λb9 a8=> ?_;rw[vu,Nat.add_zero, <-oq, <-oq, <-oq,bD]at a8;have c0:v.length<ar:=dK (aF (ck _ _) a4) (by decide);refine bw (g:=λI=>I=(l++ .X ((fm c u A B).map cc)::b9).set b (.X<|(v++[l.length]).map<|dA d)) ⟨_,rfl⟩ λI t=> ?_;have N:fW b l I:=U t<|(fW.c4 _ _).trans<|fW.set _ _;have a9:l.length≠b:=me (cK.mp z).1;have c1:I[l.length]?=J (.X<|(fm c u A B).map cc):=U t<|fW.set (q:=b) _ _ _ _ a9<|(mY<|bE _).trans<|U (re _) rfl;have c2:I[b]?=J (.X<|(v++[l.length]).map<|dA d):=U t<|gX (cK.mp<|cG z).1;have M:=M (s++[a5]++[b5]) Y (v++[l.length]) (aB g 6<|cc s.length) I (iT<|iT e) (b7.keep N λm h=>a2 m<|.tail _<|.tail _ h) (λm h=>a2 m<|.tail _<|.tail _ h) (λR h=>S R<|.tail _<|.tail _ h) L F (N _ _ Q a3) (N _ _ P T) c2<|U (d_ _ _)<|U (jo _ _)<|aF (dv<|ig _) a4;refine .cons N a9 c1 ?_;rw[d_,d_,t]at M;rw[t,gY,gY,Rt,Ko,jW];exact dC (ev rfl 15583 λy=>y F (dj z rfl) L.bl L.ce L.bA (ot T<|eN e) L.bA (ot (k:=s.length+1) T<|(al (λi=>(C.map<|dA d)[i]?) (d_ s a5).symm).trans<|eN<|iT e) L.cw a8<|lc (f:=dA d) (x:=l.length) (cG z) c0) M
def rB (k:Nat) (b:List<|List Nat):Prop:=(∀R∈b,∀a∈R,a<k)/\(b.map hC).sum<=1000/\b.length<=1000
def Uo (a b:List Nat) (r:List<|List Nat):((a::b::r).map hC).sum=a.length+b.length+(r.map hC).sum:=by rw[jW,jW,Ks,Ks,iC]
def Ib {u:Bool}:∀e:List<|List Nat,((fQ c u e).map hC).sum<=(e.map hC).sum:=ou (bE _) (λ_=>bE _) λa b r f=>by rw[Uo];exact vS (Hm a b) f
def Sr {u:Bool} {P:Nat->Prop}:∀f:List<|List Nat,(∀R∈f,∀a∈R,P a)->∀R∈fQ c u f,∀a∈R,P a:=
 ou (λh=>h) (λ_ h=>h) λa b r k h R e x i=>by
  rcases bY.mp (show R∈fm c u a b::fQ c u r from e)with rfl|e
  ·exact(Rv i).elim (h a (.head _) x)<|h b (.tail _<|.head _) x
  ·exact k (λR e=>h R<|.tail _<|.tail _ e) R e x i
def rB.jM {k:Nat} {c:Nat->Nat->Int} {u:Bool} {a:List<|List Nat} (h:rB k a):rB k<|fQ c u a:=bB (Sr a h.1) (aF (Ib a) h.2.1) (by have:=h.2.2;rw[vc];omega)
theorem Bd {R:List Nat}:∀l:List<|List Nat,R∈l->R.length<=(l.map hC).sum
 |[],h=>by cases h
 |a::l,h=>by
  rw[jW,Ks];rcases bY.mp h with rfl|h
  ·exact ck _ _
  ·exact aF (Bd l h)<|hE _ _
def Qd (h:l[i]?=J (.X<|a++[v])):go (.ref<|aC d i) (.I<|-1) (mk w<|d++l)=J v:=by
 have e:((a++[v]).length:Int)+ -1=a.length:=by rw[bH];exact ow (a.length:Int) 1
 show(((mk w<|d++l)[aC d i]?).bind λo=>xo o<|.I<|-1)=_;rw[dB,h];show(if(0:Int)<= -1 then(a++[v])[(-1:Int).toNat]?else if 0<=((a++[v]).length:Int)+ -1 then(a++[v])[(((a++[v]).length:Int)+ -1).toNat]?else Y)=_;rw[aX (by decide),e];exact(aK<|lf _).trans dJ
def DO (w:aM) (d:List O) (j:Nat) (u p:Bool) (N:Nat) (b:List Nat) (z:cx):Prop:=∃g l r c,z=J (.ok .a1 g<|mk w<|d++l)/\iI d j u p r g/\l[r]?=J (.X [dA d c])/\l[c]?=J (.X<|b.map cc)/\∀a∈b,a<N
def TY {j:Nat} {u p:Bool} {K:List ag} (b2:pZ w K c) (b3:small (w.H.length+1:Nat)=ac):∀(k:Nat) (b:List (List Nat)) (a:List Nat) (r:Nat) (g:ap) (l:List O),rB K.length b->1<=b.length->b.length<=k+1->iI d j u p r g->l[0]?=J (.X (K.map an))->l[r]?=J (.X (a.map (dA d)))->eB l a b->
  DO w d j u p K.length (gU c u k b) (eD (aD (n+8)) aa (jj uF) Ay g (mk w (d++l))):=by
 have t:∀(k:Nat) (b:List (List Nat)) (a:List Nat) (r:Nat) (g:ap) (l:List O),rB K.length b->1<=b.length->b.length<=1->iI d j u p r g->l[r]?=J (.X (a.map (dA d)))->eB l a b->gU c u k b=b.headD []->
  DO w d j u p K.length (gU c u k b) (eD (aD (n+8)) aa (jj uF) Ay g (mk w (d++l))):=λk b a r g l o v D L m H s=>
  bw (List.length_eq_one_iff.mp (iD D v)) λR h=>by
   subst h
   refine bF H.cons λy A q e z=> ?_
   subst q
   cases z.b_;exact U s ⟨g,l,r,y,ci 3 λi=>i L.bA (fc m),L,m,e,o.1 R (.head _)⟩
 intro k
 induction k with
 |zero=>exactλb a r g l o v D L _ m H=>t 0 b a r g l o v D L m H rfl|succ k a4=>
  intro b a r g l o v D L P m H
  refine aZ (b.length<=1) (λq=>t (k+1) b a r g l o v q L m H (aK q)) λq=> ?_;refine U (show gU c u (k+1) b=gU c u k (fQ c u b)from aX q) ?_;have len:∀{l:List O},l[r]?=J (.X (a.map (dA d)))->e_ aa .bb [.ref (aC d r)] (mk w (d++l))=J (.ok (.I b.length),mk w (d++l)):=λh=>(fc h).trans (by rw[bX,H.bb]);have a5:r≠l.length:=dQ (cK.mp m).1;have Q:0≠l.length:=dQ (cK.mp P).1;have T:∀k∈a,k≠l.length:=λk b4=>dQ (H.ht k b4);have a6:fW l.length l (l++[.X []]):=fW.c4 _ _;have b5:b.length<=ar:=aF o.2.2 (by decide);refine ro (Sq (w:=w) (d:=d) n (u:=u) (p:=p) (j:=j) b2 b3 a5 Q b [] a [] (aB g 7 (dA d l.length)) (l++[.X []]) rfl (H.keep a6 T) T (λR s=>⟨o.1 R s,aF (Bd b s) o.2.1⟩) L rfl (cG P) (cG m) dJ (aF (bp (eb _)) (aF o.2.2 (by decide)))) λE B F z M V C S Y b6=> ?_;have C:=a6.trans C;have a7:=SY b5 v;have a8:(1:Int)<b.length:=mX.mpr (bo q);have a9:(fQ c u b).length<=k+1:=U (vc c u b) (vT (V3 (dL (jX (dv D)) (aF (hD (hE 2 k) (k+2)) (bp (Wh (k+2)).symm)))));have N:1<=(fQ c u b).length:=U (vc c u b) ((Nat.le_div_iff_mul_le (by decide)).mpr (dv v));have y:=C _ _ a5 m;have b7:F.length<ar:=dK (aF (aF (bp Y.bb) (aF (ck _ _) (bp bH.symm))) (aF (bp (vc c u b)) (Nat.div_le_of_le_mul (aF (dv o.2.2) (by decide:1001<=2*1001))))) (by decide);refine aZ (b.length %2=1) (λs=> ?_) λs=> ?_
  ·refine eY (R5 b H s) λa0 A R b0 b8 b9=> ?_;have a1:((b.length:Int) %2=1):=al ox s;have b1:A≠l.length:=T A (U b0 (yH _ (dk.mpr rfl)));have a2:fW l.length B (B.set l.length (.X ((F++[A]).map (dA d)))):=fW.set _ _
   have a3:eB (B.set l.length (.X ((F++[A]).map (dA d)))) (F++[A]) (fQ c u b):=by rw[fQ,b8];exact eB.c4 (eB.cC (a2 _ _ b1 (C _ _ b1 b9))) (Y.keep a2 b6)
   have c0:B[r]?=J (.X (a0.map (dA d)++[dA d A])):=y.trans (U b0 (U g_ rfl));exact dC (ci 3911547 λi=>i L.bA (len m) (cz a8) (eP (a:=[]) rfl) L.bA (len (cG m)) a7 z M.bA (len y) (gH a1) V (dj S rfl) M.bA (Qd c0) (lc (f:=dA d) (x:=A) S b7) V) (a4 (fQ c u b) _ l.length (aB E 5 (dA d l.length)) _ o.jM N a9 M.to (a2 _ _ Q (C _ _ Q P)) (gX (cK.mp S).1) a3)
  ·have a1:¬((b.length:Int) %2=1):=λe=>s (eW e);have a3:eB B F (fQ c u b):=by rw[fQ,NX b s,dI];exact Y
   exact dC (ci 44923 λi=>i L.bA (len m) (cz a8) (eP (a:=[]) rfl) L.bA (len (cG m)) a7 z M.bA (len y) (dt a1) V) (a4 (fQ c u b) _ l.length (aB E 5 (dA d l.length)) B o.jM N a9 M.to (C _ _ Q P) S a3)
def Lq (w:aM) (d l:List O) (b:List ag) (R:List Nat) (z:cx):Prop:=∃g,z=J (.ok .a1 g<|mk w<|d++(l++[.X<|R.map λa=>an<|b.getD a cQ]))/\g 8=J (dA d l.length)
def PQ {j:Nat} {c:List ag} (s:d[j]?=J (.X<|c.map an)) {l:List O} {R:List Nat} (r:l[q]?=J (.X<|R.map cc)) (t:∀a∈R,a<c.length) (u:R.length<=1000):∀(k b:List Nat) (g:ap),R=b++k->g 1=J (.ref<|be j)->g 8=J (dA d l.length)->
  Lq w d l c R (dZ (aD<|n+8) aa 6 OF (.b5 (aC d q) b.length) g<|mk w<|d++(l++[.X<|b.map λa=>an<|c.getD a cQ])):=by
 intro k
 induction k with
 |nil=>
  intro b g h o m
  have e:=mK (f:=cc) h;have h:R=b:=h.trans (dI b)
  subst h
  exact⟨g,hR<|ix (dB.trans<|cG r) e,m⟩
 |cons e k v=>
  intro b g h o m
  have y:c[e]?=J (c.getD e cQ):=U iB<|U (fd<|t e<|nC h) rfl;have z:=v (b++[e]) (aB g 6<|cc e) (iT h) o m
  have k:(l++[O.X<|b.map λa=>an<|c.getD a cQ]).set l.length (.X<|(b++[e]).map λa=>an<|c.getD a cQ)=l++[.X<|(b++[e]).map λa=>an<|c.getD a cQ]:=(vR _ _<|bE _).trans<|U (re _) rfl
  rw[d_, <-k]at z;exact dC (ev (fA (dB.trans<|cG r)<|eN h) 55 λi=>i m (dj dJ rfl) o (gG s<|jG y)<|lc (f:=λa=>an<|c.getD a cQ) (x:=e) dJ<|iF (qH h u)<|by decide) z
def TZ {j:Nat} {u p:Bool} (c:d[j]?=J (.X [])):∃a,aD (n+9) aa 59 [.ref 9,.ref<|be j,.ad u,.ad p] (mk w d)=J (.ok<|.ref<|aC d 0,mk w<|d++ .X []::a):=by have len:e_ aa .bb [.ref<|be j] (mk w d)=J (.ok<|.I 0,mk w d):=mD aa (be j) (l:=[])<|(lG w d j).trans c;exact⟨[],by exact aL FK rfl 18 λb=>b len<|cX (a:=[]) rfl⟩
def S_ (k:Nat) (h:k<=1000):rB k<|dV k:=by
 refine(bB (λR c a e=> ?_) (?_)<|by rw[x3];exact h)
 ·refine ah (rc.mp c) λi f b=> ?_;subst b;rw[dk.mp e];exact CB.mp f
 ·have:∀k,((dV k).map hC).sum=k:=λk=>by
   induction k with
   |zero=>rfl|succ k b=>rw[IB,g_,List.sum_append,b];rfl
  rw[this];exact h
def I9 {u:Bool}:∀(k:Nat) (b:List<|List Nat),(gU c u k b).length<=(b.map hC).sum:=by
 have e:∀b:List<|List Nat,(b.headD []).length<=(b.map hC).sum:=λb=>by
  cases b with
  |nil=>exact bE _|cons a r=>exact Bd (a::r) (.head _)
 intro k
 induction k with
 |zero=>exact e|succ k a=>
  intro b
  by_cases q:b.length<=1
  ·exact aF (bp<|al hC<|aK q)<|e b
  ·exact aF (bp<|al hC<|aX q)<|aF (a _)<|Ib b
def TW {j:Nat} {u p:Bool} {f r:List ag} (s:d[j]?=J (.X<|f.map an)) (B:wx w p f r) (t:f.length<=1000) (C:0<f.length) (i:pZ w r c) (F:small (w.H.length+1:Nat)=ac):
  ∃b q,aD (n+9) aa 59 [.ref 9,.ref<|be j,.ad u,.ad p] (mk w d)=J (.ok<|.ref<|aC d q,mk w<|d++b)/\b[q]?=J (.X<|(gU c u f.length<|dV f.length).map λa=>an<|f.getD a cQ):=by
 have len:∀{b:List O},e_ aa .bb [.ref<|be j] (mk w<|d++b)=J (.ok<|.I f.length,mk w<|d++b):=λ{b}=>(mD _ _<|f_ s).trans (by rw[bX]);have m:e_ aa .bb [.ref<|be j] (mk w d)=J (.ok<|.I f.length,mk w d):=by have:= @len [];rwa [dI]at this
 refine cps λa5 H=> ?_;refine kE (QP (w:=w) (d:=d) (n+1) (u:=u) s B t f.length 0 (aB (aB (aB (aB (aB (aB (λ_=>Y) 3<|.ad p) 2<|.ad u) 1<|.ref<|be j) 0<|.ref 9) 4<|dA d 0) 5<|dA d 1) [.X [],.X []] [] (eb _) rfl rfl rfl trivial λe=>eG (l:=[])) λv K L z M N P Q=> ?_;have o:f.length=r.length:=B.1;have D:=S_ f.length t;refine ju (TY (w:=w) (d:=d) n (u:=u) (p:=p) (j:=j) i F f.length (dV f.length) L 1 v K (am o D) (by rw[x3];exact C) (by rw[x3];exact ig _) M N P Q) λx A a6 R y E S T V=> ?_;refine ah (PQ (w:=w) (d:=d) n s (l:=A) (q:=R) T (λa e=>U o<|V a e) (aF (I9 _ _) D.2.1) _ [] (aB x 8<|dA d A.length) rfl E.dz rfl) λa0 a1 a2=> ?_;have a3:gb aa 1 [.I f.length]=J (.b8<|(kx 0 f.length).map cc):=by rw[xZ aa f.length (aF t<|by decide),Kp];rfl
 have a4:¬(f.length:Int)=0:=λe=>me C<|eW e;refine H ?_;exact cZ _ A.length (by exact aL FK rfl 114614 λh=>h m (dt a4) (cX (a:=[]) rfl) (eP (a:=[]) rfl) len a3 z y (eP (a:=[]) rfl) E.bA (ot (k:=0) (cG S) rfl) a1 a2) dJ
end
end
section
open PySem
abbrev er:=Nat->Option T
def iK (B:er):Int->Option V:=λa=>if 0<=a then(B a.toNat).map af else Y
noncomputable def hy (B:er) (x:Nat) (t:T):er:=λy=>if y=x then J t else B y
def zM {B:er} {x:Nat}:iK B x=(B x).map af:=by simp[iK]
def Mn {B:er} {x:Nat} {t:T}:(λb:Int=>if b=(x:Int)then J<|af t else iK B b)=iK (hy B x t):=by
 funext b
 delta iK hy
 refine aZ (b=(x:Int)) (λq=> ?_)<|λq=> ?_
 ·subst q;simp
 ·refine(U (aX q) ?_)
  split
  ·exact U (aX<|by omega) rfl
  ·rfl
class inductive cV (B:er):T->T->Prop
 |dG {t:T}:(∀x,t=.v x->B x=Y)->cV B t t|cT {x:Nat} {t u:T}:B x=J t->cV B t u->cV B (.v x) u
noncomputable def iQ:T->String|.v _=>"v"|.i _=>"i"|.a _=>"a"|_=>"s"
def gV (t:T) (a:ae):go (af t) (.I 0) a=J (.Z<|S<|iQ t):=by cases t<;>rfl
section
variable {w:aM} {s:List O}
def NO (n:Bool) {B:er} (g:l[j]?=J o) (D:bW o (iK B) k) {t u:T} (h:cV B t u):∀f:ap,f 0=J (af t)->f 1=J (.ref j)->
  ∃c,eD m n (jj AA.body) (jT AA.body) f l=J (.ok .a1 c l)/\c 0=J (af u):=by
 induction h with
 | @dG t e=>
  intro f d i
  refine ax f (?_) d;cases t with
  |v x=>exact ci 418 λb=>b d d i (D.h7 g (a:=x)<|by refine U zM<|U (e x rfl) ?_;rfl)|_=>exact ci 2 λb=>b d
 | @cT x t u p _ q=>
  intro f d i
  refine ah (q (aB f 0<|af t) rfl i) λc z r=> ?_;have e:iK B x=J (af t):=by refine U zM<|U p ?_;rfl
  exact ax c (by exact ci 11682 λb=>(b d d i (D.i7 g e) i d<|D.ao g e).trans z) r
def eT (n:Nat) (c:Bool) {b:ae} {B:er} (g:b[j]?=J o) (D:bW o (iK B) k) {t u:T} (h:cV B t u):aD (n+1) c 88 [af t,.ref j] b=J (.ok<|af u,b):=ah (NO (m:=aD n) c g D h (aB (aB (λ_=>Y) 1<|.ref j) 0<|af t) rfl rfl) λd z e=>aL PA rfl 3 λa=>a z e
theorem qt:∀(t:T) (m:Nat),2*t.a0+2<=m->gQ m (af t)=ac
 |_,0,h=>(rd _ h).elim|_,1,h=>(rd _<|jn h).elim|.v _,_+2,_=>rfl|.i _,_+2,_=>rfl|.a _,_+2,_=>rfl|.ay f x,m+2,h=>by show((gQ m (af x)&&ac)&&ac)=ac;exact U (qt x m<|jn<|jn h) rfl
 |.ak f x y,m+2,h=>by show((gQ m (af x)&&(gQ m (af y)&&ac))&&ac)=ac;have h:2*(oz x.a0 y.a0)+2<=m:=jn<|jn h;exact U (qt x m<|aF (ha (pL 2<|mc _ _) 2) h)<|U (qt y m<|aF (ha (pL 2<|na _ _) 2) h) rfl
def rW [Decidable p] [Decidable q] (h:p↔q):bj p=bj q:=decide_eq_decide.mpr h
def NQ:∀t u:T,kR (af t) (af u)=bj (t=u):=by
 have j:∀{x:Bool} {n:T->T->Prop} {t u:T} [Decidable<|t=u],x=aa->t≠u->x=bj (t=u):=λh n=>h.trans (decide_eq_false n).symm
 intro t
 induction t with
 |v n=>intro u;cases u with|v m=>exact(nJ _).trans<|rW ⟨λh=>al T.v<|eW h,λh=>al ox<|T.v.inj h⟩|_=>rfl
 |i z=>intro u;cases u with|i m=>exact(nJ _).trans<|rW ⟨al T.i,T.i.inj⟩|_=>rfl
 |a k=>intro u;cases u with|a m=>exact(nJ _).trans<|rW ⟨λh=>al T.a<|eW h,λh=>al ox<|T.a.inj h⟩|_=>rfl
 |ay f x b=>intro u;cases u with
  |ay g y=>show(bj ((f:Int)=g)&&((kR (af x) (af y)&&ac)&&ac))=_;exact U (nJ _)<|U (nJ _)<|U (b y)<|(Cm _ _).symm.trans<|rW ⟨λh=>am (eW h.1)<|am h.2 rfl,λh=>⟨al ox (T.ay.inj h).1,(T.ay.inj h).2⟩⟩
  |ak g y z=>show(bj ((f:Int)=g)&&((kR (af x) (af y)&&aa)&&ac))=aa;exact U (vH _)<|vH _
  |_=>rfl
 |ak f x e b c=>intro u;cases u with
  |ak g y d=>show(bj ((f:Int)=g)&&((kR (af x) (af y)&&(kR (af e) (af d)&&ac))&&ac))=_;exact U (nJ _)<|U (nJ _)<|U (b y)<|U (c d)<|am (Cm _ _)<|(Cm _ _).symm.trans<|rW ⟨λh=>am (eW h.1)<|am h.2.1<|am h.2.2 rfl,λh=>⟨al ox (T.ak.inj h).1,(T.ak.inj h).2⟩⟩
  |ay g y=>show(bj ((f:Int)=g)&&((kR (af x) (af y)&&aa)&&ac))=aa;exact U (vH _)<|vH _
  |_=>rfl
def UX (t:T):∃l,af t=.av l:=by cases t<;>exact⟨_,rfl⟩
def Ae {t u:T} {a:ae} (b:t.a0<=29) (c:u.a0<=29):pa (af t) (af u) a=J (bj<|t=u):=by
 have e:pa (af t) (af u) a=if gQ kh (af t)&&gQ kh (af u)then J<|kR (af t)<|af u else Y:=bw (UX t) λl z=>U z rfl
 have d:∀{t:T},t.a0<=29->gQ kh (af t)=ac:=λ{t} h=>qt t kh<|ha (pL 2 h) 2;exact e.trans<|(aK<|U (d b)<|d c).trans<|al J<|NQ t u
noncomputable def gT:T->Option Nat|.ay f _=>J f|.ak f _ _=>J f|_=>Y
theorem Ek:∀b:List Bool,wJ (b.map .ad)=J b|[]=>rfl|a::l=>(al (hm (a::·))<|Ek l).trans rfl
def B4 {a:List Bool} {b:Bool} (h:l[i]?=J (.X<|a.map .ad)) (e:a.contains b=c):ex .In (.ad b) (.ref<|aC s i) (mk w<|s++l)=J c:=(
  (al (λo=>o.bind λo=>xg o<|.ad b)<|dB.trans h).trans<|al (hm λl=>l.contains b)<|Ek a).trans<|al J e
def Bh {u:T} (h:gT u=Y):¬iQ u="s"/\u.a0<=29:=by
 cases u with
 |ay=>exact lN h|ak=>exact lN h|v _=>exact⟨(by decide:¬"v"="s"),cr _⟩|i _=>exact⟨(by decide:¬"i"="s"),cr _⟩|a _=>exact⟨(by decide:¬"a"="s"),cr _⟩
def lu (B:er) (x d:Nat) (t:T) (r:Bool):Prop:=∀(w:aM) (n:Nat) (s:List O) (j k:Nat) (o:O),(mk w s)[be j]?=J o->bW o (iK B) k->∃l,aD (n+d+2) aa 89 [.I x,af t,.ref<|be j] (mk w s)=J (.ok<|.ad r,mk w<|s++l)
def kF (B:er) (d:Nat) (t u:T):Prop:=∀(w:aM) (n:Nat) (s:List O) (j k:Nat) (o:O),(mk w s)[be j]?=J o->bW o (iK B) k->∃l,aD (n+d+2) aa 91 [af t,.ref<|be j] (mk w s)=J (.ok<|af u,mk w<|s++l)
def Jb (h:(mk w s)[be j]?=J o):(mk w<|s++l)[be j]?=J o:=(lG w _ j).trans<|(iW (cK.mp<|(lG w s j).symm.trans h).1).trans<|(lG w s j).symm.trans h
section
variable {B:er} {x d f:Nat} {t u a b:T}
def lu.g6 (b:cV B t u) (h:gT u=Y):lu B x d t<|bj<|u=.v x:=λw n s j k o g D=>⟨[],U (dI s)<|aL AG rfl 564 λa=>a (eT _ aa g D b) (gV u _) (mR (Bh h).1)<|Ae (u:=.v x) (Bh h).2<|cr _⟩
theorem lu.ay {r:Bool} (c:cV B t<|.ay f a) (i:lu B x d a r):lu B x (d+1) t r:=λw n s j k o g D=>bw (i w n s j k o g D) λl z=>⟨_,aL AG rfl 1703940 λb=>b (eT _ aa g D c) z (eP (a:=[.ad r]) rfl)<|B4 (a:=[r]) dJ<|by cases r<;>rfl⟩
theorem lu.ak {r e:Bool} (h:cV B t<|.ak f a b) (i:lu B x d a r) (l:lu B x d b e):lu B x (d+1) t<|r||e:=λw n s j k o g D=>bw (i w n s j k o g D) λm p=>bw (l w n (s++m) j k o (Jb g) D) λu q=>⟨_,aL AG rfl 218234884 λc=>c (eT _ aa g D h) p (iw q) (eP (a:=[.ad r,.ad e]) rfl)<|B4 (a:=[r,e]) dJ<|by cases r<;>cases e<;>rfl⟩
def kF.g6 (b:cV B t u) (h:gT u=Y):kF B d t u:=λw n s j k o g D=>⟨[],U (dI s)<|aL AH rfl 52 λa=>a (eT _ aa g D b) (gV u _)<|mR (Bh h).1⟩
theorem kF.ay {c:T} (e:cV B t<|.ay f a) (i:kF B d a c):kF B (d+1) t<|.ay f c:=λw n s j k o g D=>bw (i w n s j k o g D) λl z=>⟨_,aL AH rfl 3407876 λb=>b (eT _ aa g D e) z (eP (a:=[af c]) rfl)<|pD dJ⟩
theorem kF.ak {e h:T} (l:cV B t<|.ak f a b) (i:kF B d a e) (m:kF B d b h):kF B (d+1) t<|.ak f e h:=λw n s j k o g D=>bw (i w n s j k o g D) λp q=>bw (m w n (s++p) j k o (Jb g) D) λu r=>⟨_,aL AH rfl 218365956 λc=>c (eT _ aa g D l) q (iw r) (eP (a:=[af e,af h]) rfl)<|pD dJ⟩
end
end
end
section
open PySem
def co (c:List Nat) (b a:List O):Prop:=b.length<=a.length/\∀i,i<b.length->i∉c->a[i]?=b[i]?
def co.c4 (b:List Nat) (a l:List O):co b a<|a++l:=⟨by simp,λi h _=>iW h⟩
def co.b1 (b:List Nat) (a:List O):co b a a:=⟨bE _,λ_ _ _=>rfl⟩
theorem co.trans {f:List Nat} {c d e:List O} (a:co f c d) (b:co f d e):co f c e:=⟨aF a.1 b.1,λi h n=>(b.2 i (dL h a.1) n).trans<|a.2 i h n⟩
def co.sub {c d:List Nat} {b:List O} (a:co c e b) (h:∀i∈c,i∈d):co d e b:=⟨a.1,λi f n=>a.2 i f λq=>n<|h i q⟩
def co.d6 {c:List Nat} {d b:List O} (a:co c d b) (h:d[i]?=J o) (n:i∉c):b[i]?=J o:=(a.2 i (cK.mp h).1 n).trans h
theorem co.set {a:List O} {j:Nat} {o:O} {b:List Nat} (h:j∈b):co b a<|a.set j o:=⟨by simp,λi _ n=>ge λe=>n<|by refine am e ?_;exact h⟩
def cq {w:aM} {a:List O} (h:a[j]?=J o):(mk w a)[be j]?=J o:=by refine cJ (lG _ _ _) ?_;exact h
def vg {w:aM} {a:List O}:(mk w a).set (be j) o=mk w (a.set j o):=by exact U (x8 _ _ _ _) rfl
noncomputable def kP (m:List Nat) (B:er):Nat:=(m.filter λx=>(B x).isSome).length
def Nh (m:List Nat) (B:er):kP m B<=m.length:=List.length_filter_le ..
def Ni {m:List Nat} {B:er} {x:Nat} (a:m.Nodup) (c:x∈m) (d:B x=Y):kP m (hy B x t)=kP m B+1:=by
 unfold kP
 induction m with
 |nil=>cases c
 |cons y l f=>
  have a:=Iff.mp mZ a;refine U VB<|U VB ?_;refine aZ (y=x) (λe=> ?_)<|λe=> ?_
  ·subst e
   have:∀z∈l,(hy B y t z).isSome=(B z).isSome:=λz g=>by
    unfold hy;rw[aX<|λq:z=y=>a.1<|by refine am q ?_;exact g]
   have b:(l.filter λx=>(hy B y t x).isSome)=l.filter λx=>(B x).isSome:=List.filter_congr this;simp[hy,d,b];have h:=al hC b;simpa[hy]using h
  ·have b:=(bY.mp c).resolve_left λq=>e q.symm;have:=f a.2 b;have g:hy B x t y=B y:=by exact aX e
   refine(U g ?_)
   split<;>simp[this]
def sQ (a:Bool):gb a 1 [.I 1]=J (.b8 [.I 0]):=by cases a<;>rfl
def pt (a:Bool):gb a 1 [.I 2]=J (.b8 [.I 0,.I 1]):=by cases a<;>rfl
section
variable {w:aM}
def ny {u:T} (h:u.a9=aa):¬iQ u="v":=by
 cases u with
 |v _=>exact hv h|i _=>exact(by decide:¬"i"="v")|a _=>exact(by decide:¬"a"="v")|_=>exact(by decide:¬"s"="v")
def IY {u:T} (h:iQ u="s"):∃f,gT u=J f/\∀b,go (af u) (.I 1) b=J (.I f):=by
 cases u with
 |ay f _=>exact ax f rfl (λ_=>rfl)|ak f _ _=>exact ax f rfl (λ_=>rfl)|v _=>exact bt h (by decide:¬"v"="s")|i _=>exact bt h (by decide:¬"i"="s")|a _=>exact bt h (by decide:¬"a"="s")
def B5 {t u:T} {a:ae} (b:t.a0<=29) (h:t=u):ex .Eq (af t) (af u) a=J ac:=(Ae (a:=a) b<|h▸b).trans<|al J<|decide_eq_true h
def hY {t u:T} {a:ae} (b:t.a0<=29) (c:u.a0<=29) (h:¬t=u):ex .Eq (af t) (af u) a=J aa:=(Ae (a:=a) b c).trans<|al J<|decide_eq_false h
def LA (w:aM) (m:List Nat) (j:Nat) (c:List O) (b:Bool) (B:er) (z:R V):Prop:=∃a o,z=J (.ok<|.ad b,mk w a)/\co [j] c a/\a[j]?=J o/\bW o (iK B) (kP m B)
def fE (m:List Nat) (d:Nat) (B:er) (l r:T) (b:Bool) (s:er):Prop:=∀(w:aM) (j n:Nat) (a:List O) (o:O),m.Nodup->m.length<=1000->a[j]?=J o->bW o (iK B) (kP m B)->LA w m j a b s (aD (n+d+4) aa 90 [af l,af r,.ref<|be j]<|mk w a)
section
variable {m:List Nat} {d x f:Nat} {B A s:er} {l r u H a L c Q:T} {b:Bool}
def fE.eg (c:cV B l u) (e:cV B r u) (f:u.a0<=29):fE m d B l r ac B:=λw j n g o i h b D=>fe g o (aL lC rfl 292 λa=>a (eT _ aa (cq b) D c) (eT _ aa (cq b) D e)<|B5 f<|@rfl T u) (.b1 _ _) b D
def fE.bind (q:cV B l<|.v x) (t:cV B r u) (y:u.a0<=29) (C:u≠.v x) (E:lu B x d u aa) (F:x∈m) (g:B x=Y):fE m d B l r ac<|hy B x u:=λw j n c o I e b D=>bw (E w (n+1) c j _ o (cq b) D) λf z=>by rw[gv n 1 d]at z;refine bR (D.g5 (i:=be j) (j:=mk w<|c++f) (cq<|cG b) x (af u)<|aF (Nh m B)<|aF e<|by decide) λh p k _=> ?_;rw[vg]at p;rw[Mn,zM,g]at k;exact fe ((c++f).set j h) h (aL lC rfl 17039652 λa=>a (eT _ aa (cq b) D q) (eT _ aa (cq b) D t) (hY (cr _) y C.symm) z p) ((co.c4 _ c f).trans<|.set<|.head _) (gX (cK.mp<|cG b).1)<|U (Ni I F g) k
def fE.h5 (e:cV B l<|.v x) (f:cV B r u) (g:u.a0<=29) (h:u≠.v x) (i:lu B x d u ac):fE m d B l r aa B:=λw j n c o q k b D=>bw (i w (n+1) c j _ o (cq b) D) λp z=>by rw[gv n 1 d]at z;exact fe (c++p) o (aL lC rfl 262436 λa=>a (eT _ aa (cq b) D e) (eT _ aa (cq b) D f) (hY (cr _) g h.symm) z) (.c4 _ _ _) (cG b) D
def fE.n8 (k:cV B l u) (p:cV B r<|.v x) (h:u.a9=aa) (q:u.a0<=29) (i:fE m d B (.v x) u b s):fE m (d+1) B l r b s:=λw j n t o y c f D=>bS (i w j n t o y c f D) λg C z E=>cZ g C (aL lC rfl 2103588 λa=>a (eT _ aa (cq f) D k) (eT _ aa (cq f) D p) (hY q (cr _) λe=>ny h<|U e rfl) (gV u _) (mR<|ny h) z) E
def fE.lt (k:cV B l u) (p:cV B r H) (q:u≠H) (t:u.a9=aa) (v:H.a9=aa) (x:u.a0<=29) (y:H.a0<=29) (E:gT u=Y\/gT H=Y\/gT u≠gT H):fE m d B l r aa B:=λw j n F o O I b D=>
 (fe F o (aZ (iQ u="s") (λc=>aZ (iQ H="s") (λi=>ah (IY c) λf z K=>ah (IY i) λg C M=>
    have N:¬(f:Int)=g:=λe=>E.elim (λh=>lN<|z.symm.trans h) λh=>h.elim (λh=>lN<|C.symm.trans h) λh=>h (z.trans<|(al J<|eW e).trans C.symm)
    aL lC rfl 11378202916 λa=>a (eT _ aa (cq b) D k) (eT _ aa (cq b) D p) (hY x y q) (gV u _) (mR<|ny t) (gV H _) (mR<|ny v) (gV u _) (yf c) (gV H _) (yf i) (K _) (M _)<|jz N)
   λi=>aL lC rfl 103913764 λa=>a (eT _ aa (cq b) D k) (eT _ aa (cq b) D p) (hY x y q) (gV u _) (mR<|ny t) (gV H _) (mR<|ny v) (gV u _) (yf c) (gV H _)<|yg i)
  λc=>aL lC rfl 3250468 λa=>a (eT _ aa (cq b) D k) (eT _ aa (cq b) D p) (hY x y q) (gV u _) (mR<|ny t) (gV H _) (mR<|ny v) (gV u _)<|yg c) (.b1 _ _) b D)
theorem fE.ay (p:cV B l<|.ay f a) (q:cV B r<|.ay f c) (t:T.ay f a≠.ay f c) (u:(T.ay f a).a0<=29) (v:(T.ay f c).a0<=29) (i:fE m d B a c b s):fE m (d+1) B l r b s:=λw j n x o y h g D=>
 bS (i w j n x o y h g D) λk C z E=>(cZ k C (by
  cases b
  ·exact aL lC rfl 563095982309668 λe=>e (eT _ aa (cq g) D p) (eT _ aa (cq g) D q) (hY u v t) (kN<|@rfl Int f) (sQ aa) z
  ·exact aL lC rfl 563095982309668 λe=>e (eT _ aa (cq g) D p) (eT _ aa (cq g) D q) (hY u v t) (kN<|@rfl Int f) (sQ aa) z) E)
def fE.s3 (k:cV B l<|.ak f a L) (p:cV B r<|.ak f c Q) (q:T.ak f a L≠.ak f c Q) (t:(T.ak f a L).a0<=29) (u:(T.ak f c Q).a0<=29) (i:fE m d B a c aa s):fE m (d+1) B l r aa s:=λw j n v o x e g D=>bS (i w j n v o x e g D) λh y z C=>cZ h y (aL lC rfl 563095982309668 λb=>b (eT _ aa (cq g) D k) (eT _ aa (cq g) D p) (hY t u q) (kN<|@rfl Int f) (pt aa) z) C
theorem fE.ak (q:cV B l<|.ak f a L) (t:cV B r<|.ak f c Q) (u:T.ak f a L≠.ak f c Q) (v:(T.ak f a L).a0<=29) (x:(T.ak f c Q).a0<=29) (i:fE m d B a c ac A) (E:fE m d A L Q b s):fE m (d+1) B l r b s:=λw j n F o C g h D=>
 dx (i w j n F o C g h D) λk I y J K M=>bF (E w j n k I C g K M) λp N z O P=>(dD p N (by
  cases b
  ·exact aL lC rfl 4612249114409697572 λe=>e (eT _ aa (cq h) D q) (eT _ aa (cq h) D t) (hY v x u) (kN<|@rfl Int f) (pt aa) y z
  ·exact aL lC rfl 4612249114409697572 λe=>e (eT _ aa (cq h) D q) (eT _ aa (cq h) D t) (hY v x u) (kN<|@rfl Int f) (pt aa) y z) (J.trans O) P)
end
def Hi {m:List Nat} (g:m.Nodup) (e:m.length<=1000) {d:Nat} {B s:er} {l r:T} {b:Bool} (h:fE m d B l r b s) (n:Nat) (c:List O) (o:O) (i:c[j]?=J o) (D:bW o (iK B)<|kP m B):
  ∃a f,aD (n+d+4) aa 90 [af l,af r,.ref<|be j] (mk w c)=J (.ok<|.ad b,mk w a)/\co [j] c a/\a[j]?=J f/\bW f (iK s) (kP m s):=h w j n c o g e i D
noncomputable def gR (b:cd):Int->Option V:=λa=>if 0<=a then(b.lookup a.toNat).map λk=>.I (k:Nat)else Y
def sD {a:cd} {x:Nat}:gR a x=(a.lookup x).map λk=>.I (k:Nat):=by simp[gR]
set_option tactic.hygienic true in
def Hc {a:cd} {x:Nat} (h:a.lookup x=Y):(λb:Int=>if b=(x:Int)then J<|.I (y:Nat)else gR a b)=gR (a++[(x,y)]):=by
 funext b
 unfold gR
 refine aZ (b=(x:Int)) (λq=> ?_)<|λq=> ?_
 ·subst q;simp[jJ,h]
 ·refine(U (aX q) ?_)
  split
  ·rename_i d
   have c:b.toNat≠x:=λe=>q (by omega)
   congr 1
   refine U jJ ?_;cases a.lookup b.toNat with
   |some _=>rfl|none=>refine U iR<|U (aX c) ?_;rfl
  ·rfl
def hg.bb {l r:T} {f g b c:cd} (h:hg l r f g b c):f.length<=b.length/\g.length<=c.length:=by
 induction h with
 |i=>exact⟨bE _,bE _⟩|a=>exact⟨bE _,bE _⟩|gS=>exact⟨bE _,bE _⟩|iS=>simp|ay _ d=>exact d|ak _ _ d e=>exact⟨aF d.1 e.1,aF d.2 e.2⟩
def Jr {a l:List O} {d:List Bool} {b c:Bool} (h:l[i]?=J (.X<|d.map .ad)) (e:d.contains b=c):ex .NotIn (.ad b) (.ref<|aC a i) (mk w<|a++l)=J (!c):=al (hm nK)<|B4 (w:=w) h e
def xy {a:ae} (h:a[i]?=J o) (b:dm o=1):lK (.ref i) 5 a=J i:=po h<|by cases o<;>first|rfl|cases b|(simp[dm]at b;omega)
def wR {c:Nat->List V->ae->R V} {b:ae} {f:Int->Option V} {a:Int} {d:V} (D:bW o f k) (h:b[i]?=J o) (e:f a=J v):fM c i 5 [.I a,d] b=J (.ok v,b):=by rw[jB h (by refine U D.kind ?_;decide),D.d6 h,e];rfl
def Hg {P R:Nat} (b4:P≠R) {l r:T} {v B F K:cd} (h:hg l r v B F K):∀(d n:Nat) (p:List O) (M C:O),l.a0<=d->F.length<=ar->K.length<=ar->p[P]?=J M->p[R]?=J C->bW M (gR v) v.length->bW C (gR B) B.length->
  ∃q g j,aD (n+d+2) a7 92 [af l,af r,.ref<|be P,.ref<|be R] (mk w p)=J (.ok<|.ad ac,mk w q)/\co [P,R] p q/\q[P]?=J g/\q[R]?=J j/\bW g (gR F) F.length/\bW j (gR K) K.length:=by
 induction h with
 |i z v B=>
  intro d n p M C o S V t D u E
  exact ls p M C (by exact aL sf rfl 524288 λc=>c<|gH<|@rfl Int z) (.b1 _ _) t D u E
 |a k v B=>
  intro d n p M C o S V t D u E
  exact ls p M C (by exact aL sf rfl 524288 λc=>c<|gH<|@rfl Int k) (.b1 _ _) t D u E
 | @gS x y v B a1 a2=>
  intro d n p M C o S V t D u E
  have a3:gR v x=J (.I y):=by refine U sD<|U a1 ?_;rfl
  have a0:gR B y=J (.I x):=by refine U sD<|U a2 ?_;rfl
  exact ls p M C (by exact aL sf rfl 77922320384 λc=>c (u.l0 (cq t) a3) (xy (cq t) u.kind) (wR u (cq t) a3) (gH<|@rfl Int y) (xy (cq D) E.kind) (wR E (cq D) a0)<|gH<|@rfl Int x) (.b1 _ _) t D u E
 | @iS x y v B a1 a2=>
  intro d n p M C o S V t D u E
  rw[bH]at S V;have b5:gR v x=Y:=by rw[sD,a1];rfl
  have b6:gR B y=Y:=by rw[sD,a2];rfl
  refine bR (u.g5 (cq (w:=w) t) x (.I y)<|fn S) λg a5 k c7=> ?_;rw[vg]at a5;rw[Hc a1,b5]at k;have a4:(p.set P g)[R]?=J C:=by refine cJ (ge b4) ?_;exact D
  refine bR (E.g5 (cq (w:=w) a4) y (.I x)<|fn V) λj a6 N c8=> ?_;rw[vg]at a6;rw[Hc a2,b6]at N;have k:bW g (gR<|v++[(x,y)]) (v++[(x,y)]).length:=by refine U bH ?_;exact k
  have N:bW j (gR<|B++[(y,x)]) (B++[(y,x)]).length:=by refine U bH ?_;exact N
  have a8:((p.set P g).set R j)[P]?=J g:=by refine cJ (ge<|λe=>b4 e.symm) ?_;exact gX (cK.mp t).1
  have e:((p.set P g).set R j)[R]?=J j:=gX (cK.mp a4).1;have a3:gR (v++[(x,y)]) x=J (.I y):=by refine U sD<|U jJ<|U a1<|U iR<|U (aK rfl) ?_;rfl
  have a0:gR (B++[(y,x)]) y=J (.I x):=by refine U sD<|U jJ<|U a2<|U iR<|U (aK rfl) ?_;rfl
  exact ls ((p.set P g).set R j) g j (by exact aL sf rfl 5106720477560832 λc=>c (u.i8 (cq t) b5) (E.i8 (cq D) b6) a5 a6 (xy (cq a8) k.kind) (wR k (cq a8) a3) (gH<|@rfl Int y) (xy (cq e) N.kind) (wR N (cq e) a0)<|gH<|@rfl Int x) ((co.set<|.head _).trans<|.set<|.tail _<|.head _) a8 e k N
 | @ay f x y v B F K _ b7=>
  intro d n p M C o S V t D u E
  cases d with
  |zero=>cases o
  |succ d=>exact kE (b7 d n p M C (jn o) S V t D u E) λq g j z e k N a9=>lr (q++[.X [.ad ac]]) g j (by exact aL sf rfl 1829591644635136 λc=>c (kN<|@rfl Int f) (sQ a7) z (cX (a:=[.ad ac]) rfl)<|Jr (d:=[ac]) (b:=aa) (l:=[.X [.ad ac]]) rfl rfl) (e.trans<|.c4 _ _ _) (cG k) (cG N) a9
 | @ak f x y c9 d0 v B b8 b9 F K a3 a0 b0 b2=>
  intro d n p M C o S V t D u E
  cases d with
  |zero=>cases o
  |succ d=>exact have o:=nM.mp<|jn o;nV (b0 d n p M C o.1 (aF a0.bb.1 S) (aF a0.bb.2 V) t D u E) λb3 a5 a6 c0 c1 c2 c3 c5 c6=>kE (b2 d n b3 a5 a6 o.2 S V c2 c3 c5 c6) λq g j z e k N a9=>lr (q++[.X [.ad ac,.ad ac]]) g j (by exact aL sf rfl 29976099861562392576 λc=>c (kN<|@rfl Int f) (pt a7) c0 z (cX (a:=[.ad ac,.ad ac]) rfl)<|Jr (d:=[ac,ac]) (b:=aa) (l:=[.X [.ad ac,.ad ac]]) rfl rfl) ((c1.trans e).trans<|.c4 _ _ _) (cG k) (cG N) a9
end
end
section
open PySem
def kl (b:aw):T×aw:=(.ak 16 (.a ((b.func (S "instantiation_error") 0).2.atom<|S "instantiation_error").1)<|.a 25,((b.func (S "instantiation_error") 0).2.atom<|S "instantiation_error").2)
def jE (t:T):V:=.av [.Z<|S "error",af t]
def D3 (a:aw) (s:List Nat):(a.atom s).2.bf.length<=a.bf.length+1/\(a.atom s).2.aW=a.aW:=aw.i6 (λ_ _=>⟨ig _,rfl⟩) λ_=>⟨bp bH,rfl⟩
def PX (a:aw) (p:Nat×Nat):(a.d1 p).2.bf=a.bf/\(a.d1 p).2.aW.length<=a.aW.length+1:=aw.ld (λ_ _=>⟨rfl,ig _⟩) λ_=>⟨rfl,bp bH⟩
def PT (c:aw) (s:List Nat) (r:Nat):(c.func s r).2.bf.length<=c.bf.length+1/\(c.func s r).2.aW.length<=c.aW.length+1:=by
 unfold aw.func
 have a:=D3 c s;have b:=PX (c.atom s).2 ((c.atom s).1,r);refine U b.1 ?_;refine⟨a.1,?_⟩;have:=b.2;have this:=a.2▸this;exact this
section
variable {w:aM} {d:List O}
def Fe (h:l[i]?=J (.X a)) (f:l[k]?=J (.X b)) (g:(hP 59 a&&hP 59 b)=ac) (e:mI a b=c):ex .Eq (.ref<|aC d i) (.ref<|aC d k) (mk w<|d++l)=J c:=by
 show(match(mk w<|d++l)[aC d i]?,(mk w<|d++l)[aC d k]?with
  |some (.X l),J (.X k)=>if hP 59 l&&hP 59 k then J<|mI l k else Y|_,_=>Y)=_
 exact U dB<|U dB<|U h<|U f<|(aK g).trans<|al J e
def NS (n:Nat) (h:d[j]?=J (.X [])) (f:w.nm.bf.length+2<ar/\w.nm.aW.length+1<ar):∃c,aD (n+3) aa 93 [.ref 2,.Z<|S "instantiation_error",.ref<|be j] (mk w d)=J (.ok<|jE (kl w.nm).1,mk (w.sN<|(kl w.nm).2)<|d++c):=by have g:=PT w.nm (S "instantiation_error") 0;have i:(w.nm.func (S "instantiation_error") 0).2.small:=⟨by exact bo<|aj [_,_,_] [] [.n 1 (.a (.a Z u2) W) G,.n 1 v2<|.a Z W,.n 1 G v2] rfl f.1 g.1,by exact bo<|aj [_,_,_] [] [.n 1 (.a (.a Z W) W) G,.n 1 v2<|.a Z W,.n 1 G v2] rfl f.2 g.2⟩;exact⟨[.X [],.X []],by exact aL FN rfl 1103384 λe=>e (ix (cq h) (l:=[]) rfl) (cX (a:=[]) rfl) (fc rfl) (sl (w:=w) n aa (S "instantiation_error") 0 ⟨by exact bo<|aj [_,_] [] [.n 1 (.a (.a Z u2) W) G,.n 1 G Z] rfl f.1,by exact bo<|aj [_,_] [] [.n 1 (.a (.a Z W) W) G,.n 1 G Z] rfl f.2⟩) (pD rfl) (eP (a:=[]) rfl) (Fe (a:=[]) (b:=[]) rfl rfl rfl rfl)<|rM (w:=w.sN (w.nm.func (S "instantiation_error") 0).2) (n+1) aa (S "instantiation_error") i⟩
def NT (n:Nat) {t:T} (h:d[j]?=J (.X [.Z s,af t])) (o:t.a0<=28) (g:w.nm.bf.length+2<ar/\w.nm.aW.length+1<ar):∃l,aD (n+3) aa 93 [.ref 2,.Z<|S "type_error",.ref<|be j] (mk w d)=J (.ok<|jE (c_ w.nm s t).1,mk (w.sN<|(c_ w.nm s t).2)<|d++l):=by
 have f:=D3 w.nm s;have p:(w.nm.atom s).2.small:=⟨by exact bo<|aj [_,_,_] [] [.n 1 (.a (.a Z u2) W) G,.n 1 v2<|.a Z W,.n 1 G v2] rfl g.1 f.1,by refine U f.2 ?_;exact bo<|aj [_,_] [] [.n 1 (.a (.a Z W) W) G,.n 1 G Z] rfl g.2⟩
 have q:(hP 59 [af<|.a (w.nm.atom s).1,af t]&&hP 59 [])=ac:=by show((gQ 59 (af _)&&(gQ 59 (af t)&&ac))&&ac)=ac;rw[qt (.a (w.nm.atom s).1) 59 (show 2*0+2<=59 by decide),qt t 59<|by exact aI<|aj [_] [] [.n 2 Z<|.k 28,.n 1 (.a (.k 59) W)<|.a (.m 2 Z) u2] rfl o];rfl
 exact⟨[.X [af<|.a (w.nm.atom s).1,af t],.X []],by exact aL FN rfl 7183937544 λe=>e (fA (cq h) (i:=0) rfl) (rM (w:=w) (n+1) aa s ⟨by exact bo<|aj [_,_] [] [.n 1 (.a (.a Z u2) W) G,.n 1 G Z] rfl g.1,by exact bo<|aj [_,_] [] [.n 1 (.a (.a Z W) W) G,.n 1 G Z] rfl g.2⟩) (fA (cq h) (i:=1) rfl) (HI t) (ix (cq h) (i:=2) rfl) (cX (a:=[af<|.a (w.nm.atom s).1,af t]) rfl) (fc (a:=[af<|.a (w.nm.atom s).1,af t]) rfl) (sl (w:=w.sN (w.nm.atom s).2) n aa (S "type_error") 2 p) (pD (r:=[af<|.a (w.nm.atom s).1,af t]) rfl) (eP (a:=[]) rfl)<|Fe (a:=[af<|.a (w.nm.atom s).1,af t]) (b:=[]) (c:=aa) rfl rfl q rfl⟩
noncomputable def ch (a:List T) (e:T):T:=a.foldr (T.ak 0) e
def S7 {n:List T} (g:l[i]?=J (.X<|n.map af)):∀(j k:List T) (c:ap) (e:T),n=k++j->c 1=J (af e)->∃a,dZ o aa 2 (gE Fu.body) (.b5 i k.length) c l=J (.ok .a1 a l)/\a 1=J (af<|j.foldl (λe x=>.ak 0 x e) e):=by
 intro j
 induction j with
 |nil=>
  intro k c e h m
  have b:=mK (f:=af) h;rw[dI]at h
  subst h
  exact ax c (hR<|ix g b) m
 |cons x j p=>
  intro k c e h m
  refine ah (p (k++[x]) (aB (aB c 2<|af x) 1<|af<|.ak 0 x e) (.ak 0 x e) (iT h) rfl) λa z q=> ?_;rw[d_]at z;exact ax a (by exact ev (fA g<|eN h) 2 λb=>(b m).trans z) q
def x2 (n:Nat) {a:List T} (f:d[j]?=J (.X<|a.map af)) (g:a.length<=ar):∃o,aD (n+1) aa 95 [.ref<|be j,af e] (mk w d)=J (.ok<|af<|ch a e,mk w<|d++[o]):=by
 have h:pG (λl=>l.reverse) (.ref<|be j) (mk w d)=J (.ok<|.ref<|aC d 0,mk w<|d++[.X<|a.reverse.map af]):=by
  unfold pG;refine U (sw<|cq f)<|U List.map_reverse ?_
  exact cX (tw.mpr<|by refine U List.length_reverse<|U (bX _) ?_;exact g)
 refine ah (S7 (o:=aD n) (l:=mk w<|d++[.X<|a.reverse.map af]) (i:=aC d 0) dB a.reverse [] (aB (aB (λ_=>Y) 1<|af e) 0<|.ref<|be j) e rfl rfl) λk z c=> ?_;have l:a.reverse.foldl (λe x=>.ak 0 x e) e=ch a e:=by refine cJ List.foldl_reverse ?_;rfl
 rw[l]at c;exact⟨.X<|a.reverse.map af,by exact aL PC rfl 26 λb=>b h z c⟩
end
end
section
open PySem
noncomputable def uR:T->Int|.v _=>0|.i _=>1|.a _=>2|_=>3
theorem G7:∀l k:List Nat,((l.map λc:Nat=>(c:Int))<(k.map λc:Nat=>(c:Int)))↔l<k|_,[]=>⟨λh=>(VS _ h).elim,λh=>(VS _ h).elim⟩|[],b::k=>⟨λ_=>VP b k,λ_=>VP _ _⟩|a::l,b::k=>Cv.trans<|(or_congr mX<|and_congr Cu<|G7 l k).trans Cv.symm
theorem AY:∀l:List Nat,hs (l.map λc:Nat=>V.I (c:Int))=J (l.map λc:Nat=>(c:Int))|[]=>rfl|a::l=>(al (hm ((a:Int)::·))<|AY l).trans rfl
def tc {t u:T} (b:t.a0<=29) (c:u.a0<=29) (h:¬t=u):ex .NotEq (af t) (af u) a=J ac:=al (hm nK)<|hY (a:=a) b c h
def B9 {t:T} (b:t.a0<=29) (h:t=u):ex .NotEq (af t) (af u) a=J aa:=al (hm nK)<|B5 (a:=a) b h
def z9 {f:Nat} {x y:T} (h:(T.ak f x y).a0<=29):x.a0<=29:=aF (mc _ y.a0)<|fn h
def EV {f:Nat} {x y:T} (h:(T.ak f x y).a0<=29):y.a0<=29:=aF (na x.a0 _)<|fn h
section
variable {w:aM} {j:List O}
def HX {d:ae}:∀(l:List Nat) (b:ap) (a:List V),a.length+l.length<=ar->fY e aa [101] [] (.bZ .f8 [.loc 101]) (.b8<|l.map λc:Nat=>V.Z [c]) b d a=J (.ok<|a++l.map λc:Nat=>V.I (c:Int),d):=by
 intro l
 induction l with
 |nil=>intro b a h;rw[VM,VM,dI];exact uu rfl|cons c l f=>
  intro b a h
  have h:(a++[V.I c]).length+l.length<=ar:=by rw[bH,iC,l_ _ l.length];exact h
  have z:=f b (a++[.I c]) h;rw[bD]at z;exact uv rfl rfl rfl rfl (dL (iE _)<|aF (bp (d_ a<|V.I c).symm)<|aF (ck _ _) h) z
def eU:List V:=[.Z<|S "v",.Z<|S "i",.Z<|S "a",.Z<|S "s"]
def GC {l:List O} {d:Nat->List V->ae->R V} (t:T) (h:l[i]?=J (.X eU)):fM d (aC j i) 4 [.Z<|S<|iQ t] (mk w<|j++l)=J (.ok<|.I<|uR t,mk w<|j++l):=by
 refine(jB (dB.trans h) (show 0<3 by decide)).trans ?_;show((lI (mk w<|j++l)<|aC j i).bind λb=>(yj b).bind λc=>if c.contains (S<|iQ t)/\b.length<=ar then ok (V.I<|c.idxOf<|S<|iQ t)<|mk w<|j++l else Y)=_;refine U (xw<|dB.trans h) ?_;show(if[S "v",S "i",S "a",S "s"].contains (S<|iQ t)/\eU.length<=ar then ok (V.I<|[S "v",S "i",S "a",S "s"].idxOf<|S<|iQ t)<|mk w<|j++l else Y)=_;have b:∀(s:String) (k:Int),[S "v",S "i",S "a",S "s"].contains (S s)=ac->(([S "v",S "i",S "a",S "s"].idxOf (S s):Nat):Int)=k->(if[S "v",S "i",S "a",S "s"].contains (S s)/\eU.length<=ar then ok (V.I<|[S "v",S "i",S "a",S "s"].idxOf<|S s)<|mk w<|j++l else Y)=J (.ok<|.I k,mk w<|j++l):=λs k h e=>U e<|aK ⟨h,by decide⟩;cases t with
 |v _=>exact b "v" 0 rfl rfl|i _=>exact b "i" 1 rfl rfl|a _=>exact b "a" 2 rfl rfl|_=>exact b "s" 3 rfl rfl
def Re {l:List O} {s a:List Nat} (h:l[i]?=J (.X<|s.map λc:Nat=>V.I c)) (b:l[k]?=J (.X<|a.map λc:Nat=>V.I c)):ex .Lt (.ref<|aC j i) (.ref<|aC j k) (mk w<|j++l)=J (bj<|s<a):=by
 show(match(mk w<|j++l)[aC j i]?,(mk w<|j++l)[aC j k]?with
  |some (.X l),J (.X k)=>match hs l,hs k with|some l,J k=>J<|bj<|l<k|_,_=>Y
  |_,_=>Y)=_
 rw[dB,dB,h,b]
 show(match hs (s.map λc:Nat=>V.I c),hs (a.map λc:Nat=>V.I c)with
   |some l,J k=>J<|bj<|l<k|_,_=>Y)=_
 rw[AY,AY];exact al J<|rW<|G7 s a
def ec (m:aw) (d:Nat) (l r:T) (b:Bool):Prop:=∀(w:aM) (H:bh) (n:Nat) (j:List O),∃a,aD (n+d+2) aa 98 [.ref 2,af l,af r] (mk (w.at m H) j)=J (.ok<|.ad b,mk (w.at m H)<|j++a)
section
variable {m:aw} {d f g:Nat} {l r x y z L Q:T} {b:Bool}
def ec.kind (b:iQ l≠iQ r):ec m d l r<|bj<|uR l<uR r:=λw H n j=>⟨[.X eU],aL lD rfl 109877 λa=>a (cX (a:=eU) rfl) (gV l _) (gV r _) (yg b) (dj (o:=.X eU) rfl rfl) (gV l _) (GC l rfl) (dj (o:=.X eU) rfl rfl) (gV r _)<|GC r rfl⟩
def ec.I (d:Nat) (x y:Int):ec m d (.i x) (.i y)<|bj<|x<y:=λw H n j=>⟨[.X eU],aL lD rfl 1 λa=>a<|cX (a:=eU) rfl⟩
def ec.fS (d x y:Nat):ec m d (.v x) (.v y) aa:=λw H n j=>⟨[.X eU],aL lD rfl 1 λa=>a<|cX (a:=eU) rfl⟩
def ec.eg {t:T} (b:iQ t="s") (c:t.a0<=29):ec m d t t aa:=λw H n j=>
 have e:go (af t) (.I 0) (mk (w.at m H)<|j++[.X eU])=J (.Z<|S "s"):=(gV t _).trans (al (λs=>J<|V.Z<|S s) b)
 ⟨[.X eU],aL lD rfl 4329749 λa=>a (cX (a:=eU) rfl) e e e e e<|B5 c<|@rfl T t⟩
def ec.atom {x y:Nat} {b f:List Nat} (k:m.bf[x]?=J b) (l:m.bf[y]?=J f) (g:b.length<=1000) (i:f.length<=1000):ec m d (.a x) (.a y)<|bj<|b<f:=λw H n j=>
 have a:∀{b:List Nat},b.length<=1000->ma (b.map λc:Nat=>V.I c).length ar=ac:=λh=>tw.mpr (U (bX _)<|aF h<|by decide);have o:∀{b:List Nat},b.length<=1000->([]:List V).length+b.length<=ar:=λh=>U (eb _) (aF h<|by decide)
 ⟨[.X eU,.X<|b.map λc:Nat=>V.I c,.X<|f.map λc:Nat=>V.I c],aL lD rfl 3899129857 λe=>e (cX (a:=eU) rfl) (ta (w:=w.at m H) _ aa _ _ k) (HX b _ _<|o g) (eP<|a g) (ta (w:=w.at m H) _ aa _ _ l) (HX f _ _<|o i) (eP<|a i)<|Re (s:=b) (a:=f) rfl rfl⟩
def ec.s4 (b:(T.ay f x).a0<=29) (c:(T.ak g y z).a0<=29):ec m d (.ay f x) (.ak g y z) ac:=λw H n j=>⟨[.X eU],aL lD rfl 4194305 λa=>a (cX (a:=eU) rfl)<|hY b c λq=>T.noConfusion q⟩
def ec.s5 (b:(T.ay f x).a0<=29) (c:(T.ak g y z).a0<=29):ec m d (.ak g y z) (.ay f x) aa:=λw H n j=>⟨[.X eU],aL lD rfl 4194305 λa=>a (cX (a:=eU) rfl)<|hY c b λq=>T.noConfusion q⟩
def ec.a1 (h:ec m d l r b) (w:aM) (H:bh) (n:Nat) (j:List O) {c:R V} (k:∀a,aD (n+d+2) aa 98 [.ref 2,af l,af r] (mk (w.at m H)<|j++[.X eU])=J (.ok<|.ad b,mk (w.at m H)<|j++ .X eU::a)->c=J (.ok<|.ad b,mk (w.at m H)<|j++ .X eU::a)):
  ∃a,c=J (.ok<|.ad b,mk (w.at m H)<|j++a):=bw (h w H n<|j++[.X eU]) λa z=>⟨.X eU::a,k a<|iw z⟩
section
variable {p A:Nat×Nat}
def ec.s6 (h:f≠g) (k:(T.ay f x).a0<=29) (l:(T.ay g y).a0<=29) (o:m.aW[f]?=J p) (q:m.aW[g]?=J A) (i:ec m d (.a p.1) (.a A.1) b):ec m (d+1) (.ay f x) (.ay g y) b:=λw H n j=>i.a1 w H n j λr z=>aL lD rfl 853358466301953 λc=>c (cX (a:=eU) rfl) (hY k l<|λe=>h (T.ay.inj e).1) (jz<|λe=>h<|eW e) (sF (w:=w.at m H) _ aa _ _ o) (sF (w:=w.at m H) _ aa _ _ q) z
def ec.s7 (h:f≠g) (k:(T.ak f x L).a0<=29) (l:(T.ak g y Q).a0<=29) (o:m.aW[f]?=J p) (q:m.aW[g]?=J A) (i:ec m d (.a p.1) (.a A.1) b):ec m (d+1) (.ak f x L) (.ak g y Q) b:=λw H n j=>i.a1 w H n j λr z=>aL lD rfl 853358466301953 λc=>c (cX (a:=eU) rfl) (hY k l<|λe=>h (T.ak.inj e).1) (jz<|λe=>h<|eW e) (sF (w:=w.at m H) _ aa _ _ o) (sF (w:=w.at m H) _ aa _ _ q) z
end
def ec.s8 (c:x≠y) (g:(T.ay f x).a0<=29) (h:(T.ay f y).a0<=29) (i:ec m d x y b):ec m (d+1) (.ay f x) (.ay f y) b:=λw H n j=>i.a1 w H n j λk z=>aL lD rfl 9227877972948549633 λa=>a (cX (a:=eU) rfl) (hY g h<|λe=>c (T.ay.inj e).2) (kN<|@rfl Int f) (sQ aa) (tc (fn g) (fn h) c) z
def ec.s9 (c:x≠y) (g:(T.ak f x L).a0<=29) (h:(T.ak f y Q).a0<=29) (i:ec m d x y b):ec m (d+1) (.ak f x L) (.ak f y Q) b:=λw H n j=>i.a1 w H n j λk z=>aL lD rfl 9227877972948549633 λa=>a (cX (a:=eU) rfl) (hY g h<|λe=>c (T.ak.inj e).2.1) (kN<|@rfl Int f) (pt aa) (tc (z9 g) (z9 h) c) z
def ec.tk (c:L≠Q) (g:(T.ak f x L).a0<=29) (h:(T.ak f x Q).a0<=29) (i:ec m d L Q b):ec m (d+1) (.ak f x L) (.ak f x Q) b:=λw H n j=>i.a1 w H n j λk z=>aL lD rfl 18898693809451529404417 λa=>a (cX (a:=eU) rfl) (hY g h<|λe=>c (T.ak.inj e).2.2) (kN<|@rfl Int f) (pt aa) (B9 (z9 g)<|@rfl T x) (tc (EV g) (EV h) c) z
end
end
end
section
open PySem
noncomputable def iP:Bool->T->T|true,.ak _ x _=>x|_,t=>t
noncomputable def lO (p:T->Bool) (l:List T):Nat->Nat|0=>0|k+1=>if p (l.getD k cQ)then lO p l k else k+1
def Sw (p:T->Bool) (l:List T) (k:Nat):lO p l k<=k:=by
 induction k with
 |zero=>exact bE _|succ k d=>have e:lO p l (k+1)=if p (l.getD k cQ)then lO p l k else k+1:=rfl;rw[e];split<;>omega
def kV (d:T->T->Bool) (l:List T) (x:T):List T:=l.take (lO (d x) l l.length)++x::l.drop (lO (d x) l l.length)
def eH (d:T->T->Bool) (e:List T):List T:=e.foldl (kV d) []
def Gj (d:T->T->Bool) (l:List T) (x:T):(kV d l x).length=l.length+1:=by
 unfold kV
 rw[bH,vO,gY,Ki];exact Gk _ _
section
variable {w:aM} {b:List O}
def ww (c:Bool) (t:T):Prop:=c=ac->∃f x y,t=.ak f x y
def tI (f:aw) (d:Nat) (c:Bool) (g:T->T->Bool) (e:List T):Prop:=∀x∈e,∀y∈e,ec f d (iP c x) (iP c y)<|g x y
def nh (b:List O) (c:Bool) (m:T) (k:Nat) (a:ap):Prop:=(a 0,a 2,a 3,a 4,a 5)=(J<|.ref 2,J<|.ad c,J<|.ref<|aC b 0,J<|af m,J<|.I k)
section
variable {c:Bool} {m:T} {k:Nat} {a:ap} (L:nh b c m k a)
include L
def nh.bl:a 0=J (.ref 2):=al (·.1) L
def nh.cw:a 2=J (.ad c):=al (·.2.1) L
def nh.cv:a 3=J (.ref<|aC b 0):=al (·.2.2.1) L
def nh.ce:a 4=J (af m):=al (·.2.2.2.1) L
def nh.bA:a 5=J (.I k):=al (·.2.2.2.2) L
def nh.set (i:Nat):nh b c m i<|aB a 5<|.I i:=al (λz:Option V×Option V×Option V×Option V×Option V=>(z.1,z.2.1,z.2.2.1,z.2.2.2.1,J<|V.I i)) L
end
def yr {k:Nat} (h:l[i]?=J (.X d)) (e:d[k]?=J v):go (.ref<|aC b i) (.I<|((k+1:Nat):Int)-1) (mk w<|b++l)=J v:=am ((ow (k:Int) 1).symm)<|ot h e
def DL (w:aM) (b:List O) (c:Bool) (m:T) (d:List T) (k:Nat) (z:cx):Prop:=∃a e,z=J (.ok .a1 a<|mk w<|b++(.X (d.map af)::e))/\nh b c m k a
def Su (n d:Nat) {c:Bool} (H:tI w.nm d c q r) (A:∀t∈r,ww c t) {m:T} (C:m∈r) {j:List T} (K:∀t∈j,t∈r):∀(k:Nat) (o:List O) (a:ap),k<=j.length->nh b c m k a->
  DL w b c m j (lO (q m) j k) (eD (aD<|n+d+2) aa (jj<|gE wY.body) (jT<|gE wY.body) a<|mk w<|b++(.X (j.map af)::o)):=by
 intro k
 induction k with
 |zero=>exactλo a p L=>⟨a,o,ci 2 λh=>h L.bA,L⟩|succ k M=>
  intro o a p L
  obtain⟨y,D⟩:∃y,j[k]?=J y:=⟨_,fd p⟩;have N:j.getD k cQ=y:=U iB<|U D rfl;have E:y∈r:=K _<|em D;refine bw ((H m C y E) w w.H n<|b++(.X (j.map af)::o)) λs z=> ?_;have z:=iw z;have B:=jG (f:=af) D;show DL w b c m j (if q m (j.getD k cQ)then lO (q m) j k else k+1) _;refine U N ?_;cases v:q m y with
  |false=>
   rw[v]at z;refine⟨a,o++s,?_,L⟩;cases c with
   |false=>exact ci 28090 λh=>h L.bA (cz<|vd k) L.bl L.cw L.ce L.cw L.cv L.bA (yr rfl B) z|true=>
    refine oL (A _ C rfl) λl x P e=>oL (A _ E rfl) λg u Q F=> ?_
    subst e;subst F
    exact ci 308410 λh=>h L.bA (cz<|vd k) L.bl L.cw L.ce L.cw L.cv L.bA (yr rfl B) z
  |true=>
   rw[v]at z;have i:=M (o++s) (aB a 5<|.I<|((k+1:Nat):Int)-1) (fn p)<|U (ow (k:Int) 1)<|L.set k;cases c with
   |false=>exact dC (ci 93626 λh=>h L.bA (cz<|vd k) L.bl L.cw L.ce L.cw L.cv L.bA (yr rfl B) z L.bA) i|true=>
    refine oL (A _ C rfl) λl x P e=>oL (A _ E rfl) λg u Q F=> ?_
    subst e;subst F
    exact dC (ci 1356986 λh=>h L.bA (cz<|vd k) L.bl L.cw L.ce L.cw L.cv L.bA (yr rfl B) z L.bA) i
def UA {l:List O} {k:Nat} {d:List V} (h:l[i]?=J (.X d)) (g:k<=d.length) (j:d.length<ar):fM f (aC b i) 2 [.I k,v] (mk w<|b++l)=J (.ok .a6,mk w<|b++l.set i (.X<|d.take k++v::d.drop k)):=by refine cJ (jB (dB.trans h)<|by simp[dm]) ?_;show((lI (mk w<|b++l)<|aC b i).bind λe=>if(0:Int)<=k/\(k:Int)<=e.length/\e.length<ar then ok V.a6<|(mk w<|b++l).set (aC b i)<|.X<|e.take (k:Int).toNat++v::e.drop (k:Int).toNat else Y)=_;exact(U (xw<|dB.trans h)<|(aK<|bB (lf k) (jV.mpr g) j).trans<|by refine U (h_ _) ?_;rfl)
def Gl (h:t∈kV d l x):t=x\/t∈l:=by
 refine gf (fB.mp h) (λh=> ?_)<|λh=> ?_
 ·exact .inr<|List.mem_of_mem_take h
 ·exact(bY.mp h).imp id VO
def LD (w:aM) (b:List O) (l:List T) (z:cx):Prop:=∃a d,z=J (.ok .a1 a<|mk w<|b++(.X (l.map af)::d))/\a 3=J (.ref<|aC b 0)
def Sa (n d:Nat) {c:Bool} {q:List T} (C:b[j]?=J (.X<|q.map af)) (E:tI w.nm d c p q) (F:∀t∈q,ww c t) (H:q.length<=1000):∀(s l g:List T) (u:List O) (a:ap),q=l++s->(∀t∈g,t∈q)->g.length=l.length->(a 0,a 2,a 3)=(J<|V.ref 2,J<|V.ad c,J<|V.ref<|aC b 0)->
  LD w b (s.foldl (kV p) g) (dZ (aD<|n+d+2) aa 4 (gE wY.body) (.b5 (be j) l.length) a<|mk w<|b++(.X (g.map af)::u)):=by
 intro s
 induction s with
 |nil=>exactλl g u a r v o L=>⟨a,u,hR<|ix (f_ C)<|mK (f:=af) r,al (·.2.2) L⟩|cons x s K=>
  intro l g u a r v o L
  have D:=nC r;have M:a 3=_:=al (·.2.2) L;refine bS (Su (w:=w) (b:=b) n d E F D v g.length u (aB (aB a 4<|af x) 5<|.I g.length) (bE _)<|al (λz:Option V×Option V×Option V=>(z.1,z.2.1,z.2.2,J<|af x,J<|V.I g.length)) L) λA B y L=> ?_;have e:(g.map af).take (lO (p x) g g.length)++af x::(g.map af).drop (lO (p x) g g.length)=(kV p g x).map af:=U g_<|U jW<|U List.map_take<|U List.map_drop rfl;have N:(g.map af).length=l.length:=(bX _).trans o;have i:=K (l++[x]) (kV p g x) B A (iT r) (λt h=>(Gl h).elim (λe=>U e D)<|v t) (U (Gj _ _ _)<|U o<|U (d_ _ _) rfl)<|al (λz:Option V×Option V×Option V×Option V×Option V=>(z.1,z.2.1,z.2.2.1)) L;rw[d_, <-e]at i;exact dC (ev (fA (f_ C)<|eN r) 255 λh=>h M ((fc rfl).trans<|al (λk:Nat=>J (mW<|V.I k,_))<|bX _) y L.cv (dj rfl rfl) L.bA L.ce<|UA rfl (U (bX _)<|Sw _ _ _)<|dK (bp N)<|iF (qH r H)<|by decide) i
def HZ (n d:Nat) {c:Bool} {f:List T} (i:b[j]?=J (.X<|f.map af)) (k:tI w.nm d c h f) (o:∀t∈f,ww c t) (p:f.length<=1000):∃q,aD (n+d+3) aa 99 [.ref 2,.ref<|be j,.ad c] (mk w b)=J (.ok<|.ref<|aC b 0,mk w<|b++(.X ((eH h f).map af)::q)):=bS (Sa (w:=w) (b:=b) n d i k o p f [] [] [] (aB (aB (aB (aB (λ_=>Y) 2<|.ad c) 1<|.ref<|be j) 0<|.ref 2) 3<|.ref<|aC b 0) rfl (λt=>eG (l:=[])) rfl rfl) λr g z s=>⟨g,aL PD rfl 25 λe=>e (cX (a:=[]) rfl) z s⟩
end
end
section
open PySem
class inductive no:T->List T->T->Prop
 |dG {t:T}:(∀x y,t≠.ak 0 x y)->(∀x,t≠.ay 0 x)->no t [] t|cT {x y t:T} {es:List T}:no y es t->no (.ak 0 x y) (x::es) t
noncomputable def jH:T->Bool|.ak f _ _=>bj<|f=13|_=>aa
def il:List T->Option (Option T)|[]=>Y|.v _::_=>J Y|t::r=>if jH t then il r else J<|J t
def je:List T->Option T|[]=>Y|.v _::r=>je r|t::r=>if jH t then je r else J t
noncomputable def fL (p:T):List T->List T|[]=>[]|y::r=>if y≠p then y::fL y r else fL y r
def mF:List T->List T|[]=>[]|x::r=>x::fL x r
section
variable {w:aM} {d:List O}
def uC:List cA:=match wW.body.drop 6 with|.aQ _ a _::_=>a|_=>[]
structure rm (d:List O) (j:Nat) (e asked:T) (kind:Int) (ρ:ap):Prop where
 bl:ρ 0=J (.ref 2)
 dz:ρ 1=J (.ref<|be j)
 cw:ρ 2=J (af e)
 cv:ρ 3=J (af asked)
 ce:ρ 4=J (.I kind)
 bA:ρ 5=J (.ref<|aC d 0)
def jd (w:aM):Prop:=w.nm.bf.length+2<ar/\w.nm.aW.length+1<ar
def Gn (n:Nat) (w:aM) (d:List O) (b:jd w):∃a,aD (n+3) aa 93 [.ref 2,.Z<|S "instantiation_error",.ref<|aC d 0] (mk w<|d++[.X []])=J (.ok<|jE (kl w.nm).1,mk (w.sN<|(kl w.nm).2)<|d++a):=by refine bw (NS (w:=w) (d:=d++[.X []]) n (j:=d.length) dJ b) λa z=> ?_;rw[bD]at z;exact⟨.X []::a,by refine U (oq _ _) ?_;exact z⟩
def yz (n:Nat) (w:aM) (d:List O) {a:T} (e:a.a0<=28) (f:jd w):∃c,aD (n+3) aa 93 [.ref 2,.Z<|S "type_error",.ref<|aC d 0] (mk w<|d++[.X [.Z b,af a]])=J (.ok<|jE (c_ w.nm b a).1,mk (w.sN<|(c_ w.nm b a).2)<|d++c):=by refine bw (NT (w:=w) (d:=d++[.X [.Z b,af a]]) n (j:=d.length) (s:=b) (t:=a) dJ e f) λc z=> ?_;rw[bD]at z;exact⟨.X [.Z b,af a]::c,by refine U (oq _ _) ?_;exact z⟩
def U3 {o:List T} (h:no t o r):∀(l:List T) (p:ap),rm d j e g m p->p 6=J (af t)->l.length+o.length<=1000->
  ∃k,eD (aD n) aa (jj wW.body) (jT wW.body) p (mk w<|d++[.X<|l.map af])=J (.ok .a1 k<|mk w<|d++[.X<|(l++o).map af])/\rm d j e g m k/\k 6=J (af r):=by
 induction h with
 | @dG t s u=>
  intro l p L c q
  refine cM p (?_) L c;refine U (dI _) ?_;cases t with
  |ay f x=>exact ci 162 λb=>b c c (dt<|λe:(f:Int)=0=>u x<|by exact U (eW e) rfl)|ak f x y=>exact ci 162 λb=>b c c (dt<|λe:(f:Int)=0=>s x y<|by exact U (eW e) rfl)|v _=>exact ci 2 λb=>b c|i _=>exact ci 2 λb=>b c|a _=>exact ci 2 λb=>b c
 | @cT x y t o _ f=>
  intro l p L c q
  have e:l++x::o=l++[x]++o:=(bD l [x] o).symm;have s:(l.map af).length<ar:=by refine U (bX _) ?_;exact dL (li<|hF _) (aF q<|by decide)
  refine ah (f (l++[x]) (aB p 6<|af y) ⟨L.bl,L.dz,L.cw,L.cv,L.ce,L.bA⟩ rfl<|by refine U (d_ _ _)<|U (jo _ _) ?_;exact q) λk z u=> ?_;rw[<-e,g_]at z;refine ax k (?_) u;rw[g_]at z ⊢;exact ci 52770 λb=>(b c c L.bA (dj rfl rfl) c (vt rfl s) c).trans z
def sH (t:T):Prop:=∀x,t≠.ay 13 x
def xK (h:f≠13):jH (.ak f x y)=aa:=decide_eq_false h
theorem Ex:il (.ak f x y::r)=if jH (.ak f x y)then il r else J<|J<|.ak f x y:=rfl
theorem Na:je (.ak f x y::r)=if jH (.ak f x y)then je r else J<|.ak f x y:=rfl
def Dm (w:aM) (d:List O) (o:Option<|T×aw) (L:ap->Prop) (R:cx):Prop:=match o with|none=>∃a,R=J (.ok .a1 a<|mk w d)/\L a|some p=>∃a b,R=J (.ok (.aO<|jE p.1) a<|mk (w.sN p.2)<|d++b)
def xp (a:aw):Option T->T×aw|none=>kl a|some t=>c_ a (S "pair") t
def qo (a:aw) (b:List T):Option<|T×aw:=(il b).map<|xp a
def qp (a:aw) (b:List T):Option<|T×aw:=(je b).map λt=>c_ a (S "pair") t
def xI {f:Nat} (h:f≠13):¬(f:Int)=13:=λe=>h<|eW e
def M9 (n:Nat) {q:List O} {j:Nat} {c:T} {g:Int} {u:List T} (C:d[j]?=J (.X<|u.map af)) (E:∀t∈u,t.a0<=28/\sH t) (D:jd w):∀(k l:List T) (h:ap),u=l++k->rm q j (.a 0) c g h->
  Dm w d (qo w.nm k) (rm q j (.a 0) c g) (dZ (aD<|n+3) aa 7 (gE uC) (.b5 (be j) l.length) h<|mk w d):=by
 intro k
 induction k with
 |nil=>
  intro l h r L
  exact ax h (hR<|ix (cq C)<|mK r) L
 |cons t k F=>
  intro l h r L
  refine bx (E t<|nC r) λA B=> ?_;have m:=fA (cq (w:=w) C)<|eN r;obtain⟨o,z⟩:=yz n w d (b:=S "pair") A D;cases t with
  |v x=>obtain⟨o,z⟩:=Gn n w d D;exact dn _ o (by exact ev m 112 λb=>b L.bl (cX (a:=[]) rfl) z)
  |i x=>exact dn _ o (by exact ev m 13312 λb=>b L.bl (cX (a:=[.Z<|S "pair",af<|.i x]) rfl) z)|a x=>exact dn _ o (by exact ev m 13312 λb=>b L.bl (cX (a:=[.Z<|S "pair",af<|.a x]) rfl) z)|ay f x=>have p:f≠13:=λe=>B x (by exact U e rfl);exact dn _ o (by exact ev m 110592 λb=>b (jz<|xI p) L.bl (cX (a:=[.Z<|S "pair",af<|.ay f x]) rfl) z)
  |ak f x y=>
   refine aZ (f=13) (λp=> ?_)<|λp=> ?_
   ·subst p
    have y:=F (l++[.ak 13 x y]) (aB h 7<|af<|.ak 13 x y) (iT r) ⟨L.bl,L.dz,L.cw,L.cv,L.ce,L.bA⟩;rw[d_]at y;refine U (show dZ (aD<|n+3) aa 7 (gE uC) (.b5 (be j) l.length) h (mk w d)=_ from by exact ev m 0 λb=>(b).trans rfl) ?_;exact y
   ·exact have e:qo w.nm (.ak f x y::k)=J (c_ w.nm (S "pair")<|.ak f x y):=(by unfold qo;exact U Ex<|U (xK p) rfl);(U e<|dn _ o<|by exact ev m 110592 λb=>b (jz<|xI p) L.bl (cX (a:=[.Z<|S "pair",af<|.ak f x y]) rfl) z)
def M_ (n:Nat) {q:List O} {j u:Nat} {c:T} {g:Int} {B:List T} (E:(mk w d)[u]?=J (.X<|B.map af)) (F:∀t∈B,t.a0<=28/\sH t) (H:jd w):∀(m k:List T) (h:ap),B=k++m->rm q j (.a 0) c g h->
  Dm w d (qp w.nm m) (rm q j (.a 0) c g) (dZ (aD<|n+3) aa 7 (gE<|uC.drop 1) (.b5 u k.length) h<|mk w d):=by
 intro m
 induction m with
 |nil=>
  intro k h r L
  exact ax h (hR<|ix E<|mK r) L
 |cons t m I=>
  intro k h r L
  refine bx (F t<|nC r) λC D=> ?_;have o:=fA E<|eN r;obtain⟨A,z⟩:=yz n w d (b:=S "pair") C H;have l:=I (k++[t]) (aB h 7<|af t) (iT r) ⟨L.bl,L.dz,L.cw,L.cv,L.ce,L.bA⟩;rw[d_]at l;cases t with
  |v x=>exact U (show dZ (aD<|n+3) aa 7 (gE<|uC.drop 1) (.b5 u k.length) h (mk w d)=_ from by exact ev o 0 λb=>(b).trans rfl) l
  |i x=>exact dn _ A (by exact ev o 26624 λb=>b L.bl (cX (a:=[.Z<|S "pair",af<|.i x]) rfl) z)|a x=>exact dn _ A (by exact ev o 26624 λb=>b L.bl (cX (a:=[.Z<|S "pair",af<|.a x]) rfl) z)|ay f x=>have p:f≠13:=λe=>D x (by exact U e rfl);exact dn _ A (by exact ev o 221184 λb=>b (jz<|xI p) L.bl (cX (a:=[.Z<|S "pair",af<|.ay f x]) rfl) z)
  |ak f x y=>
   refine aZ (f=13) (λp=> ?_)<|λp=> ?_
   ·subst p
    refine U (show dZ (aD<|n+3) aa 7 (gE<|uC.drop 1) (.b5 u k.length) h (mk w d)=_ from by exact ev o 0 λb=>(b).trans rfl) ?_;exact l
   ·exact have e:qp w.nm (.ak f x y::m)=J (c_ w.nm (S "pair")<|.ak f x y):=(by unfold qp;exact U Na<|U (xK p) rfl);(U e<|dn _ A<|by exact ev o 221184 λb=>b (jz<|xI p) L.bl (cX (a:=[.Z<|S "pair",af<|.ak f x y]) rfl) z)
noncomputable def ux:a_:=.or (.au .Eq (.loc 101)<|.W<|.I 0)<|.au .NotEq (.ao (.loc 8)<|.loc 101)<|.ao (.loc 8)<|.cH .Sub (.loc 101)<|.W<|.I 1
noncomputable def wP:a_:=.ao (.loc 8)<|.loc 101
def Nv {s:List T} (g:j[r]?=J (.X<|s.map af)) (x:∀t∈s,t.a0<=29):∀(k f:List T) (p:T) (l:ap) (b:List T),s=f++p::k->l 8=J (.ref r)->b.length+k.length<=1000->
  fY o aa [101] [ux] wP (.b8<|(kx (f.length+1) k.length).map cc) l j (b.map af)=J (.ok<|(b++fL p k).map af,j):=by
 intro k
 induction k with
 |nil=>intro f p l b u n v;refine U (show fL p []=[]from rfl)<|U (dI _) ?_;exact uu rfl|cons y k A=>
  intro f p l b u n v
  have m:=iT u;have w:go (.ref r) (cc<|f.length+1) j=J (af y):=iq g<|(al (λi=>(s.map af)[i]?) (d_ f p).symm).trans<|eN m;have i:go (.ref r) (.I<|((f.length+1:Nat):Int)-1) j=J (af p):=am ((ow (f.length:Int) 1).symm)<|iq g<|eN u;have D:¬((f.length+1:Nat):Int)=0:=λe=>CO _<|eW e;have B:=x y<|nC m;have C:=x p<|nC u;have e:aU o aa wP (aB l 101<|cc<|f.length+1) j=J (.ok<|af y,j):=by exact iV 5 λa=>a n w
  refine aZ (y=p) (λq=> ?_)<|λq=> ?_
  ·have z:=A (f++[p]) y l b m n<|fn v;rw[d_]at z;exact have c:aU o aa ux (aB l 101<|cc<|f.length+1) j=J (.ok<|.ad aa,j):=(by exact iV 3280 λa=>a n w n i<|B9 B q);(U (show fL p (y::k)=fL y k from aX<|λh=>h q)<|EH rfl rfl c z)
  ·have z:=A (f++[p]) y l (b++[y]) m n (by refine U (d_ _ _)<|U (jo _ _) ?_;exact v);rw[d_,g_,bD]at z;exact have c:aU o aa ux (aB l 101<|cc<|f.length+1) j=J (.ok<|.ad ac,j):=(by exact iV 3280 λa=>a n w n i<|tc B C q);(U (show fL p (y::k)=y::fL y k from aK q)<|uv rfl rfl c e (by refine U (bX _) ?_;exact dL (li<|hF _)<|aF v<|by decide) z)
def Nu {h:List T} (g:f[l]?=J (.X<|h.map af)) (m:j 8=J (.ref l)) (n:∀t∈h,t.a0<=29) (o:h.length<=1000):fY k aa [101] [ux] wP (.b8<|(ic h.length).map λa=>.I (a:Nat)) (gK j) f []=J (.ok<|(mF h).map af,f):=by
 cases h with
 |nil=>exact uu rfl|cons x r=>exact U Kp<|U gY<|U Ko<|U jW (have p:go (.ref l) (.I 0) f=J (af x):=iq (i:=0) g rfl;have c:aU k aa ux (aB (gK j) 101<|.I 0) f=J (.ok<|.ad ac,f):=(by exact iV 0 id);have e:aU k aa wP (aB (gK j) 101<|.I 0) f=J (.ok<|af x,f):=(by exact iV 5 λb=>b m p);uv rfl rfl c e (by decide) (Nv (o:=k) g n r [] x (gK j) [x] rfl m<|by refine U (l_ _ _) ?_;exact o))
end
def kT (a:Int) (b:T->T->Bool) (c:List T):List T:=if a=0 then mF<|eH b c else eH b c
def HV {i:List T}:(∀t∈eH g i,t∈i)/\(eH g i).length=i.length:=by
 have:∀(f c:List T),(∀t∈f.foldl (kV g) c,t∈c\/t∈f)/\(f.foldl (kV g) c).length=c.length+f.length:=by
  intro f
  induction f with
  |nil=>intro c;exact⟨λt h=>.inl h,rfl⟩|cons x f j=>
   intro c
   refine bx (j<|kV g c x) λa b=> ?_;refine⟨λt h=>(a t h).elim (λq=>(Gl q).elim (λe=>.inr<|U e<|.head _) .inl) λq=>.inr<|.tail _ q,?_⟩;refine U Ke<|U b<|U (Gj _ _ _)<|U gY<|U (jo _ _) ?_;rfl
 exact bx (this i []) λa b=>⟨λt h=>(a t h).resolve_left (λh=>by cases h),b.trans<|eb _⟩
def EP (a:List T):(mF a).length<=a.length:=by
 have b:∀(r:List T) (p:T),(fL p r).length<=r.length:=λr=>by
  induction r with
  |nil=>exactλ_=>bE _|cons y r c=>
   intro p
   refine aZ (y=p) (λq=> ?_)<|λq=> ?_
   ·exact U (show fL p (y::r)=fL y r from aX<|λh=>h q)<|lh<|c y
   ·exact U (show fL p (y::r)=y::fL y r from aK q)<|dv<|c y
 cases a with
 |nil=>exact bE _|cons x r=>exact dv<|b r x
end
section
open PySem
set_option genCtorIdx true in
inductive jt where
 |a4 (e:T) (nm:aw)|e3 (row:T)
noncomputable def jC (p:T×aw):jt:=.a4 p.1 p.2
def mH (g:aw) (i:T->T->Bool) (h d:List T) (e f j:T) (b:Int):jt:=
 if e.a9 then jC<|kl g else if e≠.a 0 then jC (c_ g (S "list")<|ch h e)
 else if j.a9=aa/\j≠.a 0 then jC (c_ g (S "list") f)
 else if b=2 then(match il h with
  |some Y=>jC<|kl g|some (J t)=>jC<|c_ g (S "pair") t|none=>match je d with|some t=>jC<|c_ g (S "pair") t|none=>.e3<|ch (kT b i h)<|.a 0)
 else .e3<|ch (kT b i h)<|.a 0
section
variable {w:aM} {c:List O}
theorem z0:∀{ts:List T},il ts=Y->∀t∈ts,jH t=ac
 |[],_,t,h=>by cases h
 |.v _::r,e,t,h=>by exact lN e|.i _::r,e,t,h=>by exact lN e|.a _::r,e,t,h=>by exact lN e|.ay _ _::r,e,t,h=>by exact lN e|.ak f x y::r,e,t,h=>by
  refine aZ (f=13) (λb=> ?_)<|λb=> ?_
  ·subst b
   exact(bY.mp h).elim (λq=>by refine U q ?_;rfl)<|z0 (ts:=r) e t
  ·rw[Ex,xK b]at e;exact lN e
def wT {i:aw} {l:T->T->Bool} {h b:List T} {e g f:T} {d:Int} {C:jt->Prop} (p:e.a9=ac->C (jC<|kl i)) (r:e.a9=aa->e≠.a 0->C (jC<|c_ i (S "list")<|ch h e)) (s:e=.a 0->f.a9=aa->f≠.a 0->C (jC<|c_ i (S "list") g))
  (m:e=.a 0->(f.a9=ac\/f=.a 0)->d=2->∀o,il h=J o->C (jC<|xp i o)) (u:e=.a 0->(f.a9=ac\/f=.a 0)->d=2->il h=Y->∀t,je b=J t->C (jC<|c_ i (S "pair") t))
  (n:e=.a 0->(f.a9=ac\/f=.a 0)->(d=2->il h=Y/\je b=Y)->C (.e3<|ch (kT d l h)<|.a 0)):C<|mH i l h b e g f d:=by
 delta mH
 refine aZ (e.a9=ac) (λv=>U (aK v)<|p v) λv=>U (aX v) ?_;refine aZ (e=.a 0) (λq=>U (aX<|not_not_intro q) ?_) λq=>U (aK q)<|r (ov.mpr v) q;refine aZ (f.a9=aa/\f≠.a 0) (λt=>U (aK t)<|s q t.1 t.2) λt=>U (aX t) ?_;have j:f.a9=ac\/f=.a 0:=aZ (f=.a 0) .inr λz=>.inl<|Bool.of_not_eq_false λy=>t ⟨y,z⟩;refine aZ (d=2) (λk=>U (aK k) ?_) λk=>U (aX k)<|n q j λz=>(k z).elim;cases x:il h with
 |some o=>cases o with|none=>exact m q j k Y x|some t=>exact m q j k (J t) x
 |none=>cases y:je b with|some t=>exact u q j k x t y|none=>exact n q j λ_=>⟨x,y⟩
def Sj (h:jH t=ac) (b:Bool):ww b t:=λ_=>by
 cases t with
 |ak f x y=>exact tQ f x y rfl|_=>exact cW h
def tN (w:aM) (c:List O) (a:T) (D:jt) (r:R V):Prop:=match D with|.a4 e d=>∃b,r=J (.ok<|jE e,mk (w.sN d)<|c++b)|.e3 d=>∃b q,r=J (.ok<|.av [.Z<|S "holds",.ref<|aC c q],mk w<|c++b)/\b[q]?=J (.X [.av [af a,af d]])
def BJ (n:Nat) {b:List T} (h:l[i]?=J (.X<|b.map af)) (d:b.length<=ar):∃o,aD (n+1) aa 95 [.ref<|aC c i,af a] (mk w<|c++l)=J (.ok<|af<|ch b a,mk w<|c++(l++[o])):=bw (x2 (w:=w) (d:=c++l) n (j:=c.length+i) (e:=a) ((qy rfl).trans h) d) λo z=>have z:=(bD _ _ _)▸((hB<|oq _ _)▸z);⟨o,z⟩
def wG (h:∃b,r=J (.ok<|jE e,mk (w.sN d)<|c++[x]++b)):tN w c a (.a4 e d) r:=bw h λb h=>⟨x::b,by refine U h<|U (bD _ _ _) ?_;rfl⟩
def zH {l:List O} (h:r=J (.ok<|.av [.Z<|S "holds",.ref<|aC (c++[x]) l.length],mk w<|c++[x]++(l++[.X [.av [af a,af b]]]))):tN w c a (.e3 b) r:=(cZ (x::(l++[.X [.av [af a,af b]]])) (1+l.length) (by refine U h<|U (vu _ _)<|U (bD _ _ _) ?_;rfl)<|by refine U (l_ _ _)<|U List.getElem?_cons_succ ?_;exact dJ)
def NN (k d:Nat) {r:Nat} {m p E:T} {A:Int} {q b:List T} {B:T->T->Bool} (a5:c[r]?=J (.X (q.map af))) (c0:no m b E) (Q:jd w) (a6:q.length<=1000) (c1:b.length<=1000) (c2:p.a0<=20) (c3:(ch q p).a0<=28) (c4:m.a0<=28) (b1:E.a0<=28)
  (b5:∀t∈q,t.a0<=28/\sH t) (c5:∀t∈b,t.a0<=28/\sH t) (b6:(A=2->il q=Y)->tI w.nm d (bj (A=2)) B q):tN w c m (mH w.nm B q b p m E A) (aD (k+d+6) aa 100 [.ref 2,.ref (be r),af p,af m,.I A] (mk w c)):=by
 have b7:∀{N:ae},ex .NotEq (af (.a 0)) (.av [.Z (S "a"),.I 0]) N=J aa:=λ{N}=>B9 (cr _) (@rfl T (.a 0))
 refine bx (HV (g:=B) (i:=q)) λc6 c7=> ?_
 unfold mH
 refine aZ (p.a9=ac) (λK=> ?_) (λK=> ?_)
 ·refine(U (aK K) ?_)
  cases p with
  |v g=>
   refine bw (Gn (k+d+2) w c Q) λF z=> ?_
   exact⟨F,by exact aL pb rfl 96 λf=>f (cX (a:=[]) rfl) z⟩
  |_=>exact cW K
 ·refine(U (aX K) ?_)
  have K:p.a9=aa:=ov.mpr K
  refine aZ (p=.a 0) (λR=> ?_) (λR=> ?_)
  ·refine(U (aX (not_not_intro R)) ?_)
   subst R
   refine bR (U3 (w:=w) (d:=c) (n:=k+d+5) (j:=r) (e:=.a 0) (g:=m) (m:=A) c0 [] (aB (aB (aB (aB (aB (aB (aB (λ_=>Y) 4 (.I A)) 3 (af m)) 2 (af (.a 0))) 1 (.ref (be r))) 0 (.ref 2)) 5 (.ref (aC c 0))) 6 (af m)) ⟨rfl,rfl,rfl,rfl,rfl,rfl⟩ rfl (by refine(U VI (U (eb _) ?_));exact c1)) λb2 z L V=> ?_
   have a1:E.a0<=29:=lh b1
   refine aZ (E.a9=aa/\E≠.a 0) (λO=> ?_) (λO=> ?_)
   ·refine(U (aK O) ?_)
    refine bw (yz (k+d+2) w (c++[.X (b.map af)]) (b:=S "list") c4 Q) λF y=> ?_
    refine wG (x:=.X (b.map af)) ⟨F,?_⟩
    exact aL pb rfl 4045440 λf=>f (cX (a:=[]) rfl) z V (gV E _) (yg (ny O.1)) V (tc (u:=.a 0) a1 (cr _) O.2) L.bl L.cv (cX (a:=[.Z (S "list"),af m]) rfl) y
   ·refine(U (aX O) ?_)
    have M:∀N,aU (aD (k+d+5) aa) aa (.dM (.au .NotEq (.ao (.loc 6) (.W (.I 0))) (.W (.Z (S "v")))) (.au .NotEq (.loc 6) (.av [.W (.Z (S "a")),.W (.I 0)]))) b2 N=J (.ok (.ad aa),N):=λN=>by
     refine aZ (E.a9=ac) (λh=> ?_) (λh=> ?_)
     ·have o:iQ E="v":=by cases E<;>first|rfl|exact cW h
      exact iV 14 λf=>f V (gV E _) (yf o)
     ·refine aZ (E=.a 0) (λo=> ?_) (λo=> ?_)
      ·subst o
       exact iV 34 λf=>f V V
      ·exact bt ⟨ov.mpr h,o⟩ O
    have M:=M (mk w (c++[.X (([]++b).map af)]))
    have D:(eH B q).length<=1000:=am c7.symm a6
    refine aZ (A=2) (λH=> ?_) (λH=> ?_)
    ·refine(U (aK H) ?_)
     subst H
     have a7:=M9 (w:=w) (d:=c++[.X (b.map af)]) (k+d+2) (cG a5) b5 Q q [] b2 rfl L
     cases a8:il q with
     |some o=>
      rw[show qo w.nm q=J (xp w.nm o)from by unfold qo;refine(U a8 ?_);rfl]at a7
      obtain⟨a2,F,y⟩:=a7
      have C:tN w c m (jC (xp w.nm o)) (aD (k+d+6) aa 100 [.ref 2,.ref (be r),af (.a 0),af m,.I 2] (mk w c)):=by
       refine wG (x:=.X (b.map af)) ⟨F,?_⟩
       exact aL pb rfl 169600 λf=>f (cX (a:=[]) rfl) z M L.ce L.dz y
      cases o<;>exact C
     |none=>
      rw[show qo w.nm q=Y from by unfold qo;refine(U a8 ?_);rfl]at a7
      refine ah a7 λa2 y b3=> ?_
      have a9:=M_ (w:=w) (d:=c++[.X (b.map af)]) (k+d+2) (u:=aC c 0) (B:=b) dB c5 Q b [] a2 rfl b3
      cases b8:je b with
      |some t=>
       rw[show qp w.nm b=J (c_ w.nm (S "pair") t)from by unfold qp;refine(U b8 ?_);rfl]at a9
       refine fq a9 λb4 F g=> ?_
       refine wG (x:=.X (b.map af)) ⟨F,?_⟩
       exact aL pb rfl 1480320 λf=>f (cX (a:=[]) rfl) z M L.ce L.dz y b3.bA g
      |none=>
       rw[show qp w.nm b=Y from by unfold qp;refine(U b8 ?_);rfl]at a9
       refine ah a9 λb4 g a3=> ?_
       refine bw (HZ (w:=w) (b:=c++[.X (b.map af)]) (k+2) d (cG a5) (b6 λ_=>a8) (λt h=>Sj (z0 a8 t h) _) a6) λC P=> ?_
       rw[gv k 2 d]at P
       refine bw (BJ (w:=w) (c:=c++[.X (b.map af)]) (k+d+4) (l:=.X ((eH B q).map af)::C) (i:=0) (a:=.a 0) rfl (aF D (by decide))) λo a4=> ?_
       refine zH (x:=.X (b.map af)) (l:=.X ((eH B q).map af)::C++[o]) ?_
       exact aL pb rfl 7096145536 λf=>f (cX (a:=[]) rfl) z M L.ce L.dz y b3.bA g a3.bl a3.dz a3.ce P a3.ce a3.cv a4 (eP (a:=[.av [af m,af (ch (eH B q) (.a 0))]]) rfl)
    ·refine(U (aX H) ?_)
     refine bw (HZ (w:=w) (b:=c++[.X (b.map af)]) (k+2) d (cG a5) (b6 λh=>bt h H) (λt h g=>bt (of_decide_eq_true g) H) a6) λC P=> ?_
     rw[gv k 2 d,decide_eq_false H]at P
     refine aZ (A=0) (λb0=> ?_) (λb0=> ?_)
     ·subst b0
      have g:(mk w (c++[.X (b.map af)]++(.X ((eH B q).map af)::C)))[aC (c++[.X (b.map af)]) 0]?=J (.X ((eH B q).map af)):=dB
      have len:e_ aa .bb [.ref (aC (c++[.X (b.map af)]) 0)] (mk w (c++[.X (b.map af)]++(.X ((eH B q).map af)::C)))=J (.ok (.I (eH B q).length),mk w (c++[.X (b.map af)]++(.X ((eH B q).map af)::C))):=(mD _ _ g).trans (by exact(U (bX _) rfl))
      have c8:=Nu (k:=aD (k+d+5) aa) (j:=aB b2 8 (.ref (aC (c++[.X (b.map af)]) 0))) g rfl (λt h=>lh (b5 t (c6 t h)).1) D
      have b9:=aF (EP (eH B q)) (aF D (by decide:1000<=ar))
      refine bw (BJ (w:=w) (c:=c++[.X (b.map af)]) (k+d+4) (l:=.X ((eH B q).map af)::C++[.X ((mF (eH B q)).map af)]) (a:=.a 0) dJ b9) λo a4=> ?_
      refine zH (x:=.X (b.map af)) (l:=.X ((eH B q).map af)::C++[.X ((mF (eH B q)).map af)]++[o]) ?_
      exact aL pb rfl 3743127168 λf=>f (cX (a:=[]) rfl) z M L.ce L.bl L.dz L.ce P L.ce len (xZ aa _ (aF D (by decide))) c8 (eP (a:=(mF (eH B q)).map af) (tw.mpr (by refine(U (bX _) ?_);exact b9))) L.cv a4 (eP (a:=[.av [af m,af (ch (mF (eH B q)) (.a 0))]]) rfl)
     ·refine(U (show kT A B q=eH B q from aX b0) ?_)
      refine bw (BJ (w:=w) (c:=c++[.X (b.map af)]) (k+d+4) (l:=.X ((eH B q).map af)::C) (i:=0) (a:=.a 0) rfl (aF D (by decide))) λo a4=> ?_
      refine zH (x:=.X (b.map af)) (l:=.X ((eH B q).map af)::C++[o]) ?_
      exact aL pb rfl 113227392 λf=>f (cX (a:=[]) rfl) z M L.ce (dt H) L.bl L.dz L.ce (dt H) P L.ce (dt b0) L.cv a4 (eP (a:=[.av [af m,af (ch (eH B q) (.a 0))]]) rfl)
  ·refine(U (aK R) ?_)
   refine bw (x2 (w:=w) (d:=c) (k+d+4) (e:=p) a5 (aF a6 (by decide))) λo y=> ?_
   obtain⟨F,z⟩:=yz (k+d+2) w (c++[o]) (b:=S "list") c3 Q
   exact wG (x:=o) ⟨F,by exact aL pb rfl 7206 λf=>f (gV p _) (mR (ny K)) (tc (u:=.a 0) (aF c2 (by decide)) (cr _) R) y (cX (a:=[.Z (S "list"),af (ch q p)]) rfl) z⟩
end
end
section
open PySem
structure rH (w:aM) (c1 d1 c2 d2:ag):Prop where
 LR:w.xs[1]?=J (an c1)
 DS:w.xs[2]?=J (an c2)
 E9:bu w.H c1 d1
 E_:bu w.H c2 d2
def ea (c:Nat->Nat->Int) (u:Bool) (b:List ag):List ag:=(gU c u b.length<|dV b.length).map λa=>b.getD a cQ
def fK (H:bh) (a:List ag):bh:=if a=[]then H else mE H a
noncomputable def rS (H:bh) (a:List ag):ag:=if a=[]then .a5 0 else .b0 H.length
set_option tactic.hygienic true in
def zV {H:bh} {a:List ag}:(fK H a).length=H.length+2*a.length:=by
 unfold fK
 split
 ·rename_i e;refine U e ?_;rfl
 ·exact by
   refine U lZ<|U (Bw _ _ _) ?_
   simp[sk]
class inductive tU where
 |a4 (e:T) (nm:aw)|ok (r:Bool) (H:bh)
def wA (w:aM) (d:List O) (A:tU) (r:R V):Prop:=match A with|.a4 e a=>∃l i,r=J (.error<|aC d i,mk (w.sN a)<|d++l)/\l[i]?=J (jD e)|.ok b a=>∃l,r=J (.ok<|.ad b,mk (w.sH a)<|d++l)
structure qf (w:aM) (d2:ag) (u keyed:Bool) (es:List ag) (r:Bool) (H':bh) (c:Nat->Nat->Int) (ks:List ag):Prop where
 key:wx w keyed es ks
 au:pZ w ks c
 oZ:∀x∈ea c u es,bu w.H x x
 small:w.H.length+2*(ea c u es).length<=100000
 bb:es.length<=1000
 km:es≠[]->ea c u es≠[]
 XJ:bu (fK w.H<|ea c u es) d2 d2
 lW:dE w.nm ((fK w.H<|ea c u es).length+1) (fK w.H<|ea c u es) [] [(rS w.H<|ea c u es,d2)] r H'
 U1:H'.length=(fK w.H<|ea c u es).length
section
variable {w:aM} {d:List O}
def TV (n:Nat) {R:ag} {b:List ag} {S:List ag} (M:d[g]?=J (.X<|b.map an)) (k:rH w Q R K o) (B:bu (fK w.H<|ea c a b) K o) (l:qf w o a e b r L c S):
  ∃(q:Nat) (f h p:List O) (N:ag),aD (n+10) aa 59 [.ref 9,.ref<|be g,.ad a,.ad e] (mk w d)=J (.ok<|.ref<|aC d q,mk w<|d++f)/\
   aD (n+10) aa 40 [.ref 9,.ref<|aC d q] (mk w<|d++f)=J (.ok<|an N,mk (w.sH<|fK w.H<|ea c a b)<|d++f++h)/\
   aD (n+10) aa 70 [.ref 8,.I 2] (mk (w.sH<|fK w.H<|ea c a b)<|d++f++h)=J (.ok<|an o,mk (w.sH<|fK w.H<|ea c a b)<|d++f++h)/\
   aD (n+10) aa 71 [.ref 8,an N,an o] (mk (w.sH<|fK w.H<|ea c a b)<|d++f++h)=J (.ok<|.ad r,mk (w.sH L)<|d++f++h++p):=by
 have s:small (w.H.length+1:Nat)=ac:=qQ (by have:=l.small;omega);have C:small ((fK w.H<|ea c a b).length+1:Nat)=ac:=qQ (by refine U zV ?_;have:=l.small;omega);have D:=λd=>AP (w:=w.sH<|fK w.H<|ea c a b) (b:=d) (n+7) (v:=cQ) k.DS B;have t:=l.lW;refine cps λT P=> ?_;refine aZ (b=[]) (λq=> ?_)<|λq=> ?_
 ·subst q
  have i:ea c a []=[]:=rfl;have A:fK w.H (ea c a [])=w.H:=by refine U i ?_;rfl
  have E:rS w.H (ea c a [])=.a5 0:=by refine U i ?_;rfl
  refine bw (TZ (w:=w) (d:=d) (n+1) (u:=a) (p:=e) M) λf z=> ?_;refine bw (MQ (w:=w) (b:=d++(.X []::f)) (n+6) (j:=d.length)<|by refine U (mY<|bE _)<|U (re _) ?_;rfl) λh y=> ?_;rw[A,E]at t;refine P ?_;rw[A]at D ⊢;refine bw (JP (w:=w) (f:=d++(.X []::f)++h) (n+3) s t) λp x=> ?_;exact DA 0 _ h p (.a5 0) z y (D _) x
 ·have F:0<b.length:=vN.mpr q;have m:=l.km q;have A:fK w.H (ea c a b)=mE w.H (ea c a b):=aX m;have E:rS w.H (ea c a b)=.b0 w.H.length:=aX m;refine bS (TW (w:=w) (d:=d) (n+1) (u:=a) M l.key l.bb F l.au s) λf i z H=> ?_;have H:f[i]?=J (.X<|(ea c a b).map an):=by refine cJ H ?_;refine U q_ ?_;rfl
  refine bw (MO (w:=w) (b:=d++f) (n+6) (j:=d.length+i) ((qy rfl).trans H) l.oZ l.small<|vN.mpr m) λh y=> ?_;rw[<-oq]at y;exact have t:=E▸t;bw (JP (w:=w.sH<|fK w.H<|ea c a b) (f:=d++f++h) (n+3) C t) λp x=>P<|DA i f h p _ z (by refine U A ?_;exact y) (D _) x
noncomputable def nw (H:bh):ag->Bool|.Z a=>H[a]?==J (.aA 13)|_=>aa
class inductive lp (nm:aw) (H:bh):List ag->Option (Option T)->Prop
 |b_:lp nm H [] Y|fS {a:Nat} {r:List ag}:lp nm H (.ref a::r)<|J Y|H7 {c:ag} {r:List ag} {o:Option<|Option T}:bU c≠0->nw H c=ac->lp nm H r o->lp nm H (c::r) o|ud {c:ag} {r:List ag} {u:T} {tb:List Nat}:bU c≠0->nw H c=aa->(∀a,c=.Z a->a<H.length)->bu H c c->db nm H 0 (λ_=>Y) [] [] [(aa,c)] [u] tb->lp nm H (c::r) (J<|J u)
class inductive oI (nm:aw) (H:bh):List ag->Option T->Prop
 |b_:oI nm H [] Y|jM {c:ag} {r:List ag} {o:Option T}:bU c=0\/nw H c=ac->oI nm H r o->oI nm H (c::r) o|ud {c:ag} {r:List ag} {u:T} {tb:List Nat}:bU c≠0->nw H c=aa->(∀a,c=.Z a->a<H.length)->bu H c c->db nm H 0 (λ_=>Y) [] [] [(aa,c)] [u] tb->oI nm H (c::r) (J u)
def H9 (n:Nat) (c:ag) (h:nw w.H c=aa->∀a,c=.Z a->a<w.H.length):aD (n+1) aa 62 [.ref 8,an c] (mk w d)=J (.ok<|.ad<|nw w.H c,mk w d):=by
 refine Qv n c _ ?_;cases b:nw w.H c with
 |true=>
  refine .inl ⟨rfl,?_⟩;cases c with
  |Z a=>exact ax a rfl (by simpa using(show(w.H[a]?==J (.aA 13))=ac from b))|_=>exact cW b
 |false=>
  refine .inr ⟨rfl,?_⟩;cases c with
  |Z a=>have f:=h b a rfl;refine .inr<|dD a (w.H[a]) rfl (fd f)<|λe=> ?_;have b:(w.H[a]?==J (.aA 13))=aa:=b;simp[f,e]at b
  |_=>exact .inl λa e=>by cases e
def Dt (w:aM) (d:List O) (p:T×aw) (r:cx):Prop:=∃l i a,r=J (.a4 (aC d i) a<|mk (w.sN p.2)<|d++l)/\l[i]?=J (jD p.1)
def Af {p:T×aw} (h:r=J (.a4 (aC (d++L) 0) a<|mk (w.sN p.2)<|d++L++[jD p.1])):Dt w d p r:=rr (L++[jD p.1]) L.length a (by refine U h<|U (vu _ _)<|U (bD _ _ _) ?_;rfl) dJ
def pY (w:aM) (d:List O) (o:Option<|T×aw) (b:ap) (R:cx):Prop:=match o with|none=>∃a,R=J (.ok .a1 a<|mk w d)/\a 0=b 0/\a 1=b 1/\a 2=b 2|some p=>Dt w d p R
def z1 (a:aw):Option T->T×aw|none=>instErr a|some t=>c_ a (S "pair") t
def H_ (n:Nat) (h:nw w.H c=ac):aD (n+1) aa 62 [.ref 8,an c] (mk w d)=J (.ok<|.ad ac,mk w d):=am h<|H9 n c (λq=>by have q:=cJ (hB h) q;exact hv q)
def H8 (n:Nat) (h:nw w.H c=aa) (b:∀a,c=.Z a->a<w.H.length):aD (n+1) aa 62 [.ref 8,an c] (mk w d)=J (.ok<|.ad aa,mk w d):=h▸H9 n c (λ_=>b)
def pY.cT {o:Option<|T×aw} {a:ap} {v:V} {R b:cx} (h:R=b) (c:pY w d o (aB a 3 v) b):pY w d o a R:=U h<|by cases o<;>exact c
def jd.s (h:jd w):w.nm.small:=⟨md<|md h.1,md h.2⟩
def jd.t (h:jd w):w.nm.bf.length+2<ar/\w.nm.aW.length<ar:=⟨h.1,md h.2⟩
def z2 (n:Nat) {q:List ag} (j:(mk w d)[p]?=J (.X<|q.map an)) (v:jd w) {o:Option<|Option T} (h:lp w.nm w.H z o):∀(i:List ag) (e:ap),q=i++z->e 0=J (.ref 8)->
  pY w d (o.map<|z1 w.nm) e (dZ (aD<|n+5) aa 3 (gE Az.body) (.b5 p i.length) e<|mk w d):=by
 induction h with
 |b_=>exactλi e g f=>hM e (hR<|ix j<|mK g) rfl rfl rfl| @fS a r=>
  intro i e g f
  exact Af (L:=[]) (by refine U (dI _) ?_;exact ev (fA j<|eN g) 208 λb=>b f (Go _ v.s) sO)
 | @H7 c r o k m _ a=>
  intro i e g f
  have a:=a (i++[c]) (aB e 3<|an c) (iT g) f;rw[d_]at a;refine pY.cT ?_ a;exact ev (fA j<|eN g) 86 λb=>(b (iO c) (dt k) f<|H_ _ m).trans rfl
 | @ud c r u D k m a A B=>
  intro i e g f
  refine bw (yp (w:=w) (f:=d) n A B) λl y=> ?_;refine bw (yA (w:=w) (f:=d++l) (n+1) (b:=u) (s:=S "pair") v.t) λC x=> ?_;rw[bD]at x;exact Af (L:=l++[C])<|by exact ev (fA j<|eN g) 117334 λb=>b (iO c) (dt k) f (H8 _ m a) f f y x sO
def Ez (n:Nat) {p:List ag} (i:(mk w d)[m]?=J (.X<|p.map an)) (z:jd w) {o:Option T} (h:oI w.nm w.H v o):∀(g:List ag) (b:ap),p=g++v->b 0=J (.ref 8)->
  pY w d (o.map<|c_ w.nm<|S "pair") b (dZ (aD<|n+5) aa 3 (gE<|Az.body.drop 3) (.b5 m g.length) b<|mk w d):=by
 induction h with
 |b_=>exactλg b e f=>hM b (hR<|ix i<|mK e) rfl rfl rfl| @jM c r o k _ j=>
  intro g b e f
  have j:=j (g++[c]) (aB b 3<|an c) (iT e) f;rw[d_]at j;refine pY.cT ?_ j;refine aZ (bU c=0) (λq=> ?_)<|λq=> ?_
  ·exact ev (fA i<|eN e) 20 λa=>(a (iO c)<|kN q).trans rfl
  ·exact ev (fA i<|eN e) 180 λa=>(a (iO c) (jz q) f<|H_ _<|k.resolve_left q).trans rfl
 | @ud c r u D k j q A B=>
  intro g b e f
  refine bw (yp (w:=w) (f:=d) n A B) λl y=> ?_;refine bw (yA (w:=w) (f:=d++l) (n+1) (b:=u) (s:=S "pair") z.t) λC x=> ?_;rw[bD]at x;exact Af (L:=l++[C])<|by exact ev (fA i<|eN e) 234676 λa=>a (iO c) (jz k) f (H8 _ j q) f f y x sO
end
end
section
open PySem
class inductive kc (k:Nat) (w:aM) (c2 d1 d2:ag):tU->Prop
 |fS {es:List ag} {a:Nat}:eK w.H [] d1 es (.ref a)->es.length<=ar->kc k w c2 d1 d2 (.a4 (instErr w.nm).1 (instErr w.nm).2)|Ed {es:List ag} {t:ag} {u:T} {tb:List Nat}:eK w.H [] d1 es t->es.length<=ar->bU t≠0->t≠.a5 0->db w.nm w.H 0 (λ_=>Y) [] [] [(aa,d1)] [u] tb->kc k w c2 d1 d2 (.a4 (c_ w.nm (S "list") u).1 (c_ w.nm (S "list") u).2)|Ee {es fs:List ag} {t:ag} {u:T} {tb:List Nat}:eK w.H [] d1 es (.a5 0)->es.length<=ar->eK w.H [] d2 fs t->fs.length<=ar->bU t≠0->t≠.a5 0->db w.nm w.H 0 (λ_=>Y) [] [] [(aa,d2)] [u] tb->kc k w c2 d1 d2 (.a4 (c_ w.nm (S "list") u).1 (c_ w.nm (S "list") u).2)|Ic {es fs:List ag} {t:ag}:k=65->eK w.H [] d1 es (.a5 0)->es.length<=ar->eK w.H [] d2 fs t->fs.length<=ar->bU t=0\/t=.a5 0->lp w.nm w.H es (J Y)->kc k w c2 d1 d2 (.a4 (instErr w.nm).1 (instErr w.nm).2)|Ii {es fs:List ag} {t:ag} {u:T}:k=65->eK w.H [] d1 es (.a5 0)->es.length<=ar->eK w.H [] d2 fs t->fs.length<=ar->bU t=0\/t=.a5 0->lp w.nm w.H es (J<|J u)->kc k w c2 d1 d2 (.a4 (c_ w.nm (S "pair") u).1 (c_ w.nm (S "pair") u).2)|Ih {es fs:List ag} {t:ag} {u:T}:k=65->eK w.H [] d1 es (.a5 0)->es.length<=ar->eK w.H [] d2 fs t->fs.length<=ar->bU t=0\/t=.a5 0->lp w.nm w.H es Y->oI w.nm w.H fs (J u)->kc k w c2 d1 d2 (.a4 (c_ w.nm (S "pair") u).1 (c_ w.nm (S "pair") u).2)|I5 {es fs:List ag} {t:ag} {r:Bool} {H':bh} {c:Nat->Nat->Int} {ks:List ag}:eK w.H [] d1 es (.a5 0)->es.length<=ar->eK w.H [] d2 fs t->fs.length<=ar->bU t=0\/t=.a5 0->(k=65->lp w.nm w.H es Y/\oI w.nm w.H fs Y)->bu (fK w.H<|ea c (k==63) es) c2 d2->qf w d2 (k==63) (k==65) es r H' c ks->kc k w c2 d1 d2 (.ok r H')
def bu.n9 (h:bu H c d):bu H d d:=by
 induction h with
 |dG h=>exact .dG h|eI h=>exact .eI h|cT _ _ _ a=>exact a
section
variable {w:aM} {τ:List O}
def Ah {L l:List O} {i:Nat} {r:R V} {a:aM} {t:T} (h:r=J (.error<|aC (τ++L) i,mk a<|τ++L++l)) (b:l[i]?=J (jD t)):∃l i,r=J (.error<|aC τ i,mk a<|τ++l)/\l[i]?=J (jD t):=(cZ (L++l) (L.length+i) (by exact U h<|U (vu _ _)<|U (bD _ _ _) rfl)<|by refine U (mY<|ck _ _)<|U (pK _ _) ?_;exact b)
def Bu (n:Nat) {k:Nat} {b9 Q b4 R:ag} {A:tU} (a3:k=63\/k=64\/k=65) (f:rH w b9 Q b4 R) (S:jd w) (h:kc k w b4 Q R A):wA w τ A<|aD (n+11) aa k [.ref 8]<|mk w τ:=by
 have E:aD (n+10) aa 70 [.ref 8,.I 1] (mk w τ)=J (.ok<|an Q,mk w τ):=AP (n+7) (v:=cQ) f.LR f.E9;have V:∀{τ},aD (n+10) aa 70 [.ref 8,.I 2] (mk w τ)=J (.ok<|an R,mk w τ):=λ{τ}=>AP (n+7) (v:=cQ) f.DS f.E_;have B:bu w.H Q Q:=f.E9.n9;have N:bu w.H R R:=f.E_.n9;have m:∀{e:List ag},eK w.H [] Q e (.a5 0)->e.length<=ar->∃o,aD (n+10) aa 61 [.ref 8,an Q] (mk w τ)=J (.ok<|.ref<|aC τ 0,mk w<|τ++[.X<|e.map an,o]):=λa p=>SE (w:=w) (f:=τ) (n+7) B a p
 have s:∀{g:List ag} {t:ag} {τ},eK w.H [] R g t->g.length<=ar->bU t=0\/t=.a5 0->∃o,aD (n+10) aa 60 [.ref 8,an R] (mk w τ)=J (.ok<|.ref<|aC τ 0,mk w<|τ++[.X<|g.map an,o]):=λ{_ _ τ} a p c=>Sn (w:=w) (f:=τ) (n+7) N a p c
 have a0:∀{e g:List ag} {t:ag} {x:Option T},k=65->eK w.H [] Q e (.a5 0)->e.length<=ar->eK w.H [] R g t->g.length<=ar->bU t=0\/t=.a5 0->lp w.nm w.H e (J x)->wA w τ (.a4 (z1 w.nm x).1 (z1 w.nm x).2) (aD (n+11) aa k [.ref 8]<|mk w τ):=by
  intro e g t x q C D F H K O
  subst q
  refine cps λP r=> ?_;refine bw (m C D) λo y=> ?_;refine bw (s (τ:=τ++[.X<|e.map an,o]) F H K) λM z=> ?_;refine oM (z2 (w:=w) (d:=τ++[.X<|e.map an,o]++[.X<|g.map an,M]) (n+5) (p:=aC τ 0) (q:=e) (by refine U (bD _ _ _) ?_;exact dB) S O [] (aB (aB (aB (λ_=>Y) 0<|.ref 8) 1<|.ref<|aC τ 0) 2<|.ref<|aC (τ++[.X<|e.map an,o]) 0) rfl rfl) λl i a8 x u=> ?_;rw[bD τ]at x;refine r ?_;refine Ah (L:=[.X<|e.map an,o]++[.X<|g.map an,M]) ?_ u;rw[bD τ]at z;exact aL se rfl 4888 λd=>d E y V z x
 cases h with
 | @fS e a C D=>
  refine bS (SF (w:=w) (f:=τ) (n+7) B C D S.s) λl i z r=> ?_;refine cZ l i (?_) r;rcases a3 with rfl|rfl|rfl
  ·exact aL w1 rfl 24 λd=>d E z
  ·exact aL w2 rfl 24 λd=>d E z
  ·exact aL se rfl 24 λd=>d E z
 | @Ed e t u P C D F H K=>
  refine bS (SD (w:=w) (f:=τ) (n+4) B C D F H S.t K) λl i z r=> ?_;refine cZ l i (?_) r;rcases a3 with rfl|rfl|rfl
  ·exact aL w1 rfl 24 λd=>d E z
  ·exact aL w2 rfl 24 λd=>d E z
  ·exact aL se rfl 24 λd=>d E z
 | @Ee e g t u P C D F H K O a2=>
  refine bw (m C D) λo y=> ?_;refine bS (Sm (w:=w) (f:=τ++[.X<|e.map an,o]) (n+4) N F H K O S.t a2) λl i z r=> ?_;refine Ah (L:=[.X<|e.map an,o]) ?_ r;rcases a3 with rfl|rfl|rfl
  ·exact aL w1 rfl 792 λd=>d E y V z
  ·exact aL w2 rfl 792 λd=>d E y V z
  ·exact aL se rfl 792 λd=>d E y V z
 | @Ic e g t q C D F H K O=>exact a0 q C D F H K O| @Ii e g t u q C D F H K O=>exact a0 q C D F H K O| @Ih e g t u q C D F H K O a2=>
  subst q
  obtain⟨o,y⟩:=m C D
  refine bw (s (τ:=τ++[.X<|e.map an,o]) F H K) λM z=> ?_;refine fT (z2 (w:=w) (d:=τ++[.X<|e.map an,o]++[.X<|g.map an,M]) (n+5) (p:=aC τ 0) (q:=e) (by refine U (bD _ _ _) ?_;exact dB) S O [] (aB (aB (aB (λ_=>Y) 0<|.ref 8) 1<|.ref<|aC τ 0) 2<|.ref<|aC (τ++[.X<|e.map an,o]) 0) rfl rfl) λP x a6 b5 a1=> ?_;refine oM (Ez (w:=w) (d:=τ++[.X<|e.map an,o]++[.X<|g.map an,M]) (n+5) (m:=aC (τ++[.X<|e.map an,o]) 0) (p:=g) dB S a2 [] P rfl a6) λl i a8 a7 r=> ?_;have a1:P 2=J (.ref<|aC (τ++[.X<|e.map an,o]) 0):=a1;rw[bD τ]at x a7 z;refine Ah (L:=[.X<|e.map an,o]++[.X<|g.map an,M]) ?_ r;exact aL se rfl 45848 λd=>d E y V z x a1 a7
 | @I5 e g t r c0 c c4 C D F H K O a2 c1=>
  refine bw (m C D) λo y=> ?_;refine bw (s (τ:=τ++[.X<|e.map an,o]) F H K) λM z=> ?_;have c2:(τ++[.X<|e.map an,o]++[.X<|g.map an,M])[τ.length]?=J (.X<|e.map an):=cG (by refine U (mY<|bE _)<|U (re _) ?_;rfl);refine Li (TV (w:=w) (d:=τ++[.X<|e.map an,o]++[.X<|g.map an,M]) n (g:=τ.length) c2 f a2 c1) λq b6 b7 b8 c5 u a9 b0 b1=> ?_;refine⟨[.X<|e.map an,o]++([.X<|g.map an,M]++(b6++(b7++b8))),cJ (b:=J (.ok<|.ad r,mk (w.sH c0)<|τ++[.X<|e.map an,o]++[.X<|g.map an,M]++b6++b7++b8)) ?_<|by exact U (bD _ _ _)<|U (bD _ _ _)<|U (bD _ _ _)<|U (bD _ _ _) rfl⟩;rcases a3 with rfl|rfl|rfl
  ·exact aL w1 rfl 26223384 λd=>d E y V z u a9 b0 b1
  ·exact aL w2 rfl 26223384 λd=>d E y V z u a9 b0 b1
  ·refine bx (O rfl) λc3 b2=> ?_;refine fT (z2 (w:=w) (d:=τ++[.X<|e.map an,o]++[.X<|g.map an,M]) (n+5) (p:=aC τ 0) (q:=e) (by refine U (bD _ _ _) ?_;exact dB) S c3 [] (aB (aB (aB (λ_=>Y) 0<|.ref 8) 1<|.ref<|aC τ 0) 2<|.ref<|aC (τ++[.X<|e.map an,o]) 0) rfl rfl) λP x a6 b5 a1=> ?_;exact fT (Ez (w:=w) (d:=τ++[.X<|e.map an,o]++[.X<|g.map an,M]) (n+5) (m:=aC (τ++[.X<|e.map an,o]) 0) (p:=g) dB S b2 [] P rfl a6) λl a7 i b3 c6=>have a1:P 2=J (.ref<|aC (τ++[.X<|e.map an,o]) 0):=a1;have i:l 0=J (.ref 8):=i.trans a6;have b3:l 1=J (.ref<|aC τ 0):=b3.trans b5;aL se rfl 1818080024 λd=>d E y V z x a1 a7 i b3 u i i a9 i b0 b1
end
end
section
open PySem
def nW (w:aM):Prop:=w.io<=w.cells.length/\w.lH<2147483647
section
variable {w:aM} {d:List O}
theorem Ga {k:Nat}:jh (.ref 1) (.I 1) (.I k) (mk w d)=J (mk (w.sK k w.nr w.lH) d):=rfl
def uM {z:Int} {k:Nat} (e:z=k):jh (.ref 1) (.I 2) (.I z) (mk w d)=J (mk (w.sK w.io k w.lH) d):=by subst e;rfl
def F_ (h:w.cells[w.io]?=J z):go (.ref 0) (.I w.io) (mk w d)=J (.I z):=iq rfl<|by refine U lg<|U h ?_;rfl
def Eh (h:0<b):hO .Mod (.I a) (.I b)=J (.I<|a %b):=aK h
def MB (e:0<b) (f:b<2^100) (h:a/b=c):hO .FloorDiv (.I a) (.I b)=J (.I c):=by have:0<b/\b<2^100:=⟨e,f⟩;exact(aK this).trans<|U h rfl
def RE (a b:Nat) (c:small a=ac) (e:small b=ac):∃p:Nat,hO .Mult (.I a) (.I b)=J (.I p):=⟨a*b,by exact U (uh c e)<|U (Vo _ _) rfl⟩
def xD (a b:Nat) (c:0<b):∃p:Nat,p<b/\hO .Mod (.I a) (.I b)=J (.I p):=ax (a %b) (Nat.mod_lt _ c)<|by exact U (Eh<|by exact pJ.mp<|aj [_] [] [.n 1 (.a u0 W) Z,.z 1 (.e Z)<|.k 0] rfl c)<|U (Int.natCast_emod _ _) rfl
def z_ (a b:Nat) (c:0<b) (h:(b:Int)<2^100):∃p:Nat,hO .FloorDiv (.I a) (.I b)=J (.I p):=⟨a/b,MB (by exact pJ.mp<|aj [_] [] [.n 1 (.a u0 W) Z,.z 1 (.e Z)<|.k 0] rfl c) h<|by exact U (Int.natCast_ediv _ _) rfl⟩
def AT:e_ aa .bb [.ref 0] (mk w d)=J (.ok<|.I w.cells.length,mk w d):=by show J (mW<|V.I (w.cells.map V.I).length,mk w d)=_;rw[bX]
def Ss (n m:Nat) (i:0<m) (j:(m:Int)<2^100) (h:nW w):∃v k b s:Nat,v<m/\nW (w.sK k b s)/\∀d,aD (n+1) aa 87 [.ref 1,.I m] (mk w d)=J (.ok<|.I v,mk (w.sK k b s) d):=by
 refine cps λC g=> ?_;refine aZ (w.nr=0) (λq=> ?_)<|λq=> ?_
 ·have t:(w.nr:Int)=0:=al Kw q;refine aZ (w.io=w.cells.length) (λl=> ?_)<|λl=> ?_
  ·obtain⟨A,D⟩:∃A:Nat,(A:Int)=48271:=⟨48271,rfl⟩;obtain⟨B,o⟩:∃B:Nat,(B:Int)=2147483647:=⟨2147483647,rfl⟩;refine bw (RE w.lH A (qQ (by have:=h.2;omega))<|qQ<|by omega) λp y=> ?_;refine ah (xD p B<|by exact bo<|aj [_] [] [.z 1 (.k 2147483647)<|.e Z,.n 1 Z u0] rfl<|gL o.symm) λu E f=> ?_;refine bw (z_ u 7 (by exact bo<|aj [] [] [.n 1 u7 u0] rfl)<|by decide) λr F=> ?_;refine ah (xD r m i) λs H x=> ?_;rw[D]at y;rw[o]at f;exact g (tR s w.io w.nr u H ⟨h.1,by show u<_;exact bo<|aj [_,_] [] [.z 1 (.e Z)<|.k 2147483647,.n 1 (.a G W) Z,.n 1 (.k 2147483647) G] rfl (gL o) E⟩<|λd=>by exact aL w3 rfl 2712324 λc=>c (gH t) AT (gH<|al Kw l) y f rfl F x)
  ·have u:w.io<w.cells.length:=CK h.1 l;obtain⟨z,x⟩:∃z,w.cells[w.io]?=J z:=⟨_,fd u⟩;refine ah (xD z.natAbs m i) λa r f=> ?_;refine bw (z_ z.natAbs m i j) λb p=> ?_;refine g ?_;refine(tR a (w.io+1) b w.lH r ⟨u,h.2⟩<|λd=> ?_);refine cps λC g=> ?_;refine aZ (0<=z) (λo=> ?_)<|λo=> ?_
   ·exact have e:=(Int.natAbs_of_nonneg o).symm;g (aL w3 rfl 87049667332 λc=>c (gH t) AT (dt<|λe=>l<|eW e) (F_ x) (Ga (k:=w.io+1)) (cz o) (uM e) f p<|uM<|@rfl Int b)
   ·exact have e: -z=z.natAbs:=(Int.ofNat_natAbs_of_nonpos<|Int.le_of_not_le o).symm;g (aL w3 rfl 174089863940 λc=>c (gH t) AT (dt<|λe=>l<|eW e) (F_ x) (Ga (k:=w.io+1)) (gP o) (uM e) f p<|uM<|@rfl Int b)
 ·exact ah (xD w.nr m i) λa r f=>bw (z_ w.nr m i j) λb p=>g<|tR a w.io b w.lH r h<|λd=>by exact aL w3 rfl 10372 λc=>c (dt<|λe=>q<|eW e) f p<|uM<|@rfl Int b
end
end
section
open PySem
structure cN (nm:aw):Prop where
 yt:nm.bf.Nodup
 aA:nm.aW.Nodup
 lR:∀p∈nm.aW,p.1<nm.bf.length
 BP:∀s∈nm.bf,s.length<=1000
structure cP (k:Nat) (nm nm':aw):Prop where
 bf:∃a,nm'.bf=nm.bf++a/\a.length<=k
 aW:∃b,nm'.aW=nm.aW++b/\b.length<=k
def cP.b1 (a:aw):cP 0 a a:=⟨⟨[],by simp⟩,⟨[],by simp⟩⟩
def cP.trans {j k:Nat} {a b c:aw} (h:cP j a b) (g:cP k b c):cP (j+k) a c:=by refine cps λu m=> ?_;obtain⟨⟨x,o,p⟩,⟨y,q,r⟩⟩:=h;obtain⟨⟨s,e,f⟩,⟨t,i,l⟩⟩:=g;exact m ⟨(ax (x++s) (by exact U e<|U o<|U (bD _ _ _) rfl)<|by simp;exact aI<|aj [_,_,_,_] [] [.n 1 Z G,.n 1 v2 v3,.n 1 (.a (.a G v3) W)<|.a Z v2] rfl p f),(ax (y++t) (by exact U i<|U q<|U (bD _ _ _) rfl)<|by simp;exact aI<|aj [_,_,_,_] [] [.n 1 Z G,.n 1 v2 v3,.n 1 (.a (.a G v3) W)<|.a Z v2] rfl r l)⟩
def cP.a2 (h:cP j a b) (l:j<=k):cP k a b:=by obtain⟨⟨x,c,e⟩,⟨y,f,g⟩⟩:=h;exact⟨(ax x c<|by exact aI<|aj [_,_,_] [] [.n 1 Z G,.n 1 v2 Z,.n 1 (.a G W) v2] rfl l e),(ax y f<|by exact aI<|aj [_,_,_] [] [.n 1 Z G,.n 1 v2 Z,.n 1 (.a G W) v2] rfl l g)⟩
theorem cP.atom (a:aw) (s:List Nat):cP 1 a (a.atom s).2:=aw.i6 (λ_ _=>(cP.b1 a).a2<|cr _) λ_=>⟨ax ([s]) rfl<|bE _,⟨[],by simp⟩⟩
theorem cP.d1 (a:aw) (p:Nat×Nat):cP 1 a (a.d1 p).2:=aw.ld (λ_ _=>(cP.b1 a).a2<|cr _) λ_=>⟨⟨[],by simp⟩,ax ([p]) rfl<|bE _⟩
def cP.t1 {k i:Nat} {a b:aw} {s:List Nat} (h:cP k a b) (g:a.bf[i]?=J s):b.bf[i]?=J s:=ah h.bf λx c _=>U c<|U (iW (cK.mp g).1) g
def cP.e5 {k i:Nat} {a b:aw} {s:Nat×Nat} (h:cP k a b) (g:a.aW[i]?=J s):b.aW[i]?=J s:=ah h.aW λx c _=>U c<|U (iW (cK.mp g).1) g
def cP.bb {k:Nat} {a b:aw} (h:cP k a b):a.bf.length<=b.bf.length/\b.bf.length<=a.bf.length+k/\a.aW.length<=b.aW.length/\b.aW.length<=a.aW.length+k:=by refine cps λj c=> ?_;refine ah h.bf λx e f=> ?_;refine ah h.aW λy g i=> ?_;refine c ?_;refine U e<|U g ?_;simp;exact⟨aI<|aj [_,_] [] [.n 1 Z G,.n 1 (.a G W) Z] rfl f,aI<|aj [_,_] [] [.n 1 Z G,.n 1 (.a G W) Z] rfl i⟩
def xd [BEq b] [LawfulBEq b] {l:List b} (h:l.idxOf? a=J k):l[k]?=J a:=by
 unfold VG at h
 refine ah (List.findIdx?_eq_some_iff_getElem.mp h) λq c _=> ?_;refine cJ (fd q) ?_;congr;simpa using c
def xc [BEq b] [LawfulBEq b] {l:List b} (h:l.idxOf? a=Y):a∉l:=by
 unfold VG at h
 intro m
 have:=List.findIdx?_eq_none_iff.mp h a m
 try simp at this
set_option tactic.hygienic true in
theorem cN.atom {c:aw} (h:cN c) (s:List Nat) (g:s.length<=1000):cN (c.atom s).2/\(c.atom s).2.bf[(c.atom s).1]?=J s/\(c.atom s).2.aW=c.aW:=by
 refine aw.i6 (λk e=>bB h (xd e) rfl) λe=> ?_
 ·refine bB ⟨?_,h.aA,λp m=>by have:=h.lR p m;simp;exact bo<|aj [_,_] [] [.n 1 (.a Z W) G,.n 1 (.a G W) Z] rfl this,λu m=>(fB.mp m).elim (h.BP u) λm=>by refine U (dk.mp m) ?_;exact g⟩ (by simp) rfl;refine CC.mpr (bB h.yt (by simp)<|?_)
  intro a i b f
  try simp at f
  subst f
  exactλj=>xc e<|am j i
set_option tactic.hygienic true in
theorem cN.d1 {c:aw} (h:cN c) (p:Nat×Nat) (g:p.1<c.bf.length):cN (c.d1 p).2/\(c.d1 p).2.aW[(c.d1 p).1]?=J p/\(c.d1 p).2.bf=c.bf:=by
 refine aw.ld (λk e=>bB h (xd e) rfl) λe=> ?_
 ·refine bB ⟨h.yt,?_,λq m=> ?_,h.BP⟩ (by simp) rfl
  ·refine CC.mpr (bB h.aA (by simp)<|?_)
   intro a i b f
   try simp at f
   subst f
   exactλj=>xc e<|am j i
  ·simp at m;rcases m with m|rfl
   ·exact h.lR q m
   ·exact g
theorem cN.func {b:aw} (h:cN b) (s:List Nat) (r:Nat) (c:s.length<=1000):cN (b.func s r).2/\cP 2 b (b.func s r).2/\∃a,(b.func s r).2.aW[(b.func s r).1]?=J (a,r):=cps λk e=>dq (h.atom s c) λf g l=>dq (f.d1 ((b.atom s).1,r) (cK.mp g).1) λi j m=>e ⟨i,(cP.atom b s).trans<|cP.d1 _ _,_,j⟩
def bv (b:aw):T->Prop|.v _=>True|.i _=>True|.a k=>k<b.bf.length|.ay f x=>(∃a,b.aW[f]?=J (a,1))/\bv b x|.ak f x y=>(∃a,b.aW[f]?=J (a,2))/\bv b x/\bv b y
theorem bv.a2 {k:Nat} {a b:aw} (h:cP k a b):∀{t:T},bv a t->bv b t|.v _,_=>trivial|.i _,_=>trivial|.a k,g=>dL g h.bb.1|.ay f x,⟨⟨p,c⟩,g⟩=>⟨⟨p,h.e5 c⟩,bv.a2 h g⟩|.ak f x y,⟨⟨p,c⟩,g,e⟩=>(bB ⟨p,h.e5 c⟩ (bv.a2 h g)<|bv.a2 h e)
structure eF (k:Nat) (w w':aM):Prop where
 hj:w'.cells=w.cells
 ns:w'.H=w.H
 xs:w'.xs=w.xs
 mL:nW w'
 ok:cN w'.nm
 dN:cP k w.nm w'.nm
theorem eF.trans {j k:Nat} {a b c:aM} (h:eF j a b) (g:eF k b c):eF (j+k) a c:=⟨by exact cJ g.hj h.hj,by exact cJ g.ns h.ns,by exact cJ g.xs h.xs,g.mL,g.ok,h.dN.trans g.dN⟩
theorem eF.a2 (h:eF j a b) (l:j<=k):eF k a b:=⟨h.hj,h.ns,h.xs,h.mL,h.ok,h.dN.a2 l⟩
def dS (k:Nat) (w:aM):Prop:=nW w/\cN w.nm/\w.nm.bf.length+k<900000/\w.nm.aW.length+k<900000
def eF.c8 (h:eF j a b) (f:dS (j+k) a):dS k b:=mu h.mL h.ok (by have:=h.dN.bb;have:=f.2.2;exact bo<|aj [_,_,_,_] [] [.n 1 Z<|.a G v2,.n 1 (.a (.a G<|.a v2 v3) W)<|.k 900000,.n 1 (.k 900000)<|.a Z v3] rfl ‹a.nm.bf.length<=b.nm.bf.length/\b.nm.bf.length<=a.nm.bf.length+j/\a.nm.aW.length<=b.nm.aW.length/\b.nm.aW.length<=a.nm.aW.length+j›.2.1 this.1) (by have:=h.dN.bb;have:=f.2.2;exact bo<|aj [_,_,_,_] [] [.n 1 Z<|.a G v2,.n 1 (.a (.a G<|.a v2 v3) W)<|.k 900000,.n 1 (.k 900000)<|.a Z v3] rfl ‹a.nm.bf.length<=b.nm.bf.length/\b.nm.bf.length<=a.nm.bf.length+j/\a.nm.aW.length<=b.nm.aW.length/\b.nm.aW.length<=a.nm.aW.length+j›.2.2.2 this.2)
theorem dS.small {w:aM} (f:dS k w):w.nm.small:=⟨by have:=f.2.2;exact bo<|aj [_,_] [] [.n 1 (.a (.a Z G) W)<|.k 900000,.n 1 (.k 1000000) Z] rfl this.1,by have:=f.2.2;exact bo<|aj [_,_] [] [.n 1 (.a (.a Z G) W)<|.k 900000,.n 1 (.k 1000000) Z] rfl this.2⟩
section
variable {w:aM} {d:List O}
def hV (n m:Nat) (f:0<m) (c:(m:Int)<2^100) (h:nW w) (k:cN w.nm):∃(v:Nat) (e:aM),v<m/\eF 0 w e/\e.nm=w.nm/\∀d,aD (n+1) aa 87 [.ref 1,.I m] (mk w d)=J (.ok<|.I v,mk e d):=zn (Ss (w:=w) n m f c h) λv a b s g i j=>fe v (w.sK a b s) g ⟨rfl,rfl,rfl,i,k,cP.b1 _⟩ rfl j
def sv:List<|List Nat:=[S "[]",S "b",S "ab",S "",S "B",S "b1"]
def A7 (n:Nat) (F:dS 1 w):∃(t:T) (u:aM),eF 1 w u/\t.a0=0/\(∀n,t.has n->n=0)/\bv u.nm t/\∀d,∃l,aD (n+2) aa 96 [.ref 1,.ref 2] (mk w d)=J (.ok<|af t,mk u<|d++l):=by
 refine cps λH o=> ?_;refine dx (hV n 10 (by decide) (by decide) F.1 F.2.1) λv h L k N p=> ?_;have f:dS 1 h:=k.c8 (j:=0) (by refine U (eb _) ?_;exact F);refine aZ ((v:Int)=9) (λq=> ?_)<|λq=> ?_
 ·exact o<|ft (.v 0) h (k.a2<|cr _) rfl (λn e=>e.symm) trivial<|λd=>⟨[],by refine U (dI _) ?_;exact aL w4 rfl 10 λb=>b (p d)<|gH q⟩
 ·refine aZ ((4:Int)<v) (λr=> ?_)<|λr=> ?_
  ·refine aZ ((v:Int)<8) (λs=> ?_)<|λs=> ?_
   ·exact dx (hV (w:=h) n 4 (by decide) (by decide) f.1 f.2.1) λz c x g B m=>o<|ft (.i<|(z:Int)-1) c ((k.trans g).a2<|cr _) rfl (λn e=>e.elim) trivial<|λd=>⟨[],by refine U (dI _) ?_;exact aL w4 rfl 5258 λb=>b (p d) (dt q) (cz r) (cz s)<|m d⟩
   ·obtain⟨M,y⟩:∃M:Nat,M=10^20:=⟨_,rfl⟩;obtain⟨K,A⟩:∃K:Int,K=10^19:=⟨_,rfl⟩;have C:hO .Pow (.I 10) (.I 20)=J (.I (M:Int)):=by refine U y ?_;rfl
    have D:hO .Pow (.I 10) (.I 19)=J (.I K):=by refine U A ?_;rfl
    refine dx (hV (w:=h) n M (by refine U y ?_;decide) (by refine U y ?_;decide) f.1 f.2.1) λz c x g B m=> ?_;exact o<|ft (.i<|(z:Int)-K) c ((k.trans g).a2<|cr _) rfl (λn e=>e.elim) trivial<|λd=>⟨[],by refine U (dI _) ?_;exact aL w4 rfl 29834 λb=>b (p d) (dt q) (cz r) (gP s) C (m d) D⟩
  ·refine dx (hV (w:=h) n 6 (by decide) (by decide) f.1 f.2.1) λz c x g B m=> ?_;have y:dS 1 c:=g.c8 (j:=0) (by refine U (eb _) ?_;exact f);obtain⟨s,C⟩:∃s,sv[z]?=J s:=⟨_,fd (show z<sv.length from x)⟩;have A:=y.2.1.atom s<|(by decide:∀s∈sv,s.length<=1000) s<|em C;have D:=k.trans g;have E:(sv.map V.Z)[z]?=J (.Z s):=by refine U lg<|U C ?_;rfl
   exact o<|ft (.a (c.nm.atom s).1) (c.sN (c.nm.atom s).2) ⟨D.hj,D.ns,D.xs,D.mL,A.1,(D.dN.trans<|cP.atom _ s).a2<|bE _⟩ rfl (λn e=>e.elim) ((cK.mp A.2.1).1)<|λd=>⟨[.X<|sv.map .Z],by exact aL w4 rfl 29834 λb=>b (p d) (dt q) (gP r) (cX (a:=sv.map .Z) rfl) (m _) (ot rfl E)<|rM (w:=c) n aa s y.small⟩
end
end
section
open PySem
noncomputable def fk:Nat->Nat|0=>1|d+1=>6+(fk d+fk d)
def Qz (d:Nat):1<=fk d:=by cases d with|zero=>exact bE _|succ d=>exact aF (by decide:1<=6)<|ck _ _
section
variable {w:aM} {c:List O}
def M8 (n:Nat) (F:dS 4 w):∃(A B:Nat) (f d:aM),eF 4 w d/\(∃a,d.nm.aW[A]?=J (a,1))/\(∃a,d.nm.aW[B]?=J (a,2))/\(∀c,aD (n+2) aa 8 [.ref 2,.Z<|S "f",.I 1] (mk w c)=J (.ok<|.I A,mk f c))/\∀c,aD (n+2) aa 8 [.ref 2,.Z<|S "f",.I 2] (mk f c)=J (.ok<|.I B,mk d c):=by refine cps λp h=> ?_;obtain⟨i,e,a,j⟩:=F.2.1.func (S "f") 1 (by decide);obtain⟨l,g,b,m⟩:=i.func (S "f") 2 (by decide);exact have o:(w.nm.func (S "f") 1).2.small:=⟨by have:=e.bb;have:=F.2.2;exact bo<|aj [_,_] [] [.n 1 Z<|.a G u2,.n 1 (.a (.a G<|.k 4) W)<|.k 900000,.n 1 (.k 1000000) Z] rfl ‹w.nm.bf.length<=(w.nm.func (S "f") 1).snd.bf.length/\(w.nm.func (S "f") 1).snd.bf.length<=w.nm.bf.length+2/\w.nm.aW.length<=(w.nm.func (S "f") 1).snd.aW.length/\(w.nm.func (S "f") 1).snd.aW.length<=w.nm.aW.length+2›.2.1 this.1,by have:=e.bb;have:=F.2.2;exact bo<|aj [_,_] [] [.n 1 Z<|.a G u2,.n 1 (.a (.a G<|.k 4) W)<|.k 900000,.n 1 (.k 1000000) Z] rfl ‹w.nm.bf.length<=(w.nm.func (S "f") 1).snd.bf.length/\(w.nm.func (S "f") 1).snd.bf.length<=w.nm.bf.length+2/\w.nm.aW.length<=(w.nm.func (S "f") 1).snd.aW.length/\(w.nm.func (S "f") 1).snd.aW.length<=w.nm.aW.length+2›.2.2.2 this.2⟩;h (j_ _ _ (w.sN (w.nm.func (S "f") 1).2) (w.sN ((w.nm.func (S "f") 1).2.func (S "f") 2).2) ⟨rfl,rfl,rfl,F.1,l,e.trans g⟩ ⟨a,g.e5 j⟩ ⟨b,m⟩ (λc=>sl n aa (S "f") 1 F.small)<|λc=>sl (w:=w.sN (w.nm.func (S "f") 1).2) n aa (S "f") 2 o)
def QD (d:Nat):∀(n:Nat) (w:aM),dS (fk d) w->(∃a,w.nm.aW[0]?=J (a,2))->∃(t:T) (r:aM),eF (fk d) w r/\t.a0<=d/\(∀n,t.has n->n=0)/\bv r.nm t/\∀c,∃l,aD (n+d+3) aa 97 [.ref 1,.ref 2,.I d] (mk w c)=J (.ok<|af t,mk r<|c++l):=by
 induction d with
 |zero=>
  intro n w F c5
  refine dx (hV (n+1) 6 (by decide) (by decide) F.1 F.2.1) λv Q c6 P c7 L=> ?_;refine gz (A7 n<|P.c8 (j:=0)<|by refine U (eb _) ?_;exact F) λt m M f g h y=> ?_;refine(ft t m (P.trans M) (bp f) g h<|λc=> ?_);refine bw (y c) λl y=> ?_;refine⟨l,?_⟩;refine aZ ((v:Int)<3) (λq=> ?_)<|λq=> ?_
  ·exact aL sg rfl 546 λb=>b (L c) (cz q) y
  ·exact aL sg rfl 2082 λb=>b (L c) (gP q) y
 |succ d a6=>
  intro n w F c5
  refine dx (hV (n+d+2) 6 (by decide) (by decide) F.1 F.2.1) λv Q c6 P c7 L=> ?_;have N:dS (fk<|d+1) Q:=P.c8 (j:=0) (by refine U (eb _) ?_;exact F);have e0:=Qz d;have D:fk (d+1)=6+(fk d+fk d):=rfl;refine aZ ((v:Int)<3) (λq=> ?_)<|λq=> ?_
  ·refine gz (A7 (w:=Q) (n+d+1)<|bB (N.1) (N.2.1) (by have:=N.2.2;exact⟨bo<|aj [_,_,_] [] [.n 1 (.a (.k 6)<|.a Z Z) G,.n 1 (.a (.a v2 G) W)<|.k 900000,.n 1 (.k 900000)<|.a v2 W] rfl (bp D.symm) this.1,bo<|aj [_,_,_] [] [.n 1 (.a (.k 6)<|.a Z Z) G,.n 1 (.a (.a v2 G) W)<|.k 900000,.n 1 (.k 900000)<|.a v2 W] rfl (bp D.symm) this.2⟩)) λt m M f g h y=> ?_;refine(ft t m ((P.trans M).a2<|by exact aI<|aj [_,_] [] [.n 1 (.a (.k 6)<|.a Z Z) G,.n 1 (.a G W)<|.a u0 W] rfl<|bp D.symm) (by refine U f ?_;exact cr _) g h<|λc=> ?_);exact bw (y c) λl y=>⟨l,by exact aL sg rfl 546 λb=>b (L c) (cz q) y⟩
  ·have a7:∃a,Q.nm.aW[0]?=J (a,2):=by refine U c7 ?_;exact c5
   refine ju (M8 (w:=Q) (n+d+1)<|bB (N.1) (N.2.1) (by have:=N.2.2;exact⟨bo<|aj [_,_,_] [] [.n 1 (.a (.k 6)<|.a Z Z) G,.n 1 (.a (.a v2 G) W)<|.k 900000,.n 1 (.k 900000)<|.a v2<|.k 4] rfl (bp D.symm) this.1,bo<|aj [_,_,_] [] [.n 1 (.a (.k 6)<|.a Z Z) G,.n 1 (.a (.a v2 G) W)<|.k 900000,.n 1 (.k 900000)<|.a v2<|.k 4] rfl (bp D.symm) this.2⟩)) λA B e1 m M d1 d2 a8 a9=> ?_;have K:dS (2+(fk d+fk d)) m:=M.c8 (by refine U (show 4+(2+(fk d+fk d))=fk (d+1) by exact iD (aI<|aj [_,_] [] [.n 1 (.a (.k 6)<|.a Z Z) G,.n 1 (.a G W)<|.a (.k 4)<|.a u2<|.a Z Z] rfl<|bp D.symm)<|aI<|aj [_,_] [] [.n 1 Z<|.a (.k 6)<|.a G G,.n 1 (.a (.a (.k 4)<|.a u2<|.a G G) W) Z] rfl<|bp D) ?_;exact N);have R:=P.trans M;have e2:¬((d+1:Nat):Int)=0:=λe=>CO d<|eW e;have c8:((d+1:Nat):Int)-1=d:=ow (d:Int) 1;have E:∃a,m.nm.aW[0]?=J (a,2):=bw a7 λa x=>⟨a,M.dN.e5 x⟩
   have Y:∀(k g:Nat),(v=k+3)->k≠0->(∃a,m.nm.aW[g]?=J (a,2))->([V.I A,.I 0,.I B])[k]?=J (.I g)->∃(t:T) (r:aM),eF (fk<|d+1) w r/\t.a0<=d+1/\(∀n,t.has n->n=0)/\bv r.nm t/\∀c,∃l,aD (n+(d+1)+3) aa 97 [.ref 1,.ref 2,.I (d+1:Nat)] (mk w c)=J (.ok<|af t,mk r<|c++l):=by
    intro k g u d3 b0 b1
    refine bw b0 λa x=> ?_;refine gz (a6 n m (bB (K.1) (K.2.1) (by have:=K.2.2;exact⟨bo<|aj [_,_] [] [.n 1 (.a (.a Z<|.a u2<|.a G G) W)<|.k 900000,.n 1 (.k 900000)<|.a Z G] rfl this.1,bo<|aj [_,_] [] [.n 1 (.a (.a Z<|.a u2<|.a G G) W)<|.k 900000,.n 1 (.k 900000)<|.a Z G] rfl this.2⟩)) E) λt i p b2 b3 b4 d4=> ?_;have H:dS (2+fk d) i:=p.c8 (by refine U (show fk d+(2+fk d)=2+(fk d+fk d) by exact iD (aI<|aj [_] [] [.n 1 (.a (.a u2<|.a Z Z) W)<|.a Z<|.a u2 Z] rfl)<|aI<|aj [_] [] [.n 1 (.a (.a Z<|.a u2 Z) W)<|.a u2<|.a Z Z] rfl) ?_;exact K);have b5:∃a,i.nm.aW[0]?=J (a,2):=bw E λa x=>⟨a,p.dN.e5 x⟩;refine gz (a6 n i (bB (H.1) (H.2.1) (by have:=H.2.2;exact⟨bo<|aj [_,_] [] [.n 1 (.a (.a Z<|.a u2 G) W)<|.k 900000,.n 1 (.k 900000)<|.a Z G] rfl this.1,bo<|aj [_,_] [] [.n 1 (.a (.a Z<|.a u2 G) W)<|.k 900000,.n 1 (.k 900000)<|.a Z G] rfl this.2⟩)) b5) λb6 C O b7 b8 b9 d5=> ?_;refine(ft (.ak g t b6) C (((R.trans p).trans O).a2<|by exact aI<|aj [_,_] [] [.n 1 (.a (.k 6)<|.a Z Z) G,.n 1 (.a G W)<|.a (.a (.a u0<|.k 4) Z) Z] rfl<|bp D.symm) (dv<|nM.mpr ⟨b2,b7⟩) (λn e=>e.elim (b3 n)<|b8 n) (bB ⟨a,(p.trans O).dN.e5 x⟩ (b4.a2 O.dN) b9)<|λc=> ?_);obtain⟨f,o⟩:∃f,f=c++[.X [V.I A,.I 0,.I B]]:=⟨_,rfl⟩;have a3:ew [V.I A,.I 0,.I B] (mk m c)=J (.ok<|.ref<|aC c 0,mk m f):=U o<|cX rfl;have c9:(v:Int)-3=k:=by exact vK (iA.mp<|aj [_,_] [] [.n 1 Z<|.a G u3,.z 1 (.a (.e G)<|.k 1)<|.s (.e Z)<|.k 3] rfl<|bp u)<|iA.mp<|aj [_,_] [] [.n 1 (.a Z u3) G,.z 1 (.a (.s (.e G)<|.k 3)<|.k 1)<|.e Z] rfl<|bp u.symm
    have a4:¬(v:Int)=3:=λh=>d3<|eW<|c9.symm.trans<|U h rfl;have a5:go (.ref<|aC c 0) (.I<|(v:Int)-3) (mk m f)=J (.I g):=by refine U o<|U c9 ?_;exact ot rfl b1
    refine bw (d4 f) λl y=> ?_;obtain⟨d6,c0⟩:=d5<|f++l;rw[<-c8]at y c0;rw[bD]at c0;exact⟨[.X [V.I A,.I 0,.I B]]++(l++d6++[.X [af t,af b6]]),by refine am (bD c _ _)<|am o ?_;exact aL sg rfl 457534614063138 λb=>b (L c) (gP q) (a8 c) (a9 c) a3 a5 (dt a4) (dt a4) (pt aa) y c0 (eP (a:=[af t,af b6]) rfl)<|pD dJ⟩
   have a0:∀(u:Nat) (i C:aM) (g:Nat),v=3->eF 0 m i->eF 2 i C->(∃a,C.nm.aW[g]?=J (a,1))->(∀c,aD (n+d+3) aa 87 [.ref 1,.I 2] (mk m c)=J (.ok<|.I u,mk i c))->((u:Int)=0/\(∀c,aD (n+d+3) aa 8 [.ref 2,.Z<|S "ab",.I 1] (mk i c)=J (.ok<|.I g,mk C c))\/¬(u:Int)=0/\C=i/\g=A)->∃(t:T) (r:aM),eF (fk<|d+1) w r/\t.a0<=d+1/\(∀n,t.has n->n=0)/\bv r.nm t/\∀c,∃l,aD (n+(d+1)+3) aa 97 [.ref 1,.ref 2,.I (d+1:Nat)] (mk w c)=J (.ok<|af t,mk r<|c++l):=by
    intro u i C g a4 p O b0 a1 c1
    subst a4
    refine bw b0 λa x=> ?_;have c2:dS (fk d+fk d) C:=O.c8 (p.c8 (j:=0)<|by refine U (eb _) ?_;exact K);have c3:∃a,C.nm.aW[0]?=J (a,2):=bw E λa x=>⟨a,(p.trans O).dN.e5 x⟩;refine gz (a6 n C (bB (c2.1) (c2.2.1) (by have:=c2.2.2;exact⟨bo<|aj [_,_] [] [.n 1 (.a (.a Z<|.a G G) W)<|.k 900000,.n 1 (.k 900000)<|.a Z G] rfl this.1,bo<|aj [_,_] [] [.n 1 (.a (.a Z<|.a G G) W)<|.k 900000,.n 1 (.k 900000)<|.a Z G] rfl this.2⟩)) c3) λt d7 d0 b2 b3 b4 d8=> ?_;refine(ft (.ay g t) d7 ((((R.trans p).trans O).trans d0).a2<|by exact aI<|aj [_,_] [] [.n 1 (.a (.k 6)<|.a Z Z) G,.n 1 (.a G W)<|.a (.a (.a (.a u0<|.k 4) u0) u2) Z] rfl<|bp D.symm) (dv b2) b3 ⟨⟨a,d0.dN.e5 x⟩,b4⟩<|λc=> ?_);obtain⟨f,o⟩:∃f,f=c++[.X [V.I A,.I 0,.I B]]:=⟨_,rfl⟩;have a3:ew [V.I A,.I 0,.I B] (mk m c)=J (.ok<|.ref<|aC c 0,mk m f):=U o<|cX rfl;have a5:go (.ref<|aC c 0) (.I<|((3:Nat):Int)-3) (mk m f)=J (.I A):=by refine U o ?_;exact ot (k:=0) rfl rfl
    refine bw (d8 f) λl y=> ?_;have y:=(hB c8)▸y;refine⟨[.X [V.I A,.I 0,.I B]]++(l++[.X [af t]]),?_⟩;refine am (bD c _ _)<|am o ?_;rcases c1 with⟨c4,d9⟩|⟨c4,rfl,rfl⟩
    ·exact aL sg rfl 114366976673794 λb=>b (L c) (a8 c) (a9 c) a3 a5 (a1 f) (gH c4) (d9 f) (sQ aa) y (eP (a:=[af t]) rfl)<|pD dJ
    ·exact aL sg rfl 14295849289730 λb=>b (L c) (a8 c) (a9 c) a3 a5 (a1 f) (dt c4) (sQ aa) y (eP (a:=[af t]) rfl)<|pD dJ
   have f:v=0+3\/v=1+3\/v=2+3:=have q:3<=v:=oB.mp λh=>q<|mX.mpr h;(G6<|We q c6).imp (Kx q) (.imp (Kx q)<|Kx q);rcases f with h|h|h
   ·refine dx (hV (w:=m) (n+d+2) 2 (by decide) (by decide) K.1 K.2.1) λu i e3 p e4 a1=> ?_;have H:dS (2+(fk d+fk d)) i:=p.c8 (j:=0) (by refine U (eb _) ?_;exact K);refine aZ ((u:Int)=0) (λb=> ?_)<|λb=> ?_
    ·obtain⟨o,y,a,O⟩:=H.2.1.func (S "ab") 1 (by decide);exact a0 u i (i.sN (i.nm.func (S "ab") 1).2) _ h p ⟨rfl,rfl,rfl,H.1,o,y⟩ ⟨a,O⟩ a1<|.inl ⟨b,λc=>sl (w:=i) (n+d+1) aa (S "ab") 1 H.small⟩
    ·obtain⟨a,x⟩:=d1;exact a0 u i i A h p ⟨rfl,rfl,rfl,H.1,H.2.1,(cP.b1 _).a2<|cr _⟩ ⟨a,p.dN.e5 x⟩ a1<|.inr<|bB b rfl rfl
   ·exact Y 1 0 h (by decide) E rfl
   ·exact Y 2 B h (by decide) d2 rfl
end
end
section
open PySem
def oU (a:aw) (b:List<|List Nat):aw:=b.foldl (λa s=>(a.atom s).2) a
def AN (a:aw) (b:List<|List Nat×Nat):aw:=b.foldl (λa p=>(a.func p.1 p.2).2) a
section
variable (a b:O) (r:List O)
def Mb (n:Nat) (f:List<|List Nat):∀(c:aw) (g:ap),c.bf.length+f.length<ar->g 0=J (.ref 2)->
  ∃d,dZ (aD<|n+2) aa 1 (gE<|Ap.body.drop 4) (.b8<|f.map .Z) g (ek a b c r)=J (.ok .a1 d<|ek a b (oU c f) r)/\d 0=J (.ref 2):=by
 induction f with
 |nil=>intro c g h i;exact ax g (hR rfl) i|cons s f j=>
  intro c g h i
  have h:c.bf.length+(f.length+1)<ar:=h;have l:=(cP.atom c s).bb;refine ah (j (c.atom s).2 (aB g 1<|.Z s) (by exact bo<|aj [_,_,_,_] [] [.n 1 (.a (.a Z<|.a G W) W) v2,.n 1 v3<|.a Z W,.n 1 v2<|.a v3 G] rfl h l.2.1) i) λd z m=> ?_;refine ax d (?_) m;exact ev rfl 9 λe=>(e i<|zK (a:=a) (b:=b) (f:=c) (r:=r) (n+1) aa s<|dK (ck _ _) h).trans z
noncomputable def vr (p:List Nat×Nat):V:=.av [.Z p.1,.I p.2]
def PU (n:Nat) (d:List<|List Nat×Nat):∀(c:aw) (g:ap),c.bf.length+2*d.length<ar->c.aW.length+2*d.length<ar->(∀s∈d,s.1.length<=1000)->cN c->g 0=J (.ref 2)->
  ∃e,dZ (aD<|n+2) aa 2 (gE<|Ap.body.drop 5) (.b8<|d.map vr) g (ek a b c r)=J (.ok .a1 e<|ek a b (AN c d) r)/\e 0=J (.ref 2):=by
 induction d with
 |nil=>intro c g h i _ k j;exact ax g (hR rfl) j|cons p d o=>
  intro c g h i q k j
  refine dq (k.func p.1 p.2<|q p<|.head _) λt w _=> ?_;have l:=w.bb;have h:c.bf.length+2*(d.length+1)<ar:=h;have i:c.aW.length+2*(d.length+1)<ar:=i;refine ah (o (c.func p.1 p.2).2 (aB g 2<|vr p) (by exact bo<|aj [_,_,_,_] [] [.n 1 Z<|.a G u2,.n 1 (.a (.a G<|.m 2<|.a v2 W) W) v3,.n 1 v3<|.a Z<|.m 2 v2] rfl l.2.1 h) (by exact bo<|aj [_,_,_,_] [] [.n 1 Z<|.a G u2,.n 1 (.a (.a G<|.m 2<|.a v2 W) W) v3,.n 1 v3<|.a Z<|.m 2 v2] rfl l.2.2.2 i) (λu m=>q u<|.tail _ m) t j) λe z y=> ?_;refine ax e (?_) y;have x:=F0 (a:=a) (b:=b) (f:=c) (r:=r) n aa p.1 p.2 (by exact bo<|aj [_,_,_] [] [.n 1 (.a (.a Z<|.m 2 G) W) v2,.n 1 v2 Z] rfl ‹c.bf.length+2*(p::d).length<ar›) (by exact bo<|aj [_,_,_] [] [.n 1 (.a (.a Z<|.m 2 G) W) v2,.n 1 v2 Z] rfl ‹c.aW.length+2*(p::d).length<ar›);exact ev rfl 65 λf=>(f j x).trans z
end
noncomputable def GR:a_->List Nat|.W (.Z s)=>s|_=>[]
def Q9:a_->List Nat×Nat|.av [a,.W<|.I k]=>(GR a,k.toNat)|_=>([],0)
noncomputable def Iz:List cA->List a_|[.aO<|.av l]=>l|_=>[]
def rL:List<|List Nat:=(Iz Fn.body).map GR
def w_:List<|List Nat×Nat:=(Iz Fq.body).map Q9
def lM:aw:=AN (oU ⟨[],[]⟩ rL) w_
def D4 (a:List<|List Nat):(∀s∈a,s.length<=1000)->∀{b:aw},cN b->cN (oU b a):=by
 induction a with
 |nil=>exactλ_ _ h=>h|cons s a c=>exactλq _ h=>c (λu m=>q u<|.tail _ m) (h.atom s<|q s<|.head _).1
def PV (a:List<|List Nat×Nat):(∀s∈a,s.1.length<=1000)->∀{b:aw},cN b->cN (AN b a):=by
 induction a with
 |nil=>exactλ_ _ h=>h|cons s a c=>exactλq _ h=>c (λu m=>q u<|.tail _ m) (h.func s.1 s.2<|q s<|.head _).1
def RN:lM.bf.length<100/\lM.aW.length<100:=by
 have a:lM.bf.length=29:=by kernel_rfl
 have b:lM.aW.length=32:=by kernel_rfl
 exact⟨bo<|aj [_] [] [.n 1 Z<|.k 29,.n 1 (.k 100) Z] rfl<|bp a,bo<|aj [_] [] [.n 1 Z<|.k 32,.n 1 (.k 100) Z] rfl<|bp b⟩
def RM:lM.aW[13]?=J (3,2):=by kernel_rfl
def Ma (c:List<|List Nat):∀(b:aw),(oU b c).bf.length<=b.bf.length+c.length/\(oU b c).aW=b.aW:=by
 induction c with
 |nil=>intro b;exact⟨by simp[oU],rfl⟩|cons s c d=>
  intro b
  have:=d (b.atom s).2;have e:=(cP.atom b s).bb;have f:(b.atom s).2.aW=b.aW:=D2 b s;exact⟨by simp[oU]at this ⊢;exact aI<|aj [_,_,_,_] [] [.n 1 Z<|.a G v2,.n 1 G<|.a v3 W,.n 1 (.a (.a v3<|.a v2 W) W) Z] rfl this.1 e.2.1,by refine am f ?_;exact this.2⟩
def MX (n:Nat) (a:ae):aD (n+1) aa 2 [] a=J (.ok<|.av<|rL.map .Z,a):=aL Pa rfl 0 id
def MY (n:Nat) (a:ae):aD (n+1) aa 3 [] a=J (.ok<|.av<|w_.map vr,a):=aL Ph rfl 0 id
def RG (n:Nat) (a b:O):aD (n+3) aa 4 [.ref 2] [a,b,.a3 2 []]=J (.ok .a6,ek a b lM []):=by
 have e:rL.length=29:=by kernel_rfl
 have f:w_.length=32:=by kernel_rfl
 have h:cN ⟨[],[]⟩:=⟨.nil,.nil,λp m=>(nomatch m),λp m=>nomatch m⟩;refine cps λl i=> ?_;refine ah (Mb a b [] n rL ⟨[],[]⟩ (aB (λ_=>Y) 0<|.ref 2) (by refine U e ?_;decide) rfl) λd x j=> ?_;have g:=Ma rL ⟨[],[]⟩;refine ah (PU a b [] n w_ (oU ⟨[],[]⟩ rL) d (by refine U f ?_;exact dK (ha (aF g.1<|bp<|(eb _).trans e) _)<|by decide) (by refine U g.2<|U f ?_;decide) (by decide) (D4 _ (by decide) h) j) λk y o=> ?_;exact i<|aL Pm rfl 184320 λc=>c (MX (n+1) _) x (MY (n+1) _) y
def yD (l:List Int) (s:Nat):aM:={cells:=l,io:=0,nr:=0,lH:=s,nm:=lM,H:=[],xs:=[.av [.I 5,.I 0]]}
def EA (n:Nat) (a b:O):qk (aD (n+3) aa) (.c2 2) [] [a,b]=J (.ok<|.ref 2,ek a b lM []):=by
 show br (aD (n+3) aa 4 [.ref 2] [a,b,.a3 2 []]) _=_;refine(U (RG n a b) ?_)
 rfl
def EB (n:Nat) (a b:O) (c:aw):qk (aD (n+3) aa) (.c2 6) [.ref 2,.ref 7] (ek a b c [.X []])=J (.ok<|.ref 8,ek a b c [.X [],Hh,Ja,.X [],.X [],.X [],.X [.av [.I 5,.I 0]],.X [],.dE]):=by
 refine(U Eo ?_)
 kernel_rfl
end
section
open PySem
section
variable {w:aM} {d:List O}
noncomputable def dW:V:=.av [.I 5,.I 0]
def JX (h:k<w.xs.length) (v:V):jh (.ref 13) (.I k) v (mk w d)=J (mk (w.sX<|w.xs.set k v) d):=IV (n:=13) (l:=w.xs) rfl h
def IW (n:Nat) (h:k<w.xs.length) (c:b 0=J (.ref 8)) (e:b 1=J (.I k)):eD (aD n) aa (jj uG.body) (jT uG.body) b (mk w d)=J (.ok .a1 b<|mk w d):=by have h:¬(w.xs.length:Int)<=k:=pJ.mpr<|mX.mpr h;exact ci 41 λa=>a c e<|gP h
def yb (b k:Nat) (v:V) (h:k<=w.xs.length) (i:w.xs.length<ar):aD (b+1) aa 68 [.ref 8,.I k,v] (mk w d)=J (.ok .a6,mk (w.sX<|(w.xs++if k=w.xs.length then[dW]else[]).set k v) d):=by
 refine aZ (k=w.xs.length) (λq=> ?_)<|λq=> ?_
 ·refine U (aK q) ?_;have c:k<(w.xs++[dW]).length:=by refine U bH ?_;exact jX h
  have j:(w.xs.length:Int)<=k:=jV.mpr<|bp q.symm;have s:∀{e:ap},e 0=J (.ref 8)->e 1=J (.I k)->eD (aD b) aa (jj uG.body) (jT uG.body) e (mk w d)=J (.ok .a1 e<|mk (w.sX<|w.xs++[dW]) d):=λ{e} f g=>ci 617 λa=>(a f g (cz j) f<|(jB (n:=13) (o:=.X w.xs) rfl<|jm rfl).trans<|oT rfl i).trans<|IW (w:=w.sX<|w.xs++[dW]) b c f g;exact aL FL rfl 33 λa=>a (s rfl rfl)<|JX (w:=w.sX<|w.xs++[dW]) c v
 ·exact U (aX q)<|U (dI _) (have c:=CK h q;aL FL rfl 33 λa=>a (IW b c rfl rfl)<|JX c v)
def zJ (n:Nat) (g:d[j]?=J (.X [u,v])) (h:w.xs=[dW]\/∃a b,w.xs=[dW,a,b]):aD (n+2) aa 69 [.ref 8,.ref<|be j] (mk w d)=J (.ok .a6,mk (w.sX [dW,u,v]) d):=by
 obtain⟨b,f,k⟩:∃b,aD (n+1) aa 68 [.ref 8,.I (1:Nat),u] (mk w d)=J (.ok .a6,mk (w.sX<|[dW,u]++b) d)/\(b=[]\/∃c,b=[c]):=by
  rcases h with e|⟨a,b,e⟩
  ·have f:=yb (w:=w) (d:=d) n 1 u (by refine U e ?_;decide) (by refine U e ?_;decide);have f:=e▸f;exact ax ([]) f<|.inl rfl
  ·have f:=yb (w:=w) (d:=d) n 1 u (by refine U e ?_;exact hE _ _) (by refine U e ?_;exact jm rfl);have f:=e▸f;exact ax ([b]) f<|.inr ⟨b,rfl⟩
 have l:aD (n+1) aa 68 [.ref 8,.I (2:Nat),v] (mk (w.sX<|[dW,u]++b) d)=J (.ok .a6,mk (w.sX [dW,u,v]) d):=by
  rcases k with rfl|⟨c,rfl⟩
  ·exact yb (w:=w.sX [dW,u]) (d:=d) n 2 v (bE _)<|jm rfl
  ·exact yb (w:=w.sX [dW,u,c]) (d:=d) n 2 v (ig _)<|jm rfl
 exact aL Pu rfl 789512 λe=>e (fA (cq g) (i:=0) rfl) f (fA (cq g) (i:=1) rfl) l<|ix (cq g) (i:=2) rfl
end
end
section
open PySem
def SH:gr []=λ_=>Y:=by funext a;unfold gr;split<;>rfl
def Rq:gR []=λ_=>Y:=by funext a;unfold gR;split<;>rfl
def D9:iK (λ_=>Y)=λ_=>Y:=by funext a;unfold iK;split<;>rfl
def wO:bW .dE (gR []) ([]:cd).length:=by refine U Rq ?_;exact bW.b_
def co.gS {d:List Nat} {c l a:List O} (h:co d (c++l) a) (n:∀j∈d,c.length<=j):co [] c a:=⟨aF (by refine U bH ?_;exact ck _ _) h.1,λi b _=>by rw[h.2 i (by refine U bH ?_;exact dL b<|ck _ _) λm=>lj _<|dL b<|n i m,iW b]⟩
section
variable {w:aM} {c:List O}
def mS (o:O):iJ o (mk w c)=J (.ok<|.ref<|be c.length,mk w<|c++[o]):=am (oq c 0)<|sZ o
def lS {a:List V} (h:ma a.length ar=ac):ew a (mk w c)=J (.ok<|.ref<|be c.length,mk w<|c++[.X a]):=(aK<|jm h).trans<|mS _
def By (n:Nat) {f:cd} (t:fX w.nm w.H [] a l g f) (u:fX w.nm g f b m p k) (v:f.length<=ar):
  ∃d e,aD (n+4) aa 42 [.ref 9,af a,.ref<|be c.length] (mk w<|c++[.dE])=J (.ok<|an l,mk (w.sH g)<|c++d)/\aD (n+4) aa 42 [.ref 9,af b,.ref<|be c.length] (mk (w.sH g)<|c++d)=J (.ok<|an m,mk (w.sH p)<|c++e):=by
 refine cps λB x=> ?_;refine bS (Im (w:=w) (d:=c++[.dE]) n (j:=c.length) (o:=.dE) (tb:=[]) dJ (by refine U SH ?_;exact bW.b_) (cr _) t) λh d q y=> ?_;have z:(c++[O.dE]).set c.length h++d=c++(h::d):=by refine U (x9 (j:=c.length) (i:=0) rfl)<|U (bD _ _ _) ?_;rfl
 rw[z]at q;refine bS (Im (w:=w.sH g) (d:=c++(h::d)) n (j:=c.length) (o:=h) ((qy (i:=0) rfl).trans rfl) y v u) λr e s C=> ?_;have A:(c++(h::d)).set c.length r++e=c++(r::(d++e)):=by refine U (x9 (j:=c.length) (i:=0) rfl)<|U (bD _ _ _) ?_;rfl
 rw[A]at s;refine x ?_;exact cZ _ _ q s
def Ft:cA:=.try [.aN 6<|.bi (.loc 1) [.loc 0]] 7 [.aO<|.dM (.au .Eq (.ao (.loc 3)<|.W<|.I 0)<|.W<|.Z<|S "error")<|.bi (.W<|.aA 92) [.ao (.loc 3)<|.W<|.I 1,.attr (.loc 7) 0,.fZ,.fZ]]
def UN (e:bG g b aa a d=J (.a4 n i k)) (l:(match bG g h ac (aB i x<|.ref n) k with
   |some (.ok f a d)=>J<|.ok f (λj=>if j=x then Y else a j) d|_=>Y)=J r):fj g (.try b x h) aa a d=J r:=by
 show(match bG g b aa a d with
  |some (.a4 n a d)=>match bG g h ac (aB a x<|.ref n) d with|some (.ok f a d)=>J<|bM.ok f (λj=>if j=x then Y else a j) d|_=>Y
  |r=>r)=_
 refine U e ?_;exact l
def UO (e:bG k b aa a d=J (.ok .a1 g i)):fj k (.try b x h) aa a d=J (.ok .a1 g i):=by
 show(match bG k b aa a d with
  |some (.a4 n a d)=>match bG k h ac (aB a x<|.ref n) d with|some (.ok f a d)=>J<|bM.ok f (λj=>if j=x then Y else a j) d|_=>Y
  |r=>r)=_
 exact U e rfl
def JF (m:Nat) (g:e 0=J (.ref 8)) (h:e 1=J (.aA k)) (z:aD m aa k [.ref 8] f=J (.ok<|.ad b,d)):fj (aD m) Ft aa e f=J (.ok .a1 (aB e 6<|.ad b) d):=UO<|by exact ia 7 λa=>a h g z
def UM (a d:Nat) {o:T} {p r:cd} (z:aD (a+d+2) aa k [.ref 8] (mk w c)=J (.error<|aC c i,mk h<|c++l)) (t:l[i]?=J (jD e)) (u:hg o e [] [] p r) (x:o.a0<=d) (A:p.length<=ar) (B:r.length<=ar):
  ∃f,(∀g:ap,g 0=J (.ref 8)->g 1=J (.aA k)->g 3=J (jE o)->fj (aD<|a+d+2) Ft aa g (mk w c)=J (.ok (.aO<|.ad ac) (λj=>if j=7 then Y else aB g 7 (.ref<|aC c i) j)<|mk h f))/\co [] c f:=by
 refine eY (Hg (w:=h) (a7:=ac) (P:=(c++l).length) (R:=(c++l++[O.dE]).length) (by refine U (d_ _ _) ?_;exact dQ<|iE _) u d a (c++l++[.dE]++[.dE]) .dE .dE x A B (cG dJ) dJ wO wO) λf E F y K _=> ?_;refine ax f (λg C D s=>UN (i:=g) (k:=mk h<|c++l) (n:=aC c i) (by exact ia 7 λb=>b D C z) ?_)<|?_
 ·have q:bG (aD<|a+d+2) [.aO<|.dM (.au .Eq (.ao (.loc 3)<|.W<|.I 0)<|.W<|.Z<|S "error")<|.bi (.W<|.aA 92) [.ao (.loc 3)<|.W<|.I 1,.attr (.loc 7) 0,.fZ,.fZ]] ac (aB g 7<|.ref<|aC c i) (mk h<|c++l)=J (.ok (.aO<|.ad ac) (aB g 7<|.ref<|aC c i)<|mk h f):=ia 3874 λb=>b s s (s_ (v:=af e) t rfl) (mS .dE) (mS .dE) y;exact U q rfl
 ·rw[bD,bD]at K;refine K.gS λj m=> ?_;rcases bY.mp m with rfl|m
  ·exact U bH<|ck _ _
  ·exact U (dk.mp m)<|U bH<|ck _ _
def LX (n d:Nat) {s:T} {o D E:cd} (A:c[B]?=J (.X [af a,af b])) (H:w.xs=[dW]\/∃a b,w.xs=[dW,a,b]) (I:fX w.nm w.H [] a q C o) (L:fX w.nm C o b r t y) (M:o.length<=ar)
  (N:∀c,∃l f,aD (n+d+11) aa k [.ref 8] (mk ((w.sH t).sX [dW,an q,an r]) c)=J (.error<|aC c f,mk F<|c++l)/\l[f]?=J (jD e)) (O:hg s e [] [] D E) (P:s.a0<=d) (Q:D.length<=ar) (R:E.length<=ar):
  ∃g,aD (n+d+12) aa 94 [.ref 8,.aA k,.ref<|be B,jE s] (mk w c)=J (.ok<|.ad ac,mk F g)/\co [] c g:=by
 refine cps λa2 S=> ?_;refine bS (By (c:=c) (n+d+7) I L M) λU p V Y=> ?_;have a0:=zJ (w:=w.sH t) (d:=c++p++[.X [an q,an r]]) (n+d+9) (j:=(c++p).length) (u:=an q) (v:=an r) dJ H;refine bS (N<|c++p++[.X [an q,an r]]) λl f z a1=> ?_;rw[show n+d+11=n+9+d+2 by exact iD (aI<|aj [_,_] [] [.n 1 (.a (.a (.a (.a Z<|.k 9) G) u2) W)<|.a (.a Z G)<|.k 11] rfl)<|aI<|aj [_,_] [] [.n 1 (.a (.a (.a Z G)<|.k 11) W)<|.a (.a (.a Z<|.k 9) G) u2] rfl]at z;refine ah (UM (n+9) d z a1 O P Q R) λg x K=> ?_;rw[show n+9+d+2=n+d+11 by exact iD (aI<|aj [_,_] [] [.n 1 (.a (.a (.a Z G)<|.k 11) W)<|.a (.a (.a Z<|.k 9) G) u2] rfl)<|aI<|aj [_,_] [] [.n 1 (.a (.a (.a (.a Z<|.k 9) G) u2) W)<|.a (.a Z G)<|.k 11] rfl]at x;have K:=(bD _ _ _)▸K;refine S ?_;refine(ax g (?_)<|K.gS<|λ_ m=>nomatch m);exact aL AI rfl 417345553 λh=>h (mS (c:=c) .dE) (fA (f_ A) (i:=0) rfl) V (fA (f_ A) (i:=1) rfl) Y (ix (f_ A) (i:=2) rfl) (lS (a:=[an q,an r]) rfl) a0<|x _ rfl rfl rfl
end
end
section
open PySem
section
variable {w:aM} {e:List O}
def LY (n d:Nat) {t:List Nat} {r:cd} (M:t.Nodup) (D:t.length<=1000) (E:e[F]?=J (.X [af a,af b])) (N:e[H]?=J (.X [.av [af f,af s]])) (P:w.xs=[dW]\/∃a b,w.xs=[dW,a,b]) (Q:fX w.nm w.H [] a p I r) (R:fX w.nm I r b q A B) (V:r.length<=ar)
  (a0:∀e,∃l,aD (n+d+4) aa k [.ref 8] (mk ((w.sH A).sX [dW,an p,an q]) e)=J (.ok<|.ad aa,mk C<|e++l)) (a1:fE t d (λ_=>Y) f s aa L):
  ∃g,aD (n+d+5) aa 94 [.ref 8,.aA k,.ref<|be F,.av [.Z<|S "holds",.ref<|be H]] (mk w e)=J (.ok<|.ad ac,mk C g)/\co [] e g:=by
 refine cps λa9 a2=> ?_;refine bS (By (c:=e) (n+d) Q R V) λa3 h a4 a5=> ?_;have a6:=zJ (w:=w.sH A) (d:=e++h++[.X [an p,an q]]) (n+d+2) (j:=(e++h).length) (u:=an p) (v:=an q) dJ P;obtain⟨l,z⟩:=a0<|e++h++[.X [an p,an q]];obtain⟨c,a7⟩:∃c,c=h++[O.X [an p,an q]]++l:=⟨_,rfl⟩;rw[bD e,bD e, <-a7, <-bD e]at z;have a8:kP t (λ_=>Y)=0:=by simp[kP]
 refine bF (Hi (w:=C) M D a1 n (e++c++[.dE]) .dE (j:=(e++c).length) dJ<|by refine U D9<|U a8 ?_;exact bW.b_) λg b0 y K _=> ?_;rw[bD]at K;refine a2 ?_;refine(ax g (?_)<|K.gS λx m=>by refine U (dk.mp m)<|U bH ?_;exact ck _ _);exact aL AI rfl 17876071231505 λo=>o (mS (c:=e) .dE) (fA (f_ E) (i:=0) rfl) a4 (fA (f_ E) (i:=1) rfl) a5 (ix (f_ E) (i:=2) rfl) (lS (a:=[an p,an q]) rfl) a6 (JF _ rfl rfl z) (mS (c:=e++c) .dE) (fA (f_<|cG N) (i:=0) rfl) y
structure zy (e:List O) (jA jB jC j1 j2 j3:Nat) (lA lC:List V) (B:er) (k:Nat) (tb:List Nat) (th bk:cd):Prop where
 a:e[jA]?=J (.X lA)
 b:∃o,e[jB]?=J o/\bW o (iK B) k
 c:e[jC]?=J (.X lC)
 XH:∃o,e[j1]?=J o/\bW o (iU tb) tb.length
 XI:∃o,e[j2]?=J o/\bW o (gR th) th.length
 XK:∃o,e[j3]?=J o/\bW o (gR bk) bk.length
def JK (n d:Nat) {R S:List V} {q r:cd} {y:T} (L:zy e I u M b f i R S B k X a0 a1)
  (z:b≠f) (A:b≠i) (N:f≠i) (b2:I<b) (b3:u<b) (b4:M<b) (a4:b<f/\b<i) (F:kF B d a y) (b5:y.a0<=d) (b6:bu w.H a2 a3) (b7:db w.nm w.H 0 (λ_=>Y) X [] [(aa,a3)] [E] x) (b8:hg y E a0 a1 q r) (b9:q.length<=ar) (c0:r.length<=ar):
  ∃l C s,aD (n+d+4) aa 91 [af a,.ref<|be u] (mk w e)=J (.ok<|af y,mk w<|e++l)/\aD (n+d+4) aa 43 [.ref 9,an a2,.ref<|be b] (mk w<|e++l)=J (.ok<|af E,mk w C)/\aD (n+d+4) aa 92 [af y,af E,.ref<|be f,.ref<|be i] (mk w C)=J (.ok<|.ad ac,mk w s)/\zy s I u M b f i R S B k x q r/\co [b,f,i] e s:=by
 obtain⟨c1,⟨a5,a6,a7⟩,c2,⟨e0,a8,c3⟩,⟨c4,c5,c6⟩,⟨c7,c8,c9⟩⟩:=L;obtain⟨l,a9⟩:=F w (n+2) e u k a5 ((lG w e u).trans a6) a7;refine bS (Jm (w:=w) (g:=e++l) (n+d) (cG a8) c3 b6 b7) λc H d0 d1=> ?_;have g:∀{p:Nat} {o:O},e[p]?=J o->b≠p->((e++l).set b c++H)[p]?=J o:=λh d2=>cG (by refine cJ (ge d2) ?_;exact cG h);have d3:((e++l).set b c++H)[b]?=J c:=cG (gX<|dL (cK.mp a8).1<|by refine U bH ?_;exact ck _ _);refine nV (Hg (w:=w) (a7:=aa) (P:=f) (R:=i) N b8 d (n+2) ((e++l).set b c++H) c4 c7 b5 b9 c0 (g c5 z) (g c8 A) c6 c9) λD P Q b0 K d4 d5 d6 d7=> ?_;rw[show n+2+d+2=n+d+4 by exact iD (aI<|aj [_,_] [] [.n 1 (.a (.a (.a Z G)<|.k 4) W)<|.a (.a (.a Z u2) G) u2] rfl)<|aI<|aj [_,_] [] [.n 1 (.a (.a (.a (.a Z u2) G) u2) W)<|.a (.a Z G)<|.k 4] rfl]at a9 b0
 have d8:∀{p},p<b->p∉[f,i]:=λ{p} h m=>by
  rcases bY.mp m with rfl|m
  ·exact KA h a4.1
  ·rw[dk.mp m]at h;exact KA h a4.2
 have d9:b∉[f,i]:=λm=>(bY.mp m).elim z λm=>A<|dk.mp m;have t:∀{p:Nat} {o:O},e[p]?=J o->p<b->D[p]?=J o:=λh b1=>K.d6 (g h<|me b1)<|d8 b1;exact lr l _ D a9 d0 b0 ⟨t c1 b2,ax a5 (t a6 b3) a7,t c2 b4,ax c (K.d6 d3 d9) d1,ax P d4 d6,ax Q d5 d7⟩<|(((co.c4 _ e l).trans<|co.set (j:=b)<|.head _).trans<|co.c4 _ _ H).trans<|K.sub<|λ_ m=>.tail _ m
def Uy:iU []=λ_=>Y:=by funext a;unfold iU;split<;>rfl
def LZ (n d:Nat) {M:List Nat} {a4 a5:T} {B:cd} {C D P Q:cd} {r:aM} {R:er} (c5:M.Nodup) (a8:M.length<=1000) (a1:e[a3]?=J (.X [af a,af b])) (c0:e[b3]?=J (.X [.av [af q,af N]])) (c6:w.xs=[dW]\/∃a b,w.xs=[dW,a,b]) (c7:fX w.nm w.H [] a s b8 B) (c8:fX w.nm b8 B b t a6 a7) (c9:B.length<=ar)
  (d0:∀e,∃l,aD (n+d+4) aa k [.ref 8] (mk ((w.sH a6).sX [dW,an s,an t]) e)=J (.ok<|.ad ac,mk r<|e++l)) (d1:fE M d (λ_=>Y) q N ac R)
  (d2:kF R d a a4) (d3:kF R d b a5) (d4:a4.a0<=d) (d5:a5.a0<=d) (d6:bu r.H s b6) (d7:bu r.H t b7) (d8:db r.nm r.H 0 (λ_=>Y) [] [] [(aa,b6)] [b4] b9) (d9:db r.nm r.H 0 (λ_=>Y) b9 [] [(aa,b7)] [b5] c4) (e0:hg a4 b4 [] [] C D) (e1:hg a5 b5 C D P Q) (e2:C.length<=ar) (e3:D.length<=ar) (e4:P.length<=ar) (e5:Q.length<=ar):
  ∃f,aD (n+d+5) aa 94 [.ref 8,.aA k,.ref<|be a3,.av [.Z<|S "holds",.ref<|be b3]] (mk w e)=J (.ok<|.ad ac,mk r f)/\co [] e f:=by
 refine cps λe6 V=> ?_;refine bS (By (c:=e) (n+d) c7 c8 c9) λe7 g e8 e9=> ?_;have f0:=zJ (w:=w.sH a6) (d:=e++g++[.X [an s,an t]]) (n+d+2) (j:=(e++g).length) (u:=an s) (v:=an t) dJ c6;obtain⟨l,z⟩:=d0<|e++g++[.X [an s,an t]];obtain⟨c,c1⟩:∃c,c=g++[O.X [an s,an t]]++l:=⟨_,rfl⟩;have f1:(e++c)[(e++g).length]?=J (.X [an s,an t]):=by refine U c1<|am (bD _ _ _)<|am (bD _ _ _) ?_;exact cG dJ
 rw[bD e,bD e, <-c1, <-bD e]at z;have f2:kP M (λ_=>Y)=0:=by simp[kP]
 refine dx (Hi (w:=r) c5 a8 d1 n (e++c++[.dE]) .dE (j:=(e++c).length) dJ<|by refine U D9<|U f2 ?_;exact bW.b_) λf c2 y K a9 f3=> ?_;have E:∀{p:Nat} {o:O},(e++c)[p]?=J o->f[p]?=J o:=λh=>K.d6 (cG h) λm=>dQ (cK.mp h).1<|dk.mp m;have F:=E<|cG a1;have H:=E f1;have f4:∀{a b:O},(f++[a]++[b]++[O.dE])[(e++c).length]?=J c2:=cG<|cG<|cG a9;have a2:zy (f++[.dE]++[.dE]++[.dE]) a3 (e++c).length (e++g).length f.length (f++[O.dE]).length (f++[O.dE]++[O.dE]).length [af a,af b] [an s,an t] R (kP M R) [] [] []:=⟨cG<|cG<|cG F,ax c2 f4 f3,cG<|cG<|cG H,(ax (.dE) (cG<|cG dJ)<|by refine U Uy ?_;exact bW.b_),ax (.dE) (cG dJ) wO,ax (.dE) dJ wO⟩;have I:∀{p:Nat} {o:O},f[p]?=J o->p<f.length:=λh=>(cK.mp h).1;have L:f.length<(f++[O.dE]).length:=by refine U (d_ _ _) ?_;exact iE _
 have b0:(f++[O.dE]).length<(f++[O.dE]++[O.dE]).length:=by refine U (d_ (f++[O.dE]) _) ?_;exact iE _
 have a0:=iF L b0;refine kE (JK (w:=r) n d a2 (dQ L) (dQ a0) (dQ b0) (I F) (I a9) (I H) ⟨L,a0⟩ d2 d4 d6 d8 e0 e2 e3) λg7 f5 f6 f7 f8 f9 b1 g0=> ?_;refine kE (JK (w:=r) n d b1 (dQ L) (dQ a0) (dQ b0) (I F) (I a9) (I H) ⟨L,a0⟩ d3 d5 d7 d9 e1 e4 e5) λg1 g2 b2 g3 g4 g5 g8 g6=> ?_;rw[bD]at K;have K:=(K.gS λx m=>by refine U (dk.mp m)<|U bH ?_;exact ck _ _);have c3:=g0.trans g6;rw[bD,bD]at c3;refine V ?_;refine(ax b2 (?_)<|K.trans<|c3.gS λx m=> ?_)
 ·exact aL AI rfl 11457011845086046610180288529 λA=>A (mS (c:=e) .dE) (fA (f_ a1) (i:=0) rfl) e8 (fA (f_ a1) (i:=1) rfl) e9 (ix (f_ a1) (i:=2) rfl) (lS (a:=[an s,an t]) rfl) f0 (JF _ rfl rfl z) (mS (c:=e++c) .dE) (fA (f_<|cG c0) (i:=0) rfl) y (ix (cq<|E<|cG c0) (i:=1) rfl) (mS .dE) (mS .dE) (mS .dE) (mD aa _<|cq a2.a) (pt aa) (iq (cq a2.a) (i:=0) rfl) f7 (iq (f_ a2.c) (i:=0) rfl) f8 f9 (iq (cq b1.a) (i:=1) rfl) g3 (iq (f_ b1.c) (i:=1) rfl) g4 g5
 ·refine cps λe6 V=> ?_;rcases bY.mp m with rfl|m
  ·exact V<|bE _
  ·rcases bY.mp m with rfl|m
   ·exact V<|ky L
   ·exact V<|U (dk.mp m)<|am (bD _ _ _)<|ky a0
end
end
section
open PySem
section
variable {H:Bool->Nat->List V->ae->R V} {g:Bool} {d L:ap} {o B:ae} {Q u:List cA} {r:cx} {c:a_}
def om (h:bG H Q g d o=J (.ok .a1 L B)) (a:bG H u g L B=r):bG H (Q++u) g d o=r:=by
 induction Q generalizing d o with
 |nil=>cases h;exact a
 |cons s Q b=>
  have h:sT (fj H s g d o) (λd o=>bG H Q g d o)=J (.ok .a1 L B):=h;show sT (fj H s g d o) (λd o=>bG H (Q++u) g d o)=r;cases e:fj H s g d o with
  |none=>have h:=e▸h;exact aq h|some x=>
   rw[e]at h;obtain⟨_|_,c,i⟩|⟨_,_,_⟩:=x
   ·exact b h
   ·cases h
   ·cases h
   ·cases h
def yi (h:aU (H g) g c d o=J (.ok<|.ad ac,B)) (b:bG H Q g d B=J (.ok .a1 L a)):bG H [.aQ c Q u] g d o=J (.ok .a1 L a):=by
 show sT (fg (aU (H g) g c d o) d _) _=_;refine U h ?_;show sT (bG H Q g d B) _=_;refine(U b ?_)
 rfl
def yh (h:aU (H g) g c d o=J (.ok<|.ad aa,B)):bG H [.aQ c Q []] g d o=J (.ok .a1 d B):=by
 show sT (fg (aU (H g) g c d o) d _) _=_;refine(U h ?_)
 rfl
end
def SA {w:aM} {f:List O} (n:Nat) {c:ag} (X:rH w k c e j) (m:jd w) (h:kc 65 w e c j A):wA w f A<|aD (n+12) aa 101 [.ref 8]<|mk w f:=by
 have p:=Bu (w:=w) (τ:=f) n (.inr<|.inr rfl) X m h;cases A with
 |a4 t b=>exact bS p λl i z q=>cZ l i (by exact aL Fv rfl 2 λa=>a z) q
 |ok b i=>exact bw p λl z=>⟨l,by exact aL Fv rfl 2 λa=>a z⟩
def F6 {o:ae} (h:b<a):ex .Gt (.I a) (.I b) o=J ac:=al J<|decide_eq_true h
def F5 {o:ae} (h:¬b<a):ex .Gt (.I a) (.I b) o=J aa:=al J<|decide_eq_false h
def gW {d:ap} (h:i≠x):aB d x v i=d i:=by exact cJ (qX _ _ _ _)<|aX h
noncomputable def kO (m:Nat):a_:=.bi (.W<|.aA 87) [.loc 2,.W<|.I m]
def Fm:List cA:=[.aN 10<|.av [.W<|.Z<|S "s",.W<|.I 13,.av [.aQ (.au .Eq (kO 2)<|.W<|.I 0) (.loc 10)<|.av [.W<|.Z<|S "i",.W<|.I 1],.bi (.W<|.aA 96) [.loc 2,.loc 3]]]]
def uE:a_:=.dM (.au .Eq (.loc 6)<|.W<|.I 2)<|.or (.gd<|.loc 8)<|.au .Gt (kO 4)<|.W<|.I 0
def Fk:List cA:=[.aQ uE Fm []]
def Fl:List cA:=[.aQ (.dM (.au .NotEq (.loc 7)<|.X [])<|.au .Eq (kO 4)<|.W<|.I 3) [.aN 10<|.ao (.loc 7)<|.bi (.W<|.aA 87) [.loc 2,.bZ .bb [.loc 7]]] []]
def wX:List cA:=[.aN 10<|.bi (.W<|.aA 97) [.loc 2,.loc 3,.W<|.I 2]]++(Fk++(Fl++[.cu<|.aS (.loc 7) 0 [.loc 10]]))
section
variable {w:aM} {f:List O}
def fV (a:aw) (t:T):Prop:=t.a0<=3/\(∀n,t.has n->n=0)/\bv a t
theorem fV.a2 (h:cP k a b) (i:fV a t):fV b t:=bB (i.1) (i.2.1)<|i.2.2.a2 h
def JV (n:Nat) {t:T} (F:dS 1 w) (g:t.a0<=2) (K:∀n,t.has n->n=0) (M:bv w.nm t) (r:∃a,w.nm.aW[13]?=J (a,2)):∃(A:T) (s:aM),eF 1 w s/\fV s.nm A/\∀(f:List O) (d:ap),d 2=J (.ref 1)->d 3=J (.ref 2)->d 10=J (af t)->∃l,bG (aD<|n+2) Fm aa d (mk w f)=J (.ok .a1 (aB d 10<|af A)<|mk s<|f++l):=by
 refine cps λa0 C=> ?_;refine dx (hV (n+1) 2 (by decide) (by decide) F.1 F.2.1) λv N a2 E a3 I=> ?_;refine gz (A7 (w:=N) n<|E.c8 (j:=0)<|by refine U (eb _) ?_;exact F) λy p P R S V z=> ?_;have D:=E.trans P;refine bw r λa X=> ?_;have h:∀x:T,x.a0<=2->(∀n,x.has n->n=0)->bv p.nm x->fV p.nm (.ak 13 x y):=λx Y c k=>Dv (dv<|nM.mpr ⟨Y,by refine U R ?_;exact cr _⟩) (λn e=>e.elim (c n)<|S n) ⟨a,D.dN.e5 X⟩ k V;refine aZ ((v:Int)=0) (λq=> ?_)<|λq=> ?_
 ·exact C<|(dD (.ak 13 t y) p (D.a2<|bE _) (h t g K<|M.a2 D.dN)<|λf d c k m=>bw (z f) λl z=>⟨l,by exact ia 247 λb=>b c (I f) (gH q) m c k z⟩)
 ·exact C<|(dD (.ak 13 (.i 1) y) p (D.a2<|bE _) (h (.i 1) (cr _) (λ_ e=>e.elim) trivial)<|λf d c k m=>bw (z f) λl z=>⟨l,by exact ia 119 λb=>b c (I f) (dt q) c k z⟩)
def Sh (n:Nat) {t:T} (F:dS 1 w) (g:t.a0<=2) (E:∀n,t.has n->n=0) (K:bv w.nm t) (y:∃a,w.nm.aW[13]?=J (a,2)):∃(r:T) (k:aM),eF 1 w k/\fV k.nm r/\∀(f:List O) (d:ap),d 2=J (.ref 1)->d 3=J (.ref 2)->d 6=J (.I h)->d 8=J (.ad s)->d 10=J (af t)->∃l L,bG (aD<|n+2) Fk aa d (mk w f)=J (.ok .a1 L<|mk k<|f++l)/\L 10=J (af r)/\∀i,i≠10->L i=d i:=by
 have R:fV w.nm t:=bB (lh g) E K;refine aZ ((h:Int)=2) (λq=> ?_)<|λq=> ?_
 ·cases s with
  |false=>exact bF (JV (w:=w) n F g E K y) λr k D a z=>(dD r k D a<|λf d m A p x e=>bw (z f d m A e) λl z=>dD l _ (yi (c:=uE) (B:=mk w f) (by exact iV 38 λb=>b p (gH q) x) z) rfl<|λi M=>gW M)
  |true=>
   refine dx (hV (n+1) 4 (by decide) (by decide) F.1 F.2.1) λv N X C V S=> ?_;refine aZ ((0:Int)<v) (λP=> ?_)<|λP=> ?_
   ·refine bF (JV (w:=N) n (C.c8 (j:=0)<|by refine U (eb _) ?_;exact F) g E (K.a2 C.dN)<|by refine U V ?_;exact y) λr k D a z=> ?_;exact(dD r k ((C.trans D).a2<|bE _) a<|λf d m A p x e=>bw (z f d m A e) λl z=>dD l _ (yi (c:=uE) (B:=mk N f) (by exact iV 1830 λb=>b p (gH q) x m (S f)<|F6 P) z) rfl<|λi M=>gW M)
   ·exact dD t N (C.a2<|cr _) (R.a2 C.dN)<|λf d m A p x e=>dD ([]) d (yh (c:=uE)<|by refine U (dI _) ?_;exact iV 1830 λb=>b p (gH q) x m (S f)<|F5 P) e<|λ_ _=>rfl
 ·exact dD t w ⟨rfl,rfl,rfl,F.1,F.2.1,(cP.b1 _).a2<|cr _⟩ R<|λf d m A p x e=>dD ([]) d (yh (c:=uE)<|by refine U (dI _) ?_;exact iV 6 λb=>b p<|dt q) e<|λ_ _=>rfl
theorem EZ:∀{a:List T},(∀x∈a,x.a0<=3)->hP 59 (a.map af)=ac|[],_=>rfl|x::r,h=>by show(gQ 59 (af x)&&hP 59 (r.map af))=ac;refine U (qt x 59<|aF (ha (pL 2<|h x<|.head _) 2)<|by decide)<|U (EZ λy b=>h y<|.tail _ b) ?_;rfl
def Bg {a:List T} (b:hP 59 (a.map af)=ac) (c:f[j]?=J (.X<|a.map af)):ex .NotEq (.ref<|be j) (.ref<|aC f 0) (mk w<|f++[.X []])=J (!mI (a.map af) []):=by
 refine congrArg (hm nK) (a₂:=J _) ?_
 show(match(mk w<|f++[O.X []])[be j]?,(mk w<|f++[O.X []])[aC f 0]?with
  |some (.X l),J (.X k)=>if hP 59 l&&hP 59 k then J<|mI l k else Y|_,_=>Y)=_
 exact(U (f_ c)<|U dB<|if_pos<|by refine U b ?_;rfl)
def SW (n:Nat) {A:List T} (F:dS 0 w) (K:fV w.nm t) (p:∀x∈A,fV w.nm x) (V:A.length<=100):∃(M:T) (C:aM),eF 0 w C/\fV C.nm M/\∀(f:List O) (d:ap) (a:Nat),f[a]?=J (.X<|A.map af)->d 2=J (.ref 1)->d 7=J (.ref<|be a)->d 10=J (af t)->∃l L,bG (aD<|n+1) Fl aa d (mk w f)=J (.ok .a1 L<|mk C<|f++l)/\L 10=J (af M)/\∀i,i≠10->L i=d i:=by
 have D:=EZ λx m=>(p x m).1;cases A with
 |nil=>exact dD t w ⟨rfl,rfl,rfl,F.1,F.2.1,cP.b1 _⟩ K<|λf d a h q k c=>dD ([.X []]) d (by exact ia 14 λb=>b k (cX (a:=[]) rfl)<|Bg D h) c<|λ_ _=>rfl|cons x r=>
  refine dx (hV (w:=w) n 4 (by decide) (by decide) F.1 F.2.1) λv s a6 z a7 N=> ?_;have P:dS 0 s:=z.c8 (j:=0) F;refine aZ ((v:Int)=3) (λE=> ?_)<|λE=> ?_
  ·refine dx (hV (w:=s) n (r.length+1) (hF _) (Cr (jV.mpr V)<|by decide) P.1 P.2.1) λe Y a0 R a8 a3=> ?_;obtain⟨y,S⟩:∃y,(x::r)[e]?=J y:=⟨_,fd a0⟩;refine(dD y Y (z.trans R) ((p _<|em S).a2 (z.trans R).dN)<|λf d a h q k c=>dD ([.X []]) (aB d 10<|af y) (?_) rfl<|λi a4=>gW a4);have a5:e_ aa .bb [.ref<|be a] (mk s<|f++[.X []])=J (.ok<|.I (r.length+1:Nat),mk s<|f++[.X []]):=(mD aa _<|f_ h).trans (by refine U (bX _) ?_;rfl);exact ia 32494 λb=>b k (cX (a:=[]) rfl) (Bg D h) q (N _) (gH E) k q k a5 (a3 _)<|iq (f_ h)<|jG S
  ·exact dD t s z (K.a2 z.dN)<|λf d a h q k c=>dD ([.X []]) d (by exact ia 238 λb=>b k (cX (a:=[]) rfl) (Bg D h) q (N _)<|dt E) c<|λ_ _=>rfl
end
end
section
open PySem
section
variable {j:Nat}
structure nj (kind j:Nat) (s:Bool) (ρ:ap):Prop where
 cw:ρ 2=J (.ref 1)
 cv:ρ 3=J (.ref 2)
 fx:ρ 6=J (.I kind)
 fa:ρ 7=J (.ref<|be j)
 F9:ρ 8=J (.ad s)
def nj.of {j:Nat} (h:nj a j s c) (o:∀i,i<9->b i=c i):nj a j s b:=⟨(o 2<|by decide).trans h.cw,(o 3<|by decide).trans h.cv,(o 6<|by decide).trans h.fx,(o 7<|by decide).trans h.fa,(o 8<|by decide).trans h.F9⟩
def hL (a:aw):Prop:=a.aW[0]?=J (1,2)/\a.aW[13]?=J (3,2)
def hL.a2 (h:cP k a b) (f:hL a):hL b:=⟨h.e5 f.1,h.e5 f.2⟩
def FU {j:ap} (h:eO i g=J (J (v,a))) (z:bG d f e (aB j x v) g=J (.ok .a1 b c)):dZ d e x f i j g=dZ d e x f a b c:=FT h z
def QF (n:Nat) {a:aM} {f:List T} (F:dS 23 a) (Q:hL a.nm) (E:∀t∈f,fV a.nm t) (R:f.length<=100) (S:d[j]?=J (.X<|f.map af)) (L:nj e j c h):
  ∃(q:ap) (H:aM) (l:List O) (t:T),bG (aD<|n+5) wX aa h (mk a d)=J (.ok .a1 q<|mk H l)/\eF 23 a H/\fV H.nm t/\l[j]?=J (.X<|(f++[t]).map af)/\co [j] d l/\∀i,i≠10->q i=h i:=by
 refine cps λb6 a0=> ?_;refine gz (QD 2 n a (mu (F.1) (F.2.1) (dK (hD (show fk 2<=23 by decide) _) F.2.2.1)<|dK (hD (show fk 2<=23 by decide) _) F.2.2.2) ⟨1,Q.1⟩) λV Y r a3 a4 a5 I=> ?_;have a7:fk 2=22:=rfl;have r:=a7▸r;refine bF (Sh (w:=Y) (h:=e) (s:=c) (n+3) (r.c8 (j:=22) F) a3 a4 a5 ⟨3,(Q.a2 r.dN).2⟩) λb7 a8 a9 b0 K=> ?_;have m:=r.trans a9;refine bF (SW (w:=a8) (A:=f) (n+4) (m.c8 (j:=23) (k:=0) F) b0 (λx b=>(E x b).a2 m.dN) R) λz A b1 b2 M=> ?_;have D:=m.trans b1;refine bw (I d) λg I=> ?_;refine bF (K (d++g) (aB h 10<|af V) L.cw L.cv L.fx L.F9 rfl) λp u K N v=> ?_;have v:∀i,i≠10->u i=h i:=λi x=>(v i x).trans<|gW x;refine bF (M (d++g++p) u j (cG<|cG S) ((v 2<|by decide).trans L.cw) ((v 7<|by decide).trans L.fa) N) λy o M P B=> ?_;have B:∀i,i≠10->o i=h i:=λi x=>(B i x).trans<|v i x;have b3:o 7=J (.ref<|be j):=(B 7<|by decide).trans L.fa;have C:(d++g++p++y)[j]?=J (.X<|f.map af):=cG<|cG<|cG S;have b4:lK (.ref<|be j) 0 (mk A<|d++g++p++y)=J (be j):=po (cq C) rfl
 have b5:fM (aD (n+5) aa) (be j) 0 [af z] (mk A<|d++g++p++y)=J (.ok .a6,mk A<|(d++g++p++y).set j<|.X<|f.map af++[af z]):=by rw[jB (cq C)<|jm rfl,oT (cq C) (by refine U (bX _) ?_;exact dK R<|by decide),vg]
 refine a0 ?_;refine nd o A ((d++g++p++y).set j<|.X<|f.map af++[af z]) z (?_) (D.a2<|bE _) b2 (?_) (?_) B
 ·exact om (L:=aB h 10<|af V) (B:=mk Y<|d++g) (by exact ia 7 λb=>b L.cw L.cv I) (om K<|om M<|by exact ia 15 λb=>b b3 b4 P b5)
 ·exact U g_<|gX (cK.mp C).1
 ·exact U (bD _ _ _)<|U (bD _ _ _)<|(co.c4 _ d _).trans<|co.set<|.head _
def QH (n:Nat):∀(l:List V) (b:aM) (p:List O) (e:ap) (f:List T),dS (l.length*23) b->hL b.nm->(∀t∈f,fV b.nm t)->f.length+l.length<=50->p[j]?=J (.X<|f.map af)->nj o j c e->
  ∃(A:ap) (H:aM) (u:List O) (d:List T),dZ (aD<|n+5) aa 9 wX (.b8 l) e (mk b p)=J (.ok .a1 A<|mk H u)/\eF (l.length*23) b H/\d.length=f.length+l.length/\(∀t∈d,fV H.nm t)/\u[j]?=J (.X<|d.map af)/\co [j] p u/\∀i,i<9->A i=e i:=by
 intro l
 induction l with
 |nil=>intro b p e f F I g K M L;exact Dy e b p f (hR rfl) ⟨rfl,rfl,rfl,F.1,F.2.1,(cP.b1 _).a2<|cr _⟩ rfl g M (co.b1 _ _)<|λ_ _=>rfl|cons v l a0=>
  intro b p e f F I g K M L
  have B:23+l.length*23=(l.length+1)*23:=by exact U (Nat.succ_mul _ _)<|U (l_ _ _) rfl
  have F:=(hB B)▸(gY▸F);refine U gY<|am B ?_;have N:f.length+1+l.length<=50:=by refine U (gv _ _ _) ?_;exact K
  have C:∀i,i<9->aB e 9 v i=e i:=λi a3=>gW<|dQ a3;refine oN (QF (j:=j) n (h:=aB e 9 v) (e:=o) (c:=c) (f:=f) (a:=b) (d:=p) (bB (F.1) (F.2.1) (by have:=F.2.2;exact⟨bo<|aj [_,_] [] [.n 1 (.a (.a Z<|.a (.k 23)<|.r G 23) W)<|.k 900000,.n 1 (.k 900000)<|.a Z<|.k 23] rfl this.1,bo<|aj [_,_] [] [.n 1 (.a (.a Z<|.a (.k 23)<|.r G 23) W)<|.k 900000,.n 1 (.k 900000)<|.a Z<|.k 23] rfl this.2⟩)) I g (aF (aF (ck _ _) K)<|by decide) M<|L.of C) λD a4 P t z E a5 Q a6 a7=> ?_;have q:∀i,i<9->D i=e i:=λi h=>(a7 i<|dQ<|iF h<|by decide).trans<|C i h
  refine Dq (a0 a4 P D (f++[t]) (E.c8 F) (I.a2 E.dN) (λx a8=>by
   rcases fB.mp a8 with m|m
   ·exact(g x m).a2 E.dN
   ·refine U (dk.mp m) ?_;exact a5) (by refine U (d_ _ _) ?_;exact N) Q<|L.of q) λR a9 S d y b0 b1 b2 Y b3 b4=> ?_
  refine(Dy R a9 S d (?_) (E.trans b0) (by refine U b1<|U (d_ _ _)<|U (gv _ _ _) ?_;rfl) b2 Y (a6.trans b3)<|λi h=>(b4 i h).trans<|q i h);exact(FU rfl z).trans y
end
end
section
def ba (j:aw) (H:bh) (e:ag):T->Prop|.v a=>e=.ref a/\H[a]?=J (.ref a)|.a k=>e=.a5 k|.i z=>e=.I z|.ay f t=>∃b x,bV j H e f 1 b/\f≠0/\bU e=2/\H[b]?=J x/\∃d,bu H x d/\ba j H d t|.ak f t u=>∃b x y,bV j H e f 2 b/\bU e=(if f=0 then 3 else 2)/\H[b]?=J x/\H[b+1]?=J y/\(∃d,bu H x d/\ba j H d t)/\∃d,bu H y d/\ba j H d u
def bK (j:aw) (H:bh) (c:ag) (t:T):Prop:=∃d,bu H c d/\ba j H d t
section
variable {j:aw} {H:bh} {c d e:ag} {t u:T}
def bu.h8 (h:bu H c d):bU c≠0->c=d:=by
 cases h with
 |dG _=>exactλ_=>rfl|eI _=>exactλn=>(n rfl).elim|cT=>exactλn=>(n rfl).elim
def bu.c7 {a:Nat} {C:Prop} (h:bu H (.ref a) d) (f:H[a]?=J (.ref a)-> .ref a=d->C) (g:∀x,H[a]?=J x->x≠.ref a->bu H x d->C):C:=by
 cases h with
 |dG n=>exact(n rfl).elim|eI e=>exact f e rfl|cT a b c=>exact g _ a b c
def bu.d4 (h:bu H c d):bu H c e->d=e:=by
 induction h with
 |dG a=>exactλg=>g.h8 a|eI h=>exactλg=>g.c7 (λ_ q=>q) λx b n _=>(n<|aH<|b.symm.trans h).elim|cT a n _ f=>exactλg=>g.c7 (λb _=>(n<|aH<|a.symm.trans b).elim) λx b _ k=>f<|am (aH<|b.symm.trans a) k
def bu.a2 (h:bu H c d) (k:∀(a:Nat) (x:ag),H[a]?=J x->b[a]?=J x):bu b c d:=by
 induction h with
 |dG a=>exact .dG a|eI a=>exact .eI<|k _ _ a|cT a n _ e=>exact .cT (k _ _ a) n e
theorem ba.eI (h:ba j H c t):bu H c c:=by
 cases t with
 |v a=>exact U h.1<|.eI h.2|a k=>exact U h<|.dG nofun|i z=>exact U h<|.dG nofun|ay f t=>exact fq h λ_ _ z=>.dG z.1.fs|ak f t u=>exact oL h λ_ _ _ z=>.dG z.1.fs
def bK.oZ (h:bK j H c t):∃d,bu H c d/\ba j H d t:=h
def ba.di (h:ba j H c t):bK j H c t:=ax c h.eI h
def bK.fS {a:Nat} (h:H[a]?=J (.ref a)):bK j H (.ref a)<|.v a:=cM _ (.eI h) rfl h
theorem bK.cT {a:Nat} (h:H[a]?=J d) (n:d≠.ref a) (g:bK j H d t):bK j H (.ref a) t:=ah g λe x y=>ax e (.cT h n x) y
theorem ba.a5 (k:Nat):ba j H (.a5 k)<|.a k:=rfl
theorem ba.I (z:Int):ba j H (.I z)<|.i z:=rfl
theorem bK.a5 (k:Nat):bK j H (.a5 k)<|.a k:=(ba.a5 k).di
theorem bK.I (z:Int):bK j H (.I z)<|.i z:=(ba.I z).di
def ba.c1 {e x:ag} (a:bV j H e f 1 b) (c:f≠0) (d:bU e=2) (g:H[b]?=J x) (h:bK j H x t):ba j H e<|.ay f t:=ft b x a c d g h
def ba.c2 {e x:ag} (a:bV j H e f 2 b) (c:bU e=(if f=0 then 3 else 2)) (d:H[b]?=J x) (g:H[b+1]?=J y) (h:bK j H x t) (i:bK j H y u):ba j H e<|.ak f t u:=ls b x y a c d g h i
theorem bK.b0 {x:ag} (a:H[b]?=J x) (c:H[b+1]?=J y) (d:bK j H x t) (e:bK j H y u):bK j H (.b0 b)<|.ak 0 t u:=(ba.c2 (.b0 b) rfl a c d e).di
theorem bK.ay {b f p:Nat} {x:ag} (a:H[b]?=J (.aA f)) (c:f≠0) (d:j.aW[f]?=J (p,1)) (e:H[b+1]?=J x) (g:bK j H x t):bK j H (.Z b)<|.ay f t:=(ba.c1 (.Z a d) c rfl e g).di
theorem bK.ak {b f p:Nat} {x y:ag} (a:H[b]?=J (.aA f)) (c:f≠0) (d:j.aW[f]?=J (p,2)) (e:H[b+1]?=J x) (g:H[b+1+1]?=J y) (h:bK j H x t) (i:bK j H y u):bK j H (.Z b)<|.ak f t u:=(ba.c2 (.Z a d) (aX c).symm e g h i).di
def ba.c9 {f:Nat} {C:Prop} (h:ba j H e<|.ay f t) (k:∀x b,bV j H e f 1 b->f≠0->bU e=2->H[b]?=J x->bK j H x t->C):C:=gz h λb x=>k x b
def ba.c5 {f:Nat} {C:Prop} (h:ba j H e<|.ak f t u) (k:∀x y b,bV j H e f 2 b->bU e=(if f=0 then 3 else 2)->H[b]?=J x->H[b+1]?=J y->bK j H x t->bK j H y u->C):C:=nV h λb x y=>k x y b
noncomputable def dH:T->T|.ay f _=>.ay f<|.a 0|.ak f _ _=>.ak f (.a 0)<|.a 0|t=>t
noncomputable def B7 (f:Nat):Option (Nat×Nat)->T|some (_,1)=>.ay f<|.a 0|_=>.ak f (.a 0)<|.a 0
def B8 (j:aw):Option ag->T|some (.aA f)=>B7 f j.aW[f]?|_=>.a 0
def qU (j:aw) (H:bh):ag->T|.ref a=>.v a|.a5 k=>.a k|.I z=>.i z|.b0 _=>.ak 0 (.a 0)<|.a 0|.Z a=>B8 j H[a]?|.aA _=>.a 0
def bV.t2 (h:bV j H c f 1 b):qU j H c=.ay f (.a 0):=by
 cases c with
 |b0 a=>exact bt h.2.2 (by decide)|Z a=>exact h.2.2.elim λp e=>(al (B8 j) h.2.1).trans<|al (B7 f) e|_=>exact h.elim
def bV.t3 (h:bV j H c f 2 b):qU j H c=.ak f (.a 0) (.a 0):=by
 cases c with
 |b0 a=>exact al (T.ak · (.a 0) (.a 0)) h.2.1.symm|Z a=>exact h.2.2.elim λp e=>(al (B8 j) h.2.1).trans<|al (B7 f) e|_=>exact h.elim
def ba.cs (h:ba j H c t):qU j H c=dH t:=by
 cases t with
 |v a=>exact al (qU j H) h.1|a k=>exact al (qU j H) h|i z=>exact al (qU j H) h|ay f t=>exact h.c9 λ_ _ g _ _ _ _=>g.t2|ak f t u=>exact h.c5 λ_ _ _ g _ _ _ _ _=>g.t3
def bV.f4 {c d:Nat} (h:bV j H e f k b) (g:bV j H e c d a):b=a:=by
 cases e with
 |b0=>exact h.1.symm.trans g.1|Z=>exact h.1.symm.trans g.1|_=>exact h.elim
theorem ba.d4 (h:ba j H c t):ba j H c u->t=u:=by
 induction t generalizing c u with
 |v a=>refineλg=> ?_;have z:T.v a=dH u:=h.cs.symm.trans g.cs;cases u<;>first|exact z|exact T.noConfusion z
 |a k=>refineλg=> ?_;have z:T.a k=dH u:=h.cs.symm.trans g.cs;cases u<;>first|exact z|exact T.noConfusion z
 |i i=>refineλg=> ?_;have z:T.i i=dH u:=h.cs.symm.trans g.cs;cases u<;>first|exact z|exact T.noConfusion z
 |ay f t m=>
  refineλg=> ?_;have z:T.ay f (.a 0)=dH u:=h.cs.symm.trans g.cs;cases u with
  |ay n u=>
   have z:f=n:=(T.ay.inj z).1
   subst z
   refine h.c9 λx b o _ _ p r=>g.c9 λs e w _ _ A B=>al _ ?_;have q:x=s:=aH ((p.symm.trans (al (H[·]?)<|o.f4 w)).trans A);exact ah r λd a b=>ah B λD k e=>m b<|(q▸a).d4 k▸e
  |_=>exact T.noConfusion z
 |ak f t O m C=>
  refineλg=> ?_;have z:T.ak f (.a 0) (.a 0)=dH u:=h.cs.symm.trans g.cs;cases u with
  |ak n u P=>
   have z:f=n:=(T.ak.inj z).1
   subst z
   refine h.c5 λx y b o _ p r F J=>g.c5 λs K e w _ A B L M=> ?_;have E:=o.f4 w;have q:x=s:=aH ((p.symm.trans (al (H[·]?) E)).trans A);have N:y=K:=aH<|(r.symm.trans<|al (λi=>H[i+1]?) E).trans B;exact congr (al _<|ah F λd a b=>ah L λD k e=>m b<|(q▸a).d4 k▸e)<|ah J λd a b=>ah M λD k e=>C b<|(N▸a).d4 k▸e
  |_=>exact T.noConfusion z
def bK.t4 (h:bK j H (.aA f) t):False:=ah h λd a g=>by
 have g:ba j H (.aA f) t:=U (a.h8 nofun) g;cases t with
 |v a=>exact ag.noConfusion g.1|a k=>exact ag.noConfusion (show ag.aA f=.a5 k from g)|i z=>exact ag.noConfusion (show ag.aA f=.I z from g)|ay b t=>exact g.c9 λ_ _ g _ _ _ _=>g|ak b t u=>exact g.c5 λ_ _ _ g _ _ _ _ _=>g
def ba.o0 (h:ba j H (.b0 b) t):∃x,H[b]?=J x/\∀f,x≠.aA f:=by
 have z:=h.cs;cases t with
 |ak f t u=>exact h.c5 λx y d g _ a _ c _=>(ax x (U g.1 a)<|λf e=>(e▸c).t4)|_=>exact T.noConfusion z
def ba.d0 (h:ba j H (.Z b) t):∃f,H[b]?=J (.aA f):=by
 cases t with
 |v a=>exact ag.noConfusion h.1|a k=>exact ag.noConfusion (show ag.Z b=.a5 k from h)|i z=>exact ag.noConfusion (show ag.Z b=.I z from h)|ay f t=>exact h.c9 λ_ _ g _ _ _ _=>⟨_,g.2.1⟩|ak f t u=>exact h.c5 λ_ _ _ g _ _ _ _ _=>⟨_,g.2.1⟩
def sS {C:ag->Prop} (h:bk c=3) (b:∀a,C<|.Z a) (d:∀a,C<|.b0 a):C c:=by
 cases c with
 |Z a=>exact b a|b0 a=>exact d a|I _=>exact bt (show(1:Int)=3 from h) (by decide)|a5 _=>exact bt (show(2:Int)=3 from h) (by decide)|ref _=>exact bt (show(0:Int)=3 from h) (by decide)|aA _=>exact bt (show(0:Int)=3 from h)<|by decide
def ba.f4 (h:ba j H c t) (k:bk c=3):∃a:Nat,cp c=a/\a<H.length/\bk c=3:=sS (C:=λc=>ba j H c t->∃a:Nat,cp c=a/\a<H.length/\bk c=3) k (λa h=>h.d0.elim λf e=>cM a rfl ((cK.mp e).1) rfl) (λa h=>ah h.o0 λx e _=>cM a rfl ((cK.mp e).1) rfl) h
theorem ba.inj (h:ba j H c t) (g:ba j H d u) (m:bk c=3) (i:bk d=3) (e:cp c=cp d):c=d:=
 have k:∀{a b:Nat} {t u:T},a=b->ba j H (.b0 a) t->ba j H (.Z b) u->False:=λq h g=>ah h.o0 λx n o=>g.d0.elim λf p=>o f (aH (n.symm.trans ((al (H[·]?) q).trans p)))
 sS (C:=λc=>ba j H c t->cp c=cp d->c=d) m
  (λa h e=>sS (C:=λd=>ba j H d u->cp (.Z a)=cp d-> .Z a=d) i (λb _ e=>al _<|eW e) (λb g e=>(k (eW e).symm g h).elim) g e)
  (λa h e=>sS (C:=λd=>ba j H d u->cp (.b0 a)=cp d-> .b0 a=d) i (λb g e=>(k (eW e) h g).elim) (λb _ e=>al _<|eW e) g e) h e
def bV.a2 {d:aw} (h:bV j H c f k b) (e:∀(a:Nat),H[a]?=J (.aA f)->g[a]?=J (.aA f)) (n:∀p,j.aW[f]?=J (p,k)->d.aW[f]?=J (p,k)):bV d g c f k b:=by
 cases c with
 |b0 a=>exact h|Z a=>exact bB (h.1) (e _ h.2.1)<|h.2.2.imp n|_=>exact h.elim
def ba.t5 {g:aw} (e:∀(a:Nat) (x:ag),H[a]?=J x->A[a]?=J x) (n:∀(f:Nat) x,j.aW[f]?=J x->g.aW[f]?=J x):ba j H c t->ba g A c t:=by
 induction t generalizing c with
 |v a=>exactλh=>⟨h.1,e _ _ h.2⟩|a k=>exact id|i z=>exact id|ay f t k=>exactλh=>h.c9 λx b m o q r s=>.c1 (m.a2 (λa=>e a _) λp=>n _ _) o q (e _ _ r)<|ah s λd a b=>ax d (a.a2 e)<|k b|ak f t u k w=>exactλh=>h.c5 λx y b m o q r s z=>.c2 (m.a2 (λa=>e a _) λp=>n _ _) o (e _ _ q) (e _ _ r) (ah s λd a b=>ax d (a.a2 e)<|k b)<|ah z λd a b=>ax d (a.a2 e)<|w b
theorem bK.a2 (h:bK j H c t) (e:∀(a:Nat) (x:ag),H[a]?=J x->f[a]?=J x):bK j f c t:=ah h λd a b=>ax d (a.a2 e)<|b.t5 e λ_ _ z=>z
section
variable {x:Nat} (l:H[x]?=J (.ref x))
include l
def BN {b:Nat} {y:ag} (h:H[b]?=J y) (n:y≠.ref b):(H.set x e)[b]?=J y:=(ge λq=>n<|aH<|(q▸h.symm).trans l|>.trans (al (λi=>J<|ag.ref i) q)).trans h
def x_ {b f:Nat} (h:H[b]?=J (.aA f)):(H.set x e)[b]?=J (.aA f):=BN l h nofun
omit l in
def ba.f0 (h:ba j H d t) (n:¬t.has x):d≠.ref x:=λq=>by
 have z:T.v x=dH t:=(q▸h.cs:qU j H (.ref x)=dH t);cases t with
 |v a=>exact n (T.v.inj z).symm|_=>exact T.noConfusion z
theorem bu.set (h:bu H c d):d≠.ref x->bu (H.set x e) c d:=by
 induction h with
 |dG a=>exactλ_=>.dG a
 |eI a=>exactλn=>.eI<|(ge λq=>n<|al _ q.symm).trans a
 |cT a m _ b=>exactλn=>.cT (BN l a m) m<|b n
def bK.l2 {b:Nat} {y:ag} (h:H[b]?=J y) (g:bK j H y t) (n:¬t.has x):(H.set x e)[b]?=J y:=(ge λq=>ah g λd a k=>k.f0 n<|(aH ((q▸h).symm.trans l)▸a).c7 (λ_ z=>z.symm) λf c m _=>(m<|aH<|c.symm.trans l).elim).trans h
def ba.g7:ba j H c t->¬t.has x->ba j (H.set x e) c t:=by
 induction t generalizing c with
 |v a=>exactλh n=>⟨h.1,(ge λq=>n q.symm).trans h.2⟩|a k=>exactλh _=>h|i z=>exactλh _=>h|ay f t m=>exactλh n=>h.c9 λx b o p q r g=>.c1 (o.a2 (λa=>x_ l) λ_ z=>z) p q (g.l2 l r n)<|ah g λd a k=>ax d (a.set l<|k.f0 n)<|m k n|ak f t u m s=>exactλh n=>h.c5 λx y b o p q r g B=>have w:=λz=>n<|.inl z;have A:=λz=>n<|.inr z;ba.c2 (o.a2 (λa=>x_ l) λ_ z=>z) p (g.l2 l q w) (B.l2 l r A) (ah g λd a k=>ax d (a.set l<|k.f0 w)<|m k w) (ah B λd a k=>ax d (a.set l<|k.f0 A)<|s k A)
end
theorem bK.g7 {x:Nat} (h:bK j H c t) (l:H[x]?=J (.ref x)) (n:¬t.has x):bK j (H.set x e) c t:=ah h λd a k=>ax d (a.set l<|k.f0 n)<|k.g7 l n
def bK.bind {x:Nat} (h:bK j H c t) (l:H[x]?=J (.ref x)) (L:bK j H e u) (K:e≠.ref x) (n:¬u.has x):bK j (H.set x e) c<|t.sub<|cC x u:=by
 have M:=L.g7 (e:=e) l n;have p:(H.set x e)[x]?=J e:=gX (cK.mp l).1
 have o:∀{c d:ag} {w:T},bu H c d->bK j (H.set x e) d w->bK j (H.set x e) c w:=λ{c d w} h=>by
  induction h with
  |dG _=>exact id|eI _=>exact id|cT a m _ s=>exactλg=>.cT (BN l a m) m<|s g
 have g:∀{b:Nat} {y:ag} {w:T},H[b]?=J y->bK j (H.set x e) y w->∃B,(H.set x e)[b]?=J B/\bK j (H.set x e) B w:=λ{b y w} m r=>by
  refine aZ (x=b) (λq=> ?_)<|λq=> ?_
  ·exact ax e (am q p) (have z:ag.ref x=y:=aH<|l.symm.trans<|U q m;ah (z▸r) λd a k=>a.c7 (λz _=>(K<|aH<|p.symm.trans z).elim) λf A _ a=>ax d (aH (A.symm.trans p)▸a) k)
  ·exact⟨y,(ge q).trans m,r⟩
 have N:∀{t:T} {c:ag},ba j H c t->bK j (H.set x e) c (t.sub<|cC x u):=λ{t}=>by
  induction t with
  |v a=>
   refineλ{c} h=> ?_;show bK _ _ _<|if a=x then u else .v a;refine U h.1 ?_;refine aZ (a=x) (λq=> ?_)<|λq=> ?_
   ·exact U (aK q)<|U q<|.cT p K M
   ·exact U (aX q)<|.fS<|(ge λz=>q z.symm).trans h.2
  |a k=>exactλ{c} h=>U (show c=.a5 k from h)<|.a5 k|i z=>exactλ{c} h=>U (show c=.I z from h)<|.I z|ay f t s=>exactλ{c} h=>h.c9 λy b m r q C D=>ah (g C<|ah D λd a k=>o a<|s k) λB A E=>(ba.c1 (m.a2 (λa=>x_ l) λ_ z=>z) r q A E).di|ak f t u s F=>exactλ{c} h=>h.c5 λy z b m r q C D O=>ah (g q<|ah D λd a k=>o a<|s k) λB A E=>ah (g C<|ah O λd a k=>o a<|F k) λR P Q=>(ba.c2 (m.a2 (λa=>x_ l) λ_ z=>z) r A P E Q).di
 exact ah h λd a k=>o a<|N k
end
end
section
def dX (b:List Nat):T->List Nat|.v n=>pz b n|.i _=>b|.a _=>b|.ay _ x=>dX b x|.ak _ x y=>dX (dX b x) y
noncomputable def ey (a:List Nat):cy:=λn=>.v<|a.idxOf n
def wF (t:T):∀c:List Nat,∃l,dX c t=c++l/\l.length<=t.num+1:=by
 induction t with
 |v n=>
  refineλc=> ?_;refine aZ (n∈c) (λq=> ?_)<|λq=> ?_
  ·exact ax ([]) ((aK q).trans (dI c).symm)<|cr _
  ·exact ax ([n]) (aX q)<|bE _
 |i z=>exactλc=>ax ([]) ((dI c).symm)<|cr _|a k=>exactλc=>ax ([]) ((dI c).symm)<|cr _|ay f x b=>exactλc=>(b c).imp λl z=>⟨z.1,lh z.2⟩|ak f x y g h=>
  exactλc=>ah (g c) λl e b=>ah (h<|dX c x) λd m o=>⟨l++d,m.trans ((al (· ++d) e).trans<|bD ..),by
   refine U bH ?_;show l.length+d.length<=x.num+y.num+1+1
   exact aI<|aj [_,_,_,_] [] [.n 1 Z<|.a G W,.n 1 v2<|.a v3 W,.n 1 (.a (.a (.a (.a G v3) W) W) W)<|.a Z v2] rfl b o⟩
def zG (h:n∈a):n∈dX a t:=ah (wF t a) λl e _=>U e<|vQ l h
def uc {b:T}:∀{tb:List Nat} {n:Nat},b.has n->n∈dX tb b:=by
 induction b with
 |v m=>
  rintro tb n rfl;show m∈pz tb m
  unfold pz
  split
  ·assumption
  ·simp
 |i z=>intro tb n e;exact e.elim|a k=>intro tb n e;exact e.elim|ay f x c=>exact c|ak f x y c d=>
  intro tb n e
  refine gf e (λe=> ?_)<|λe=> ?_
  ·exact zG (a:=dX tb x) (t:=y)<|c e
  ·exact d (tb:=dX tb x) e
def LS {t:T}:∀{b:List Nat},(∀n,t.has n->n∈b)->dX b t=b:=by
 induction t with
 |v m=>intro b h;show pz b m=b;exact aK<|h m rfl|i z=>intro b h;rfl|a k=>intro b h;rfl|ay f x c=>exact c|ak f x y c d=>intro b h;show dX (dX b x) y=b;exact U (c λn q=>h n<|.inl q)<|U (d λn q=>h n<|.inr q) rfl
def BB {u:T} (h:∀n,u.has n->n∈a):u.sub (ey<|dX a t)=u.sub (ey a):=by
 refine ah (wF t a) λl e _=> ?_;refine U e ?_;exact yk λn q=>by
   unfold ey
   exact U Kh<|U (aK<|h n q) rfl
section
variable {j:aw} {H:bh}
abbrev ka:=Int->Option (Option T)
def mv (j:aw) (H:bh) (K:ka) (b:List Nat):Prop:=∀a r,K a=J (J r)->∃e u,cp e=a/\bk e=3/\ba j H e u/\(∀n,u.has n->n∈b)/\r=u.sub (ey b)
def oQ (j:aw) (H:bh) (K:ka) (k:Nat):Prop:=∀a,K a=J Y->∃e u,cp e=a/\bk e=3/\ba j H e u/\k<u.num
def vp {K:ka} {a b:Int} {o r:Option T} {C:Prop} (z:hX K a o b=J r) (c:b=a->o=r->C) (d:b≠a->K b=J r->C):C:=by
 refine aZ (b=a) (λq=> ?_)<|λq=> ?_
 ·exact c q<|aH<|(aK q).symm.trans z
 ·exact d q<|(aX q).symm.trans z
def IT (h:(K b).isSome=ac):(hX K a o b).isSome=ac:=by
 unfold hX
 refine aZ (b=a) (λq=> ?_)<|λq=> ?_
 ·refine U (aK q) ?_;rfl
 ·exact U (aX q) h
def IS:(hX K a o a).isSome=ac:=al vV (aK rfl:hX K a o a=J o)
theorem mv.a6 {K:ka} {b:List Nat} {a:Int} (h:mv j H K b):mv j H (hX K a Y) b:=λc r z=>vp z (λ_=>aq) λ_=>h c r
def mv.set {K:ka} {b:List Nat} {e:ag} {u:T} (h:mv j H K b) (c:bk e=3) (d:ba j H e u) (m:∀n,u.has n->n∈b):mv j H (hX K (cp e)<|J<|u.sub<|ey b) b:=
 λa r z=>vp z (λq w=>ft e u q.symm c d m (aH w).symm) λ_=>h a r
def oQ.l3 (h:oQ j H K k) (l:b<=k):oQ j H K b:=λa z=>dx (h a z) λe u x y w v=>fe e u x y w<|dK l v
def oQ.set {K:ka} {k:Nat} {e:ag} {u:T} (h:oQ j H K k) (b:bk e=3) (c:ba j H e u) (l:k<u.num):oQ j H (hX K (cp e) Y) k:=λa z=>vp z (λq _=>fe e u q.symm b c l) λ_=>h a
def rR (h:a+b+c+d+8*m<=30000):a+m<ar/\b+2<=ar/\c+3<=ar/\d<=ar:=by
 unfold ar
 refine mu (?_) (?_) (?_)<|?_
 ·exact bo<|aj [_,_,_,_,_] [] [.n 1 (.a (.a (.a (.a Z G) v2) v3)<|.m 8 v4)<|.k 30000,.n 1 (.k 1000000)<|.a Z v4] rfl h
 ·exact aI<|aj [_,_,_,_,_] [] [.n 1 (.a (.a (.a (.a Z G) v2) v3)<|.m 8 v4)<|.k 30000,.n 1 (.a (.k 1000000) W)<|.a G u2] rfl h
 ·exact aI<|aj [_,_,_,_,_] [] [.n 1 (.a (.a (.a (.a Z G) v2) v3)<|.m 8 v4)<|.k 30000,.n 1 (.a (.k 1000000) W)<|.a v2 u3] rfl h
 ·exact aI<|aj [_,_,_,_,_] [] [.n 1 (.a (.a (.a (.a Z G) v2) v3)<|.m 8 v4)<|.k 30000,.n 1 (.a (.k 1000000) W) v3] rfl h
def rx (j:aw) (H:bh) (t:T) (K:ka) (c d:List Nat) (s:Nat) (g e:List T) (h:List<|Bool×ag):Prop:=∀b f,f<=s+t.num->mv j H b (dX c t)->(∀a,b a=J Y->K a=J Y)->(∀a,(K a).isSome=ac->(b a).isSome=ac)->db j H f b (dX c t) (g++[t.sub<|ey<|dX c t]) h e d
def rx.at {t:T} {K:ka} {d b:List Nat} {s:Nat} {f c:List T} {g:List<|Bool×ag} (x:rx j H t K d b s f c g) (i:mv j H K d):db j H s K (dX d t) (f++[t.sub<|ey<|dX d t]) g c b:=
 x K s (ck _ _) ((λa r q=>by
   refine gz (i a r q) λe u k l m h o=> ?_
   exact ft e u k l m (λn q=>zG<|h n q)<|by exact U (BB h)<|U o rfl)) (λ_ q=>q) λ_ q=>q
def Jn {t:T} {w:List T} (E:bu H c e) (C:ba j H e t) (g:bV j H e f k b) (D:mv j H K v) (F:oQ j H K t.num)
  (I:w.length<ar) (m:rx j H t K v d s w h y) (A:K (cp e)=Y->db j H s K v w (y++[(aa,c)]) h d):db j H s K v w (y++[(aa,c)]) h d:=by
 have a:∀{i u},cp i=cp e->bk i=3->ba j H i u->t=u:=λ{i u} n p l=>C.d4<|U (C.inj l g.bk p n.symm) l;cases q:K (cp e)with
 |none=>exact A q|some o=>cases o with
  |none=>exact dx (F _ q) λi u n p l B=>(lj _<|a n p l▸B).elim|some r=>
   refine gz (D _ _ q) λi u n p l B J=>.s0 E g q I ?_;have z:=a n p l
   subst z
   have x:=m.at D;have x:=(hB J)▸((LS B)▸x);exact x
def rx.o1 {t:T} (f:rx j H t K b c s m d o) (p:bk e=3) (r:ba j H e t) (l:i<=s+t.num) (k:mv j H g<|dX b t)
  (u:∀a,g a=J Y->hX K (cp e) Y a=J Y) (v:∀a,(hX K (cp e) Y a).isSome=ac->(g a).isSome=ac):
  db j H i (hX g (cp e)<|J<|t.sub<|ey<|dX b t) (dX b t) (m++[t.sub<|ey<|dX b t]) o d c:=
 f _ i l (k.set p r λ_=>uc) (λa z=>vp z (λ_ w=>lN<|aH<|al J w) λn z=>vp (u a z) (λq=>(n q).elim) λ_=>id) λa h=>IT<|v a<|IT h
def Uv {t:T}:∀{c:ag} {K:ka} {p w:List Nat} {s:Nat} {J E:List T} {o:List<|Bool×ag},bK j H c t->mv j H K p->oQ j H K t.num->s+J.length+o.length+p.length+8*t.num<=30000->
  rx j H t K p w s J E o->db j H s K p J (o++[(aa,c)]) E w:=by
 induction t with
 |v n=>exactλD r F b g=>ah D λd u h=>.fS (h.1▸u) (fn (rR b).2.1) (rR b).2.2.2<|g.at r|i z=>exactλD r F b g=>ah D λd u h=>.I ((show d=.I z from h)▸u) (fn (rR b).2.1)<|g.at r|a k=>exactλD r F b g=>ah D λd u h=>.a5 ((show d=.a5 k from h)▸u) (fn (rR b).2.1)<|g.at r|ay f x y=>
  refineλ{c K p w s J E o} D r F b g=>ah D λe u h=>h.c9 λA a2 d a3 X P Q=> ?_
  have B:=rR b;refine Jn u h d r F (fn B.2.1) g λq=> ?_
  refine .iS (T:=[A]) u d q (dK (ck _ _) B.1) B.2.2.1 (.cC P) ?_;refine U (show o++((ac,e)::[A].map λc=>(aa,c))=(o++[(ac,e)])++[(aa,A)]from(bD o [(ac,e)] [(aa,A)]).symm) ?_;refine y Q r.a6 ((F.l3<|ig _).set d.bk h<|iE _) ?_ λa4 M N R O L=> ?_
  ·exact U bH<|U gZ (have b:s+J.length+o.length+p.length+8*(x.num+1)<=30000:=b;aI (aj [_,_,_,_,_] [] [.n 1 (.a (.a (.a (.a Z G) v2) v3)<|.m 8<|.a v4 W)<|.k 30000,.n 1 (.a (.k 30000) W)<|.a (.a (.a (.a (.a Z W) G)<|.a v2 W) v3)<|.m 8 v4] rfl b))
  ·have l:M<=s+(T.ay f x).num:=aF N<|bp<|gv s 1 x.num;exact .s1 d (L _ IS) (ky<|dK l B.1) B.2.1<|g.o1 d.bk h l R O L
 |ak f x y S V=>
  refineλ{c K p w s J E o} D r F b g=>ah D λe u h=>h.c5 λA C a2 d a3 X P Q a6=> ?_
  have B:=rR b;have b:s+J.length+o.length+p.length+8*(x.num+y.num+1)<=30000:=b;have Y:x.num<(T.ak f x y).num:=jX<|ck _ _;have a0:y.num<(T.ak f x y).num:=jX<|hE _ _;refine Jn u h d r F (fn B.2.1) g λq=> ?_
  refine .iS (T:=[C,A]) u d q (dK (ck _ _) B.1) B.2.2.1 (.kv X P) ?_;refine U (show o++((ac,e)::[C,A].map λc=>(aa,c))=((o++[(ac,e)])++[(aa,C)])++[(aa,A)]from((bD _ [(aa,C)] [(aa,A)]).trans<|bD o [(ac,e)] _).symm) ?_;refine S Q r.a6 ((F.l3<|ky Y).set d.bk h Y) ?_ λb2 s1 N R O L=>ah (wF x p) λl a7 a8=> ?_
  ·rw[bH,bH,gZ,gZ];exact aI<|aj [_,_,_,_,_,_] [] [.n 1 (.a (.a (.a (.a Z G) v2) v3)<|.m 8<|.a (.a v4 v5) W)<|.k 30000,.n 1 (.a (.k 30000) W)<|.a (.a (.a (.a (.a Z W) G)<|.a (.a v2 W) W) v3)<|.m 8 v4] rfl b
  have z:x.sub (ey<|dX p x)=x.sub (ey<|dX (dX p x) y):=(BB λn q=>uc q).symm;refine V a6 R (λa z=>((F.l3<|ky a0).set d.bk h a0) a<|O a z) ?_ λa4 M a9 b0 b1 a1=> ?_
  ·rw[bH,bH,gZ,gZ,a7,bH];exact aI<|aj [_,_,_,_,_,_,_,_] [] [.n 1 (.a (.a (.a (.a Z G) v2) v3)<|.m 8<|.a (.a v4 v5) W)<|.k 30000,.n 1 (.v 6)<|.a (.a Z W) v4,.n 1 (.v 7)<|.a v4 W,.n 1 (.a (.k 30000) W)<|.a (.a (.a (.a (.v 6)<|.a G W)<|.a v2 W)<|.a v3<|.v 7)<|.m 8 v5] rfl b N a8
  ·exact have l:M<=s+(T.ak f x y).num:=(by show M<=s+(x.num+y.num+1);exact aI<|aj [_,_,_,_,_] [] [.n 1 Z<|.a (.a G W) v2,.n 1 v3<|.a Z v4,.n 1 (.a (.a G<|.a (.a v2 v4) W) W) v3] rfl N a9);(U z<|U (bD _ _ _)<|.s2 d (a1 _<|L _ IS) (ky<|dK l B.1) B.2.1<|g.o1 d.bk h l b0 (λa z=>O a<|b1 a z) λa z=>a1 a<|L a z)
def sY {t:T} {d:List Nat} (D:bK j H c t) (b:t.num<=3000) (e:d.length<=3000):db j H 0 (λ_=>Y) d [] [(aa,c)] [t.sub<|ey<|dX d t]<|dX d t:=Uv (o:=[]) D (λa r=>aq) (λa=>aq) (by show 0+0+0+d.length+8*t.num<=30000;exact aI<|aj [_,_] [] [.n 8 Z<|.k 3000,.n 1 G<|.k 3000,.n 1 (.a (.k 30000) W)<|.a (.a (.a (.a u0 u0) u0) G)<|.m 8 Z] rfl b e) λf g _ _ _ _=>.g3 _ _ _ _
end
end
section
noncomputable def eJ (j:aw) (k:Nat):List Nat:=j.bf.getD k []
noncomputable def fN (j:aw) (f:Nat):Nat×Nat:=j.aW.getD f (0,0)
noncomputable def bP:T->Int|.v _=>0|.i _=>1|.a _=>2|_=>3
noncomputable def dY:T->Nat|.ay f _=>f|.ak f _ _=>f|_=>0
def cU (j:aw) (t u:T):Int:=if bP t≠bP u then ee (bP t)<|bP u else match t,u with|.v _,_=>0|.i x,.i y=>ee x y|.a x,.a y=>eV (eJ j x)<|eJ j y|t,u=>if dY t=dY u then 0 else if ee (fN j<|dY t).2 (fN j<|dY u).2≠0 then ee (fN j<|dY t).2 (fN j<|dY u).2 else eV (eJ j (fN j<|dY t).1)<|eJ j (fN j<|dY u).1
def cD (j:aw):T->T->Int|.ay f x,.ay g y=>if cU j (.ay f x) (.ay g y)≠0 then cU j (.ay f x)<|.ay g y else cD j x y|.ak f x a,.ak g y b=>if cU j (.ak f x a) (.ak g y b)≠0 then cU j (.ak f x a)<|.ak g y b else if cD j x y≠0 then cD j x y else cD j a b|t,u=>cU j t u
def pq (h:ee x y=0):x=y:=by
 unfold ee at h
 split at h
 ·exact vK (iA.mp<|aj [] [_,_] [.z 1 (.k 0)<|.k<|-1,.z 0 (.a (.v 0)<|.k 1)<|.v 1] rfl<|gL h.symm)<|iA.mp<|aj [] [_,_] [.z 1 (.k 0)<|.k<|-1,.z 0 (.a (.v 0)<|.k 1)<|.v 1] rfl<|gL h.symm
 ·split at h<;>omega
def HW (x:List Nat):eV x x=0:=by unfold eV;simp[VL]
set_option tactic.hygienic true in
def xT (h:eV x y=0):x=y:=by
 unfold eV at h
 split at h
 ·omega
 ·split at h
  ·omega
  ·rename_i a b
   exact List.le_antisymm (VR.mp b)<|VR.mp a
def BH {t u:T} {C:T->T->Prop} (q:bP t=bP u) (b:∀n m,C (.v n)<|.v m) (c:∀n m,C (.i n)<|.i m) (d:∀n m,C (.a n)<|.a m) (e:bP t=3->bP u=3->C t u):C t u:=by
 cases t<;>cases u<;>first|exact b _ _|exact c _ _|exact d _ _|exact e rfl rfl|exact bt (show(0:Int)=1 from q) (by decide)|exact bt (show(0:Int)=2 from q) (by decide)|exact bt (show(0:Int)=3 from q) (by decide)|
  exact bt (show(1:Int)=0 from q) (by decide)|exact bt (show(1:Int)=2 from q) (by decide)|exact bt (show(1:Int)=3 from q) (by decide)|exact bt (show(2:Int)=0 from q) (by decide)|exact bt (show(2:Int)=1 from q) (by decide)|exact bt (show(2:Int)=3 from q) (by decide)|
  exact bt (show(3:Int)=0 from q) (by decide)|exact bt (show(3:Int)=1 from q) (by decide)|exact bt (show(3:Int)=2 from q)<|by decide
def qr {j:aw} {t u:T} (z:cU j t u≠0):cD j t u=cU j t u:=by cases t<;>cases u<;>first|rfl|exact aK z
def mT (j:aw) (f g:Nat):Int:=if f=g then 0 else if ee (fN j f).2 (fN j g).2≠0 then ee (fN j f).2 (fN j g).2 else eV (eJ j (fN j f).1)<|eJ j (fN j g).1
def ku {j:aw} {t u:T} (a:bP t=3) (b:bP u=3):cU j t u=mT j (dY t) (dY u):=by
 unfold cU
 refine cJ (aX<|J2.mpr<|a.trans b.symm) ?_;cases t<;>first|exact bt (show(0:Int)=3 from a) (by decide)|exact bt (show(1:Int)=3 from a) (by decide)|exact bt (show(2:Int)=3 from a) (by decide)|(cases u<;>first|rfl|exact bt (show(0:Int)=3 from b) (by decide)|exact bt (show(1:Int)=3 from b) (by decide)|exact bt (show(2:Int)=3 from b)<|by decide)
def vB {j:aw} {t u:T} (q:bP t≠bP u):cU j t u=ee (bP t) (bP u):=aK q
def vA {j:aw}:cU j (.i x) (.i y)=ee x y:=aX λn=>n rfl
def vz {j:aw}:cU j (.a x) (.a y)=eV (eJ j x) (eJ j y):=aX λn=>n rfl
def vC (j:aw) (t:T):cU j t t=0:=by
 cases t with
 |v n=>exact aX λn=>n rfl|i z=>exact vA.trans<|xS z|a k=>exact vz.trans<|HW _|ay f x=>exact(ku rfl rfl).trans<|aK rfl|ak f x y=>exact(ku rfl rfl).trans<|aK rfl
def wK {j:aw} (z:cU j (.ay f x) (.ay g y)=0):cD j (.ay f x) (.ay g y)=cD j x y:=aX λn=>n z
def wL {j:aw} (z:cU j (.ak f x a) (.ak g y b)=0):cD j (.ak f x a) (.ak g y b)=if cD j x y≠0 then cD j x y else cD j a b:=aX λn=>n z
def rV (j:aw) (t:T):cD j t t=0:=by
 induction t with
 |v n=>exact vC j _|i z=>exact vC j _|a k=>exact vC j _|ay f x b=>exact(wK<|vC j _).trans b|ak f x y b c=>exact(wL<|vC j _).trans<|(aX λn=>n b).trans c
def JL {j:aw} (N:cN j) (a:x<j.bf.length) (b:y<j.bf.length) (h:eJ j x=eJ j y):x=y:=by
 unfold eJ at h
 rw[iB,iB,fd a,fd b]at h;exact(Cy N.yt).mp h
set_option tactic.hygienic true in
def w6 {j:aw} (N:cN j) (c:j.aW[f]?=J (p,k)) (d:j.aW[g]?=J (q,b)) (h:mT j f g=0):f=g:=by
 unfold mT at h
 split at h
 ·assumption
 ·have l:fN j f=(p,k):=by simp[fN,c]
  have m:fN j g=(q,b):=by simp[fN,d]
  have h:=m▸(l▸h)
  split at h
  ·exact bt h ‹_›
  ·rename_i z
   have r:k=b:=by have:=pq (x:=(k:Int)) (y:=(b:Int))<|J2.mp z;exact iD (aI<|aj [_,_] [] [.z 1 (.e Z)<|.e G,.n 1 (.a G W) Z] rfl<|gL this)<|aI<|aj [_,_] [] [.z 1 (.e Z)<|.e G,.n 1 (.a G W) Z] rfl<|gL this.symm
   have i:=JL N (N.lR _<|em c) (N.lR _<|em d)<|xT h;simp only at i
   subst r i
   have t:=cK.mp c;have u:=cK.mp d;exact(Cy N.aA).mp<|t.2.trans u.2.symm
section
variable {j:aw} {H:bh}
def pE {j:aw} (h:k<j.bf.length):j.bf[k]?=J (eJ j k):=by
 unfold eJ;refine U iB<|U (fd h) ?_;rfl
def si (h:j.aW[f]?=J p):fN j f=p:=by
 unfold fN;refine U iB<|U h ?_;rfl
theorem ba.bk {c:ag} {t:T} (h:ba j H c t):bk c=bP t:=by
 cases t with
 |v a=>exact al Internal.bk h.1|a k=>exact al Internal.bk h|i z=>exact al Internal.bk h|ay f t=>exact h.c9 λ_ _ g _ _ _ _=>g.bk|ak f t u=>exact h.c5 λ_ _ _ g _ _ _ _ _=>g.bk
def la {t:T} {C:T->Prop} (e:bP t=3) (b:∀f x,C<|.ay f x) (c:∀f x y,C<|.ak f x y):C t:=by
 cases t with
 |ay f x=>exact b f x|ak f x y=>exact c f x y|v _=>exact bt (show(0:Int)=3 from e) (by decide)|i _=>exact bt (show(1:Int)=3 from e) (by decide)|a _=>exact bt (show(2:Int)=3 from e)<|by decide
def bv.aA {j:aw} {t:T} (w:bv j t) (e:bP t=3):∃p k,j.aW[dY t]?=J (p,k):=la (C:=λt=>bv j t->∃p k,j.aW[dY t]?=J (p,k)) e (λf x w=>w.1.elim λp h=>dn p 1 h) (λf x y w=>w.1.elim λp h=>dn p 2 h) w
def ba.up {c:ag} {t:T} (h:ba j H c t) (w:bv j t) (e:bP t=3):∃k b p,bV j H c (dY t) k b/\j.aW[dY t]?=J (p,k):=la (C:=λt=>bv j t->ba j H c t->∃k b p,bV j H c (dY t) k b/\j.aW[dY t]?=J (p,k)) e (λf x w h=>w.1.elim λp q=>h.c9 λ_ b g _ _ _ _=>rr 1 b p g q) (λf x y w h=>w.1.elim λp q=>h.c5 λ_ _ b g _ _ _ _ _=>rr 2 b p g q) w h
def bv.c9 {f:Nat} {x u:T} {a:T->Prop} (w:bv j<|.ay f x) (b:bv j u) (q:bP u=3) (e:f=dY u) (k:∀y,a<|.ay f y):a u:=la (C:=λu=>bv j u->f=dY u->a u) q (λg y _ e=>am (show f=g from e)<|k y) (λg y i c e=>w.1.elim λp h=>c.1.elim λl d=>bt (al rf<|aH<|((show f=g from e)▸h).symm.trans d) (by show¬(1:Nat)=2;decide)) b e
def bv.c5 {f:Nat} {x c u:T} {a:T->Prop} (w:bv j<|.ak f x c) (d:bv j u) (q:bP u=3) (e:f=dY u) (k:∀y b,a<|.ak f y b):a u:=la (C:=λu=>bv j u->f=dY u->a u) q (λg y i e=>w.1.elim λp h=>i.1.elim λm l=>bt (al rf<|aH<|((show f=g from e)▸h).symm.trans l) (by show¬(2:Nat)=1;decide)) (λg y b _ e=>am (show f=g from e)<|k y b) d e
def ff (Q:Nat) (t:T):Prop:=∀n,t.has n->n=Q
def JA (N:cN j) {t u:T} (c:bv j t) (d:bv j u) (z:cU j t u=0) {b:T->T->Prop} (l:∀n m,b (.v n)<|.v m) (r:∀n,b (.i n)<|.i n) (w:∀n,b (.a n)<|.a n) (e:bP t=3->bP u=3->dY t=dY u->b t u):b t u:=by
 refine aZ (bP t=bP u) (λq=> ?_)<|λq=> ?_
 ·exact BH (C:=λt u=>bv j t->bv j u->cU j t u=0->(bP t=3->bP u=3->dY t=dY u->b t u)->b t u) q (λn m _ _ _ _=>l n m) (λn m _ _ z _=>am (pq<|vA.symm.trans z)<|r n) (λn m c d z _=>am (JL N c d<|xT<|vz.symm.trans z)<|w n)
   (λf g c d z e=>fq (c.aA f) λp k h=>fq (d.aA g) λy B x=>e f g<|w6 N h x<|(ku f g).symm.trans z) c d z e
 ·exact bt (pq<|(vB q).symm.trans z) q
def uq {j:aw} (N:cN j) {Q:Nat} {t:T}:∀{u:T},bv j t->bv j u->ff Q t->ff Q u->cD j t u=0->t=u:=by
 have l:∀{t u:T},bv j t->bv j u->ff Q t->ff Q u->cD j t u=0->(bP t=3->bP u=3->dY t=dY u->cU j t u=0->t=u)->t=u:=λ{t u} d b g c z w=>by have k:cU j t u=0:=Vf λn=>n<|(qr n).symm.trans z;exact JA (b:=λt u=>ff Q t->ff Q u->t=u) N d b k (λn m g c=>al _<|(g n rfl).trans (c m rfl).symm) (λ_ _ _=>rfl) (λ_ _ _=>rfl) (λh f m _ _=>w h f m k) g c
 induction t with
 |v n=>exactλd b g c z=>l d b g c z λq=>bt (show(0:Int)=3 from q) (by decide)|i n=>exactλd b g c z=>l d b g c z λq=>bt (show(1:Int)=3 from q) (by decide)|a n=>exactλd b g c z=>l d b g c z λq=>bt (show(2:Int)=3 from q) (by decide)|ay f x m=>exactλd b g c z=>l d b g c z λ_ q e=>d.c9 (a:=λu=>bv j u->ff Q u->cD j (.ay f x) u=0->cU j (.ay f x) u=0->T.ay f x=u) b q e (λy b c z k=>al _<|m d.2 b.2 g c<|(wK k).symm.trans z) b c z
 |ak f x m p r=>
  refineλ{u} d b g c z=>l d b g c z λ_ q e=>d.c5 (a:=λu=>bv j u->ff Q u->cD j (.ak f x m) u=0->cU j (.ak f x m) u=0->T.ak f x m=u) b q e (λy B b c z k=> ?_) b c z;have z:=(wL k).symm.trans z;refine aZ (cD j x y=0) (λh=> ?_)<|λh=> ?_
  ·exact congr (al _<|p d.2.1 b.2.1 (λn q=>g n<|.inl q) (λn q=>c n<|.inl q) h)<|r d.2.2 b.2.2 (λn q=>g n<|.inr q) (λn q=>c n<|.inr q)<|(aX λn=>n h).symm.trans z
  ·exact bt ((aK h).symm.trans z) h
def UF (N:cN j) {c d:ag} {t u:T} (a:ba j H c t) (e:ba j H d u) (f:bv j t) (g:bv j u) (h:t.a9=ac->u.a9=ac->c=d) (v:c≠d):jx j H c d<|cU j t u:=by
 refine aZ (bP t=bP u) (λq=> ?_)<|λq=> ?_
 ·refine BH (C:=λt u=>ba j H c t->ba j H d u->bv j t->bv j u->(t.a9=ac->u.a9=ac->c=d)->jx j H c d (cU j t u)) q (λ_ _ _ _ _ _ h=>bt (h rfl rfl) v)
   (λx y a e _ _ _=> ?_) (λx y a e f g _=> ?_) (λm n a e f g _=> ?_) a e f g h
  ·exact U (show c=.I x from a)<|U (show d=.I y from e)<|U vA<|.I x y
  ·exact U (show c=.a5 x from a)<|U (show d=.a5 y from e)<|U vz<|.a5 (pE f)<|pE g
  ·refine oM (a.up f m) λk b p w i=>oM (e.up g n) λy z B x l=> ?_;have r:=jx.g4 w x i l (pE<|N.lR _<|em i)<|pE<|N.lR _<|em l;refine(U (ku m n) ?_)
   unfold mT
   refine U (si i)<|U (si l) ?_;exact r
 ·exact(U (vB q)<|am a.bk<|am e.bk<|.r8<|by refine U a.bk<|U e.bk ?_;exact q)
def UE (N:cN j) {c d:ag} {t u:T} (f:ba j H c t) (g:ba j H d u) (k:bv j t) (l:bv j u) (h:t.a9=ac->u.a9=ac->c=d) (i:c≠d) (z:cU j t u=0):bP t=3/\bP u=3/\dY t=dY u:=
 JA (b:=λt u=>ba j H c t->ba j H d u->(t.a9=ac->u.a9=ac->c=d)->bP t=3/\bP u=3/\dY t=dY u) N k l z (λ_ _ _ _ h=>bt (h rfl rfl) i) (λn f g _=>bt ((show c=.I n from f).trans (show d=.I n from g).symm) i) (λn f g _=>bt ((show c=.a5 n from f).trans (show d=.a5 n from g).symm) i)
  (λa b e _ _ _=>bB a b e) f g h
def xL {c d:ag} {t u:T} (q:ba j H c t) (r:ba j H h F) (w:ba j H d u) (x:ba j H i I) (y:bk c=3) (z:bk h=3) (B:bk d=3) (C:bk i=3) (e:fz (H.length+1) c d=fz (H.length+1) h i):c=h/\d=i:=by
 refine cps λR J=> ?_;refine bR (q.f4 y) λa D S _=> ?_;refine bR (r.f4 z) λl f K _=> ?_;refine bR (w.f4 B) λb E M _=> ?_;refine bR (x.f4 C) λm g p _=> ?_
 have o:a*(H.length+1)+b=l*(H.length+1)+m:=by
  unfold fz at e
  have e:=g▸(E▸(f▸(D▸e)))
  exact_mod_cast e
 have N:a=l:=by
  have O:(a*(H.length+1)+b)/(H.length+1)=a:=by refine U (V_ _ _)<|U (V9 (by exact bo<|aj [_] [] [.n 1 (.a Z W) u0] rfl) _ _)<|U (V2<|by exact bo<|aj [_,_] [] [.n 1 (.a Z W) G,.n 1 (.a G W) Z] rfl M) ?_;rfl
  have P:(l*(H.length+1)+m)/(H.length+1)=l:=by refine U (V_ _ _)<|U (V9 (by exact bo<|aj [_] [] [.n 1 (.a Z W) u0] rfl) _ _)<|U (V2<|by exact bo<|aj [_,_] [] [.n 1 (.a Z W) G,.n 1 (.a G W) Z] rfl p) ?_;rfl
  rw[<-O, <-P,o]
 subst N
 have O:b=m:=by exact iD (aI<|aj [_,_,_] [] [.n 1 (.a Z G)<|.a Z v2,.n 1 (.a v2 W) G] rfl<|bp o) (aI<|aj [_,_,_] [] [.n 1 (.a Z G)<|.a Z v2,.n 1 (.a v2 W) G] rfl<|bp o.symm)
 subst O
 refine J ?_;exact⟨q.inj r y z (by exact U D<|U f rfl),w.inj x B C<|by exact U E<|U g rfl⟩
def iG (j:aw) (H:bh) (m:Int):Prop:=∃e o t,bk e=3/\bk o=3/\ba j H e t/\ba j H o t/\m=fz (H.length+1) e o
def wn (j:aw) (H:bh) (k:Nat) (m:Int):Prop:=∃e o t u,bk e=3/\bk o=3/\ba j H e t/\ba j H o u/\k<t.num/\m=fz (H.length+1) e o
def BR {c:ag} {t:T} (h:ba j H c t) (r:bk c=3) (b:H.length<=100000):small (cp c)=ac:=bR (h.f4 r) λa e l _=>U e<|qQ<|by omega
variable {Q:Nat} {t u:T} {c d e o:ag} {s A:List Int} {L:List (ag×ag)} {r:Int}
def Ho (n:iG j H m\/wn j H t.num m) (h:ba j H e t) (c:ba j H o u) (k:bk e=3) (l:bk o=3) (q:m=fz (H.length+1) e o):t=u:=
 n.elim (λz=>kE z λp r v d f a b g=>bx (xL h a c b k d l f<|q.symm.trans g) λi w=>(h.d4<|U i a).trans (c.d4<|U w b).symm)
  λz=>oN z λp r v x d f a b g w=>bx (xL h a c b k d l f<|q.symm.trans w) λi _=>(lj _<|h.d4 (U i a)▸g).elim
def Be (a:∀m∈s,iG j H m\/wn j H t.num m) (h:ba j H e t) (b:ba j H o u) (c:bk e=3) (d:bk o=3) (l:k<t.num) (m:Int) (q:m∈s++[fz (H.length+1) e o]):iG j H m\/wn j H k m:=(fB.mp q).elim (λq=>(a m q).imp id λz=>oN z λf g i n p r v w x y=>nd f g i n p r v w (iF l x) y) λq=>.inr<|nd e o t u c d h b l<|dk.mp q
def Hp (h:ba j H e t) (a:ba j H o t) (b:bk e=3) (c:bk o=3) (q:m∈s++[fz (H.length+1) e o]\/iG j H m):m∈s\/iG j H m:=q.elim (λq=>(fB.mp q).imp id λq=>lr e o t b c h a<|dk.mp q) .inr
def rv (j:aw) (H:bh) (t u:T) (s:List Int) (L:List<|ag×ag) (r:Int):Prop:=(cD j t u=0->∀A:List Int,(∀m∈A,m∈s\/iG j H m)->A.length<=s.length+t.num->gy j (H.length+1) H A L r)/\(cD j t u≠0->r=cD j t u)
def rv.at (n:rv j H t u s L r) (z:t=u):gy j (H.length+1) H s L r:=n.1 (am z<|rV j _) s (λ_=>.inl)<|ck _ _
def ur (N:cN j) (l:bv j t) (m:bv j u) (B:ff Q t) (C:ff Q u) (D:bK j H c t) (E:bK j H d u) (n:rv j H t u s L r)
  (k:∀e o,bu H c e->bu H d o->ba j H e t->ba j H o u->e≠o->cU j t u=0->jx j H e o 0->bP t=3->bP u=3->dY t=dY u->gy j (H.length+1) H s (L++[(c,d)]) r):gy j (H.length+1) H s (L++[(c,d)]) r:=
 ah D λe i h=>ah E λo f g=>by
  refine aZ (e=o) (λq=> ?_)<|λq=> ?_
  ·exact .lo i (q▸f)<|n.at<|h.d4<|q▸g
  ·have p:t.a9=ac->u.a9=ac->e=o:=λa b=>by
    cases t with
    |v x=>cases u with|v y=>exact(h.1.trans<|al _<|(B x rfl).trans (C y rfl).symm).trans g.1.symm|_=>exact cW b
    |_=>exact cW a
   have w:=UF N h g l m p q;refine aZ (cU j t u=0) (λz=> ?_)<|λz=> ?_
   ·exact dq (UE N h g l m p q z) λa b y=>k e o i f h g q z (am z w) a b y
   ·exact have x:=qr z;(U ((n.2<|U x z).trans x)<|.cs i f q w z)
def Nb (N:cN j) (b4:H.length<=100000) {Q:Nat} {t:T}:∀{u:T} {c d:ag} {s:List Int} {L:List<|ag×ag} {r:Int},bK j H c t->bK j H d u->bv j t->bv j u->ff Q t->ff Q u->(∀m∈s,iG j H m\/wn j H t.num m)->s.length+L.length+2*t.num<=2000->
  rv j H t u s L r->gy j (H.length+1) H s (L++[(c,d)]) r:=by
 have b5:∀{a b n:Nat},a+b+n<=2000->a<gC/\b+2<=ar:=λ{a b n} h=>by
  delta gC ar
  refine⟨?_,?_⟩
  ·exact bo<|aj [_,_,_] [] [.n 1 (.a (.a Z G) v2)<|.k 2000,.n 1 (.k 4090) Z] rfl h
  ·exact aI<|aj [_,_,_] [] [.n 1 (.a (.a Z G) v2)<|.k 2000,.n 1 (.a (.k 1000000) W)<|.a G u2] rfl h
 induction t with
 |v n=>exactλD O E l F p P b n=>ur N E l F p D O n λ_ _ _ _ _ _ _ _ _ q=>bt (show(0:Int)=3 from q) (by decide)|i n=>exactλD O E l F p P b n=>ur N E l F p D O n λ_ _ _ _ _ _ _ _ _ q=>bt (show(1:Int)=3 from q) (by decide)|a n=>exactλD O E l F p P b n=>ur N E l F p D O n λ_ _ _ _ _ _ _ _ _ q=>bt (show(2:Int)=3 from q) (by decide)|ay f x y=>
  refineλ{u c d s L r} D O E l F p P b n=>ur N E l F p D O n λe o Y M h I q z a0 _ a5 a6=> ?_;refine E.c9 (a:=λu=>bv j u->ff Q u->ba j H o u->cU j (.ay f x) u=0->rv j H (.ay f x) u s L r->gy j (H.length+1) H s (L++[(c,d)]) r) l a5 a6 (λb7 l p I z n=>h.c9 λg b8 J _ _ a7 a8=>I.c9 λV a9 K _ _ b0 b1=> ?_) l p I z n;have b:s.length+L.length+2*(x.num+1)<=2000:=b;have B:=b5 b;have a1:=BR h J.bk b4;refine aZ (fz (H.length+1) e o∈s) (λm=> ?_)<|λm=> ?_
  ·exact .h6 Y M q a0 J K a1 B.1 m<|n.at<|Ho (P _ m) h I J.bk K.bk rfl
  ·refine .g4 (q:=[g]) (s:=[V]) Y M q a0 J K a1 m B.1 B.2 (.cC a7) (.cC b0) ?_;refine y a8 b1 E.2 l.2 F p (Be P h I J.bk K.bk<|iE _) (by refine U bH<|U gZ ?_;exact aI<|aj [_,_,_] [] [.n 1 (.a (.a Z G)<|.m 2<|.a v2 W)<|.k 2000,.n 1 (.a (.k 2000) W)<|.a (.a (.a Z W) G)<|.m 2 v2] rfl b) ⟨λR A a3 S=> ?_,λw=> ?_⟩
   ·have X:=uq N E.2 l.2 F p R
    subst X
    exact n.1 (rV j _) A (λm w=>Hp h I J.bk K.bk<|a3 m w) (by rw[bH,gZ]at S;show A.length<=s.length+(x.num+1);exact aI<|aj [_,_,_] [] [.n 1 Z<|.a (.a G W) v2,.n 1 (.a (.a G<|.a v2 W) W) Z] rfl S)
   ·rw[<-wK z]at w ⊢;exact n.2 w
 |ak f x y b2 b3=>
  refineλ{u c d s L r} D O E l F p P b n=>ur N E l F p D O n λe o Y M h I q z a0 _ a5 a6=> ?_;refine E.c5 (a:=λu=>bv j u->ff Q u->ba j H o u->cU j (.ak f x y) u=0->rv j H (.ak f x y) u s L r->gy j (H.length+1) H s (L++[(c,d)]) r) l a5 a6 (λb7 d1 l p I z n=>h.c5 λg a4 b8 J _ b9 a7 a8 c0=>I.c5 λV R a9 K _ c1 b0 b1 c2=> ?_) l p I z n;have b:s.length+L.length+2*(x.num+y.num+1)<=2000:=b;have B:=b5 b;have a1:=BR h J.bk b4;have c3:x.num<(T.ak f x y).num:=jX<|ck _ _;have c4:y.num<(T.ak f x y).num:=jX<|hE _ _;refine aZ (fz (H.length+1) e o∈s) (λm=> ?_)<|λm=> ?_
  ·exact .h6 Y M q a0 J K a1 B.1 m<|n.at<|Ho (P _ m) h I J.bk K.bk rfl
  ·refine .g4 (q:=[a4,g]) (s:=[R,V]) Y M q a0 J K a1 m B.1 B.2 (.kv b9 a7) (.kv c1 b0) ?_;have X:=wL z;refine U (show L++[a4,g].zip [R,V]=(L++[(a4,R)])++[(g,V)]from(bD L [(a4,R)] [(g,V)]).symm) ?_;refine b2 a8 b1 E.2.1 l.2.1 (λn q=>F n<|.inl q) (λn q=>p n<|.inl q) (Be P h I J.bk K.bk c3) (by rw[bH,bH,gZ,gZ];exact aI<|aj [_,_,_,_] [] [.n 1 (.a (.a Z G)<|.m 2<|.a (.a v2 v3) W)<|.k 2000,.n 1 (.a (.k 2000) W)<|.a (.a (.a Z W)<|.a G W)<|.m 2 v2] rfl b) ⟨λb6 c5 a3 S=> ?_,λw=> ?_⟩
   ·have c6:=uq N E.2.1 l.2.1 (λn q=>F n<|.inl q) (λn q=>p n<|.inl q) b6;have X:=X.trans<|aX λn=>n b6;have S:=gZ▸(bH▸S);refine b3 c0 c2 E.2.2 l.2.2 (λn q=>F n<|.inr q) (λn q=>p n<|.inr q) (λm w=>(a3 m w).elim (Be P h I J.bk K.bk c4 m) .inl) (by exact aI<|aj [_,_,_,_,_] [] [.n 1 (.a (.a Z G)<|.m 2<|.a (.a v2 v3) W)<|.k 2000,.n 1 v4<|.a (.a Z W) v2,.n 1 (.a (.k 2000) W)<|.a (.a v4 G)<|.m 2 v3] rfl b S) ⟨λc7 a2 c8 c9=> ?_,λw=> ?_⟩
    ·have d0:=uq N E.2.2 l.2.2 (λn q=>F n<|.inr q) (λn q=>p n<|.inr q) c7
     subst c6 d0
     exact n.1 (rV j _) a2 (λm w=>Hp h I J.bk K.bk<|(c8 m w).elim (a3 m) .inr) (by show a2.length<=s.length+(x.num+y.num+1);exact aI<|aj [_,_,_,_,_] [] [.n 1 Z<|.a (.a G W) v2,.n 1 v3<|.a Z v4,.n 1 (.a (.a G<|.a (.a v2 v4) W) W) v3] rfl S c9)
    ·rw[<-X]at w ⊢;exact n.2 w
   ·have X:=X.trans<|aK w;rw[<-X]at w ⊢;exact n.2 w
def Nd (N:cN j) (e:H.length<=100000) {Q:Nat} {t u:T} {c d:ag} (D:bK j H c t) (f:bK j H d u) (g:bv j t) (h:bv j u) (i:ff Q t) (p:ff Q u) (b:t.num<=900):gy j (H.length+1) H [] [(c,d)]<|cD j t u:=Nb (L:=[]) N e D f g h i p (λm q=>eG (l:=[]) q) (by show 0+0+2*t.num<=2000;exact aI<|aj [_] [] [.n 2 Z<|.k 900,.n 1 (.a (.k 2000) W)<|.a (.a u0 u0)<|.m 2 Z] rfl b) ⟨λz A _ _=>U z<|.g3 _,λ_=>rfl⟩
end
end
noncomputable def gc (a b:Int):Int:=if a≠0 then a else b
structure jb (a b c:Int):Prop where
 l:a=0->c=b
 r:b=0->c=a
 n:a<0->b<0->c<0
 p:0<a->0<b->0<c
theorem jb.gc (h:jb a b c) (t:a=0->b=0->jb i j m):jb (gc a i) (gc b j)<|gc c m:=by
 obtain⟨u,w,o,s⟩:=h
 by_cases f:a=0
 ·have g:=u f
  by_cases d:b=0
  ·obtain⟨e,q,x,y⟩:=t f d;have g:c=0:=by exact vK (iA.mp<|aj [] [_,_] [.z 1 (.v 0)<|.v 1,.z 1 (.v 1)<|.k 0,.z 1 (.a (.k 0)<|.k 1)<|.v 0] rfl (gL g)<|gL d) (iA.mp<|aj [] [_,_] [.z 1 (.v 0)<|.v 1,.z 1 (.k 0)<|.v 0,.z 1 (.a (.v 1)<|.k 1)<|.k 0] rfl (gL g.symm)<|gL d.symm)
   subst f d g
   exact⟨e,q,x,y⟩
  ·subst f;refine U g ?_
   have e:∀z,Internal.gc b z=b:=λz=>aK d;refine U (e _)<|U (e _) ?_;exact⟨λ_=>rfl,λq=>bt q d,λ_ q=>q,λ_ q=>q⟩
 ·by_cases d:b=0
  ·have g:=w d
   subst d;refine U g ?_
   have e:∀z,Internal.gc a z=a:=λz=>aK f;refine U (e _)<|U (e _) ?_;exact⟨λq=>bt q f,λ_=>rfl,λq _=>q,λq _=>q⟩
  ·unfold Internal.gc
   refine U (aK f)<|U (aK d) ?_;refine⟨λq=>bt q f,λq=>bt q d,λq g=> ?_,λq g=> ?_⟩
   ·exact U (aK (by have:=o q g;exactλe=>aj [] [_] [.z 1 (.a (.v 0)<|.k 1)<|.k 0,.z 1 (.k 0)<|.v 0] rfl this<|gL e.symm))<|o q g
   ·exact U (aK (by have:=s q g;exactλe=>aj [] [_] [.z 1 (.a (.k 0)<|.k 1)<|.v 0,.z 1 (.v 0)<|.k 0] rfl this<|gL e))<|s q g
def xr (a b:Int):gc (-a) (-b)= -gc a b:=by
 unfold gc
 refine aZ (a=0) (λh=> ?_)<|λh=> ?_
 ·exact(U (aX λn=>n (al (-·) h))<|U (aX λn=>n h) rfl)
 ·exact U (aK h)<|U (aK λn=>h<|Int.neg_eq_zero.mp n) rfl
def GN (a:Int):gc a 0=a:=by
 unfold gc
 refine aZ (a=0) (λh=> ?_)<|λh=> ?_
 ·exact U (aX λn=>n h)<|U h rfl
 ·exact aK h
def sM:ee x y<0↔x<y:=by
 unfold ee
 by_cases h:x<y
 ·exact U (aK h) ⟨λ_=>h,λ_=>by decide⟩
 ·refine(U (aX h) ?_)
  by_cases g:y<x
  ·exact U (aK g) ⟨λz=>bt z (by decide),λz=>bt z h⟩
  ·exact U (aX g) ⟨λz=>bt z (by decide),λz=>bt z h⟩
def zI (x y:Int):ee y x= -ee x y:=by
 unfold ee
 by_cases h:x<y
 ·refine U (aK h)<|U (aX λq=>pI x<|Cs h q)<|U (aK h) ?_;rfl
 ·refine(U (aX h) ?_)
  by_cases g:y<x
  ·exact U (aK g)<|U (aK g)<|U (aX h) rfl
  ·refine U (aX g)<|U (aX g)<|U (aX h) ?_;rfl
def Hw:0< -a↔a<0:=⟨Int.neg_of_neg_pos,Vr⟩
def IH (x y z:Int):jb (ee x y) (ee y z)<|ee x z:=
 have c:∀{a b:Int},0<ee a b↔b<a:=λ{a b}=>U (zI b a) (Hw.trans sM)
 ⟨λq=>by exact U (pq q) rfl,λq=>by exact U (pq q) rfl,λq d=>sM.mpr<|Cs (sM.mp q)<|sM.mp d,λq d=>c.mpr<|Cs (c.mp d)<|c.mp q⟩
def DY (x y:List Nat):eV y x= -eV x y:=by
 unfold eV
 by_cases h:x<y
 ·refine U (aK h)<|U (aX λq=>VL x<|Kl h q)<|U (aK h) ?_;rfl
 ·refine(U (aX h) ?_)
  by_cases g:y<x
  ·exact U (aK g)<|U (aK g)<|U (aX h) rfl
  ·refine U (aX g)<|U (aX g)<|U (aX h) ?_;rfl
def vb:eV x y<0↔x<y:=by
 unfold eV
 by_cases h:x<y
 ·exact U (aK h) ⟨λ_=>h,λ_=>by decide⟩
 ·refine(U (aX h) ?_)
  by_cases g:y<x
  ·exact U (aK g) ⟨λz=>bt z (by decide),λz=>bt z h⟩
  ·exact U (aX g) ⟨λz=>bt z (by decide),λz=>bt z h⟩
def Te (x y z:List Nat):jb (eV x y) (eV y z)<|eV x z:=
 have c:∀{a b:List Nat},0<eV a b↔b<a:=λ{a b}=>U (DY b a) (Hw.trans vb)
 ⟨λq=>by exact U (xT q) rfl,λq=>by exact U (xT q) rfl,λq d=>vb.mpr<|Kl (vb.mp q)<|vb.mp d,λq d=>c.mpr<|Kl (c.mp d)<|c.mp q⟩
def vx (b:aw):T->Int|.v _=>0|.i z=>z|.a _=>0|.ay f _=>(fN b f).2|.ak f _ _=>(fN b f).2
def vy (b:aw):T->List Nat|.v _=>[]|.i z=>[]|.a k=>eJ b k|.ay f _=>eJ b (fN b f).1|.ak f _ _=>eJ b (fN b f).1
def qV (a:aw) (t u:T):Int:=gc (ee (bP t)<|bP u)<|gc (ee (vx a t)<|vx a u)<|eV (vy a t)<|vy a u
def vw (a:aw) (f g:Nat):Int:=gc (ee (fN a f).2 (fN a g).2)<|eV (eJ a (fN a f).1)<|eJ a (fN a g).1
def UB (a:aw) (f g:Nat):mT a f g=vw a f g:=by
 delta mT vw
 refine aZ (f=g) (λz=> ?_)<|λz=> ?_
 ·refine U (aK z)<|U z<|U (xS _)<|U (HW _) ?_;rfl
 ·refine U (aX z) ?_;rfl
def qW (a:aw) (t u:T):cU a t u=qV a t u:=by
 refine aZ (bP t=bP u) (λq=> ?_)<|λq=> ?_
 ·exact BH (C:=λt u=>cU a t u=qV a t u) q (λ_ _=>aX λn=>n rfl) (λx y=>vA.trans (GN _).symm) (λx y=>vz) λc b=>(ku c b).trans<|(UB ..).trans
   (la (C:=λt=>vw a (dY t) (dY u)=qV a t u) c (λf x=>la (C:=λu=>vw a f (dY u)=qV a (.ay f x) u) b (λ_ _=>rfl) λ_ _ _=>rfl) λf x y=>la (C:=λu=>vw a f (dY u)=qV a (.ak f x y) u) b (λ_ _=>rfl) λ_ _ _=>rfl)
 ·exact(vB q).trans (aK λz=>q<|pq z).symm
def UD (a:aw) (t u w:T):jb (cU a t u) (cU a u w)<|cU a t w:=U (qW _ _ _)<|U (qW _ _ _)<|U (qW _ _ _)<|(IH ..).gc λ_ _=>(IH ..).gc λ_ _=>Te ..
def UC (a:aw) (t u:T):cU a u t= -cU a t u:=by
 refine(U (qW _ _ _)<|U (qW _ _ _) ?_)
 unfold qV
 exact U (zI (bP t) _)<|U (zI (vx a t) _)<|U (DY (vy a t) _)<|U (xr _ _)<|U (xr _ _) rfl
def hl (a:aw):T->T->Int|.ay f x,.ay g y=>cD a x y|.ak f x b,.ak g y c=>gc (cD a x y)<|cD a b c|_,_=>0
def qq (a:aw) (t u:T):cD a t u=gc (cU a t u) (hl a t u):=by cases t<;>cases u<;>first|rfl|exact(GN _).symm
def EC (b:aw):∀t u:T,cD b u t= -cD b t u:=by
 have c:∀{t u},hl b u t= -hl b t u->cD b u t= -cD b t u:=λ{t u} h=>by exact U (qq _ _ _) (U (qq _ _ _)<|U (UC b t _)<|U h<|U (xr _ _) rfl)
 intro t
 induction t with
 |v n=>exactλu=>c (by cases u<;>rfl)|i n=>exactλu=>c (by cases u<;>rfl)|a n=>exactλu=>c (by cases u<;>rfl)|ay f x d=>exactλu=>c (by cases u<;>first|rfl|exact d _)|ak f x y d e=>exactλu=>c<|by cases u<;>first|rfl|exact(congr (al gc<|d _)<|e _).trans<|xr ..
def JB (z:cU a t u=0):bP t=bP u:=Vf λq=>q<|pq<|(vB q).symm.trans z
def yu (N:cN a) (c:bv a t) (d:bv a u) (z:cU a t u=0) (q:bP t=3):bP u=3/\dY t=dY u:=
 have b:=(JB z).symm.trans q
 ⟨b,fq (c.aA q) λp k h=>fq (d.aA b) λf g e=>w6 N h e<|(ku q b).symm.trans z⟩
def BD (h:bP t≠3):hl a t u=0:=by cases t<;>first|rfl|exact(h rfl).elim
def EF (N:cN b):∀{t u w:T},bv b t->bv b u->bv b w->ff m t->ff m u->ff m w->jb (cD b t u) (cD b u w) (cD b t w):=by
 have A:∀{t u w},(cU b t u=0->cU b u w=0->jb (hl b t u) (hl b u w) (hl b t w))->jb (cD b t u) (cD b u w) (cD b t w):=λ{t u w} h=>U (qq _ _ _)<|U (qq _ _ _)<|U (qq _ _ _)<|(UD ..).gc h;have g:∀{t u w},bP t≠3->jb (cD b t u) (cD b u w) (cD b t w):=λ{t u w} r=>A λz _=>(U (BD r)<|U (BD r)<|U (BD λq=>r<|(JB z).trans q) ⟨λ_=>rfl,λ_=>rfl,λq _=>q,λq _=>q⟩)
 intro t
 induction t with
 |v n=>exactλ_ _ _ _ _ _=>g (by show¬(0:Int)=3;decide)|i n=>exactλ_ _ _ _ _ _=>g (by show¬(1:Int)=3;decide)|a n=>exactλ_ _ _ _ _ _=>g (by show¬(2:Int)=3;decide)|ay f x s=>
  exactλ{u w} j c d p k l=>A λz o=>bx (yu N j c z rfl) λq e=>j.c9 (a:=λu=>bv b u->ff m u->cU b u w=0->jb (hl b (.ay f x) u) (hl b u w) (hl b (.ay f x) w)) c q e
   (λy c k o=>bx (yu N c d o rfl) λq e=>c.c9 (a:=λw=>bv b w->ff m w->jb (hl b (.ay f x)<|.ay f y) (hl b (.ay f y) w) (hl b (.ay f x) w)) d q e (λB d l=>s j.2 c.2 d.2 p k l) d l) c k o
 |ak f x s D E=>
  exactλ{u w} j c d p k l=>A λz o=>bx (yu N j c z rfl) λq e=>j.c5 (a:=λu=>bv b u->ff m u->cU b u w=0->jb (hl b (.ak f x s) u) (hl b u w) (hl b (.ak f x s) w)) c q e
   (λy v c k o=>bx (yu N c d o rfl) λq e=>c.c5 (a:=λw=>bv b w->ff m w->jb (hl b (.ak f x s)<|.ak f y v) (hl b (.ak f y v) w) (hl b (.ak f x s) w)) d q e
    (λB F d l=>(D j.2.1 c.2.1 d.2.1 (λn q=>p n<|.inl q) (λn q=>k n<|.inl q)<|λn q=>l n<|.inl q).gc λ_ _=>E j.2.2 c.2.2 d.2.2 (λn q=>p n<|.inr q) (λn q=>k n<|.inr q)<|λn q=>l n<|.inr q) d l) c k o
def Jz {a:aw} (b:f≠g) (c:a.aW[f]?=J (p,k)) (d:a.aW[g]?=J (q,k)):mT a f g=eV (eJ a p) (eJ a q):=by
 unfold mT
 refine U (aX b)<|U (si c)<|U (si d) ?_;exact aX λn=>n<|xS _
def Jy {a:aw} (b:a.aW[f]?=J (p,1)) (c:a.aW[g]?=J (q,2)):mT a f g= -1/\mT a g f=1:=by
 have d:f≠g:=λe=>bt (al rf<|aH<|(e▸b).symm.trans c) (by show¬(1:Nat)=2;decide)
 unfold mT
 refine U (aX d)<|U (aX d.symm)<|U (si b)<|U (si c) ?_;exact⟨rfl,rfl⟩
def ly (e:b=bj (cD a t u<0)) (h:ec a d t u b):ec a d t u<|bj<|cD a t u<0:=am e h
def jy (q:bP t≠bP u) (n:iQ t≠iQ u) (e:uR t=bP t/\uR u=bP u):ec a d t u<|bj<|cD a t u<0:=
 have b:cU a t u=ee (bP t) (bP u):=vB q;have c:cD a t u=ee (bP t) (bP u):=(qr<|U b<|λz=>q<|pq z).trans b
 ly (by refine U c<|U e.1<|U e.2 ?_;exact decide_eq_decide.mpr sM.symm)<|.kind n
def zN {b:aw} (S:∀s∈b.bf,s.length<=1000) (c:x<b.bf.length) (f:y<b.bf.length):ec b d (.a x) (.a y)<|bj<|eV (eJ b x) (eJ b y)<0:=
 have e:bj (eJ b x<eJ b y)=bj (eV (eJ b x) (eJ b y)<0):=decide_eq_decide.mpr vb.symm
 (am e<|.atom (pE c) (pE f) (S _<|em<|pE c)<|S _<|em<|pE f)
def Mv {o:aw} (N:cN o) (S:∀s∈o.bf,s.length<=1000) {t:T}:∀{u:T} {d:Nat},bv o t->bv o u->ff Q t->ff Q u->t.a0<=29->u.a0<=29->t.a0+1<=d->ec o d t u (bj<|cD o t u<0):=by
 induction t with
 |v n=>
  refineλ{u d} C w H J r A E=> ?_;cases u with
  |v m=>exact .fS _ _ _|i _=>exact jy (by show¬(0:Int)=1;decide) (by show¬"v"="i";decide) ⟨rfl,rfl⟩|a _=>exact jy (by show¬(0:Int)=2;decide) (by show¬"v"="a";decide) ⟨rfl,rfl⟩|_=>exact jy (by show¬(0:Int)=3;decide) (by show¬"v"="s";decide) ⟨rfl,rfl⟩
 |i n=>
  refineλ{u d} C w H J r A E=> ?_;cases u with
  |i m=>exact ly (decide_eq_decide.mpr<|am ((show cD o (.i n) (.i m)=ee n m from vA).symm) sM.symm)<|.I _ _ _|v _=>exact jy (by show¬(1:Int)=0;decide) (by show¬"i"="v";decide) ⟨rfl,rfl⟩|a _=>exact jy (by show¬(1:Int)=2;decide) (by show¬"i"="a";decide) ⟨rfl,rfl⟩|_=>exact jy (by show¬(1:Int)=3;decide) (by show¬"i"="s";decide) ⟨rfl,rfl⟩
 |a n=>
  refineλ{u d} C w H J r A E=> ?_;cases u with
  |a m=>exact ly (by exact U (show cD o (.a n) (.a m)=eV (eJ o n) (eJ o m)from vz) rfl)<|zN S C w|v _=>exact jy (by show¬(2:Int)=0;decide) (by show¬"a"="v";decide) ⟨rfl,rfl⟩|i _=>exact jy (by show¬(2:Int)=1;decide) (by show¬"a"="i";decide) ⟨rfl,rfl⟩|_=>exact jy (by show¬(2:Int)=3;decide) (by show¬"a"="s";decide) ⟨rfl,rfl⟩
 |ay l j b=>
  refineλ{u d} C w H J r A E=> ?_;cases d with
  |zero=>exact bt E<|rd _|succ d=>
  refine C.1.elim λp D=> ?_;cases u with
  |v _=>exact jy (by show¬(3:Int)=0;decide) (by show¬"s"="v";decide) ⟨rfl,rfl⟩|i _=>exact jy (by show¬(3:Int)=1;decide) (by show¬"s"="i";decide) ⟨rfl,rfl⟩|a _=>exact jy (by show¬(3:Int)=2;decide) (by show¬"s"="a";decide) ⟨rfl,rfl⟩|ak m k z=>exact w.1.elim λq B=>have F:cU o (.ay l j) (.ak m k z)= -1:=(ku rfl rfl).trans (Jy D B).1;ly (by refine U (qr<|U F<|by decide)<|U F ?_;rfl) (.s4 r A)|ay m k=>
   refine aZ (l=m) (λq=> ?_)<|λq=> ?_
   ·subst q
    have e:cD o (.ay l j) (.ay l k)=cD o j k:=wK<|(ku rfl rfl).trans<|aK rfl;refine aZ (j=k) (λq=> ?_)<|λq=> ?_
    ·subst q;exact ly (by refine U (rV _ _) ?_;rfl)<|.eg rfl r
    ·exact ly (by exact U e rfl)<|.s8 q r A<|b C.2 w.2 H J (fn r) (fn A)<|jn E
   ·exact w.1.elim λM B=>have F:cU o (.ay l j) (.ay m k)=eV (eJ o p) (eJ o M):=(ku rfl rfl).trans<|Jz q D B;have O:cU o (.ay l j) (.ay m k)≠0:=λz=>q<|w6 N D B<|(ku rfl rfl).symm.trans z;ly (by exact U (qr O)<|U F rfl) (.s6 q r A D B<|zN S (N.lR _<|em D)<|N.lR _<|em B)
 |ak l j K a0 a1=>
  refineλ{u d} C w H J r A E=> ?_;cases d with
  |zero=>exact bt E<|rd _|succ d=>
  refine C.1.elim λp D=> ?_;cases u with
  |v _=>exact jy (by show¬(3:Int)=0;decide) (by show¬"s"="v";decide) ⟨rfl,rfl⟩|i _=>exact jy (by show¬(3:Int)=1;decide) (by show¬"s"="i";decide) ⟨rfl,rfl⟩|a _=>exact jy (by show¬(3:Int)=2;decide) (by show¬"s"="a";decide) ⟨rfl,rfl⟩|ay m k=>exact w.1.elim λq B=>have F:cU o (.ak l j K) (.ay m k)=1:=(ku rfl rfl).trans (Jy B D).2;ly (by refine U (qr<|U F<|by decide)<|U F ?_;rfl) (.s5 A r)|ak m k L=>
   refine aZ (l=m) (λq=> ?_)<|λq=> ?_
   ·subst q
    have e:=wL (j:=o) (f:=l) (g:=l) (x:=j) (y:=k) (a:=K) (b:=L)<|(ku rfl rfl).trans<|aK rfl;have R:∀{a b c:Nat},oz a b+1<=c+1->a<=c/\b<=c:=λh=>⟨aF (mc _ _)<|jn h,aF (na _ _)<|jn h⟩;have V:=R (c:=28) r;have X:=R (c:=28) A;have Y:j.a0+1<=d/\K.a0+1<=d:=⟨aF (dv<|mc _ _)<|jn E,aF (dv<|na _ _)<|jn E⟩;refine aZ (j=k) (λq=> ?_)<|λq=> ?_
    ·subst q
     have e:=e.trans<|aX λn=>n<|rV o j;refine aZ (K=L) (λP=> ?_)<|λP=> ?_
     ·subst P;exact ly (by refine U (rV _ _) ?_;rfl)<|.eg rfl r
     ·exact ly (by exact U e rfl)<|.tk P r A<|a1 C.2.2 w.2.2 (λn q=>H n<|.inr q) (λn q=>J n<|.inr q) (lh V.2) (lh X.2) Y.2
    ·have z:cD o j k≠0:=λz=>q<|uq N C.2.1 w.2.1 (λn q=>H n<|.inl q) (λn q=>J n<|.inl q) z;exact ly (by exact U e<|U (aK z) rfl)<|.s9 q r A<|a0 C.2.1 w.2.1 (λn q=>H n<|.inl q) (λn q=>J n<|.inl q) (lh V.1) (lh X.1) Y.1
   ·exact w.1.elim λM B=>have F:cU o (.ak l j K) (.ak m k L)=eV (eJ o p) (eJ o M):=(ku rfl rfl).trans<|Jz q D B;have O:cU o (.ak l j K) (.ak m k L)≠0:=λz=>q<|w6 N D B<|(ku rfl rfl).symm.trans z;ly (by exact U (qr O)<|U F rfl) (.s7 q r A D B<|zN S (N.lR _<|em D)<|N.lR _<|em B)
section
def JQ {i:Type} {r:i->i->Prop} (j:∀a b,r a b->r b a->False):∀c d:List i,c.Pairwise r->d.Pairwise r->(∀x,x∈c↔x∈d)->c=d:=by
 intro c
 induction c with
 |nil=>
  intro d _ _ h
  cases d with
  |nil=>rfl|cons b d=>exact eG (l:=[])<|(h b).mpr<|.head _
 |cons a c k=>
  intro d p n h
  cases d with
  |nil=>exact eG (l:=[])<|(h a).mp<|.head _|cons b d=>
   have f:=gu.mp p;have g:=gu.mp n;have e:a=b:=(bY.mp<|(h a).mp<|.head _).elim id λe=>(bY.mp<|(h b).mpr<|.head _).elim hB λo=>(j a b (f.1 b o)<|g.1 a e).elim
   subst e
   exact al _<|k d f.2 g.2 λx=>⟨λm=>(bY.mp<|(h x).mp<|.tail _ m).elim (λe=>(j x x (e▸f.1 x m)<|e▸f.1 x m).elim) id,λm=>(bY.mp<|(h x).mpr<|.tail _ m).elim (λe=>(j x x (e▸g.1 x m)<|e▸g.1 x m).elim) id⟩
structure lv (n:Nat) (c:Nat->Nat->Int):Prop where
 oS:∀a b,a<n->b<n->c b a= -c a b
 yy:∀a b d,a<n->b<n->d<n->jb (c a b) (c b d) (c a d)
def gh (n:Nat) (c:Nat->Nat->Int) (a b:Nat):Prop:=a<n/\b<n/\(c a b<0\/c a b=0/\a<b)
def kK (n:Nat) (c:Nat->Nat->Int) (a b:Nat):Prop:=a<n/\b<n/\c a b<0
section
variable {n:Nat} {c:Nat->Nat->Int}
def gh.t6 (O:lv n c) (a b:Nat) (h:gh n c a b) (g:gh n c b a):False:=by
 refine dq h λd f i=> ?_;have e:=O.oS a b d f;refine i.elim (λx=> ?_) λx=> ?_
 ·have y:0<c b a:=e▸Vr x;exact g.2.2.elim (Int.lt_asymm y) λz=>Int.ne_of_gt y z.1
 ·have y:c b a=0:=e.trans<|U x.1 rfl;exact g.2.2.elim (λz=>Int.ne_of_lt z y) λz=>KA x.2 z.2
theorem gh.trans (O:lv n c) {a b d:Nat} (h:gh n c a b) (g:gh n c b d):gh n c a d:=by
 refine cps λq i=> ?_;refine dq h λj s e=> ?_;refine dq g λ_ o f=> ?_;obtain⟨l,r,m,p⟩:=O.yy a b d j s o;refine i ?_;refine bB j o<|?_;refine cps λq i=> ?_;rcases e with e|⟨e,t⟩<;>rcases f with f|⟨f,u⟩
 ·exact i<|.inl<|m e f
 ·exact i (.inl<|by refine U (r f) ?_;exact e)
 ·exact i (.inl<|by refine U (l e) ?_;exact f)
 ·exact i<|.inr ⟨by refine cJ (l e) ?_;exact f,by exact bo<|aj [_,_,_] [] [.n 1 (.a Z W) G,.n 1 (.a G W) v2,.n 1 v2 Z] rfl t u⟩
def Rw (O:lv n c):∀(d r:List Nat),(∀x∈d,x<n)->(∀x∈r,x<n)->d.Pairwise (gh n c)->r.Pairwise (gh n c)->(∀a∈d,∀b∈r,a<b)->(fm c aa d r).Pairwise (gh n c)/\∀x,x∈fm c aa d r↔x∈d\/x∈r:=by
 refine xA (c:=c) (u:=aa) (P:=λd r m=>(∀x∈d,x<n)->(∀x∈r,x<n)->d.Pairwise (gh n c)->r.Pairwise (gh n c)->(∀a∈d,∀b∈r,a<b)->m.Pairwise (gh n c)/\∀x,x∈m↔x∈d\/x∈r) ?_ ?_ ?_ ?_ ?_
 ·exactλr f g i j o=>⟨j,λx=>⟨.inr,λh=>h.elim (λh=>nomatch h) id⟩⟩
 ·exactλa d f g i j o=>⟨i,λx=>⟨.inl,λh=>h.elim id<|λh=>nomatch h⟩⟩
 ·exactλa b d r m e=>nomatch e
 ·intro a b d r m z H t f g i j o
  obtain⟨w,E⟩:=gu.mp i;refine bx (gu.mp j) λA F=> ?_;have p:=f a<|.head _;have s:=g b<|.head _;refine bx (t (λx q=>f x<|.tail _ q) g E j λx q y B=>o x (.tail _ q) y B) λC e=> ?_;have h:gh n c a b:=bB p s<|(J6 z).imp id λz=>⟨z,o a (.head _) b<|.head _⟩;refine⟨gu.mpr ⟨λx D=> ?_,C⟩,λx=> ?_⟩
  ·refine gf ((e x).mp D) (λq=> ?_)<|λq=> ?_
   ·exact w x q
   ·refine gf (bY.mp q) (λq=> ?_)<|λq=> ?_
    ·subst q;exact h
    ·exact h.trans O<|A x q
  ·rw[bY,e,bY,bY];exact or_assoc.symm
 ·intro a b d r m z t f g i j o
  obtain⟨w,E⟩:=gu.mp i;refine bx (gu.mp j) λA F=> ?_;have p:=f a<|.head _;have s:=g b<|.head _;obtain⟨C,e⟩:=t f (λx q=>g x<|.tail _ q) i F λx q y B=>o x q y<|.tail _ B;have h:gh n c b a:=bB s p<|.inl (by have:=O.oS a b p s;exact pJ.mp<|aj [] [_,_] [.z 1 (.a (.k 0)<|.k 1)<|.v 0,.z 1 (.v 1)<|.n<|.v 0,.z 1 (.k 0)<|.v 1] rfl (pJ.mp z)<|gL this);refine⟨gu.mpr ⟨λx D=> ?_,C⟩,λx=> ?_⟩
  ·refine gf ((e x).mp D) (λq=> ?_)<|λq=> ?_
   ·refine gf (bY.mp q) (λq=> ?_)<|λq=> ?_
    ·subst q;exact h
    ·exact h.trans O<|w x q
   ·exact A x q
  ·rw[bY,e,bY (l:=r)];exact or_left_comm
def Rx (O:lv n c):∀(l r:List Nat),(∀x∈l,x<n)->(∀x∈r,x<n)->l.Pairwise (kK n c)->r.Pairwise (kK n c)->(fm c ac l r).Pairwise (kK n c)/\(∀x∈fm c ac l r,x∈l\/x∈r)/\∀x,x∈l\/x∈r->∃y∈fm c ac l r,c x y=0:=by
 have i:∀x,x<n->c x x=0:=λx h=>by have:=O.oS x x h h;exact vK (iA.mp<|aj [] [_] [.z 1 (.v 0)<|.n<|.v 0,.z 2 (.a (.k 0)<|.k 1)<|.v 0] rfl<|gL this)<|iA.mp<|aj [] [_] [.z 1 (.n<|.v 0)<|.v 0,.z 2 (.a (.v 0)<|.k 1)<|.k 0] rfl<|gL this.symm
 have M:∀{a b d:Nat},kK n c a b->kK n c b d->kK n c a d:=λh g=>bB (h.1) (g.2.1)<|(O.yy _ _ _ h.1 h.2.1 g.2.1).n h.2.2 g.2.2;have j:∀{x a:Nat} {m:List Nat},(∃y∈m,c x y=0)->∃y∈a::m,c x y=0:=λN=>ah N λy h e=>ax y (.tail _ h) e;refine xA (c:=c) (u:=ac) (P:=λl r m=>(∀x∈l,x<n)->(∀x∈r,x<n)->l.Pairwise (kK n c)->r.Pairwise (kK n c)->m.Pairwise (kK n c)/\(∀x∈m,x∈l\/x∈r)/\∀x,x∈l\/x∈r->∃y∈m,c x y=0) ?_ ?_ ?_ ?_ ?_
 ·exactλr p o t w=>bB w (λx h=>.inr h)<|λx q=>q.elim (λq=>nomatch q) λq=>ax x q<|i x<|o x q
 ·exactλa l p o t w=>bB t (λx h=>.inl h)<|λx q=>q.elim (λq=>ax x q<|i x<|p x q) λq=>nomatch q
 ·intro a b l r m _ J D p o t w
  obtain⟨E,K⟩:=gu.mp t;obtain⟨F,L⟩:=gu.mp w;have s:=p a<|.head _;have A:=o b<|.head _;obtain⟨H,B,C⟩:=D (λx q=>p x<|.tail _ q) (λx q=>o x<|.tail _ q) K L;refine(bB (gu.mpr ⟨λx f=> ?_,H⟩) (λx f=> ?_)<|λx f=> ?_)
  ·refine gf (B x f) (λq=> ?_)<|λq=> ?_
   ·exact E x q
   ·have I:=o x<|.tail _ q;exact bB s I (by refine U ((O.yy a b x s A I).l J) ?_;exact(F x q).2.2)
  ·rcases bY.mp f with rfl|f
   ·exact .inl<|.head _
   ·exact(B x f).imp (.tail _)<|.tail _
  ·rcases f with q|q<;>refine gf (bY.mp q) (λq=> ?_)<|λq=> ?_
   ·subst q;exact ax x (.head _)<|i x s
   ·exact j<|C x<|.inl q
   ·subst q;exact ax a (.head _) (by refine U (O.oS a x s A)<|U J ?_;rfl)
   ·exact j<|C x<|.inr q
 ·intro a b l r m z J D p o t w
  obtain⟨E,K⟩:=gu.mp t;obtain⟨F,L⟩:=gu.mp w;have s:=p a<|.head _;have A:=o b<|.head _;have I:kK n c a b:=bB s A<|(J6 z).resolve_right λe=>J ⟨e,rfl⟩;refine dq (D (λx q=>p x<|.tail _ q) o K w) λH B C=> ?_;refine(bB (gu.mpr ⟨λx f=> ?_,H⟩) (λx f=> ?_)<|λx f=> ?_)
  ·refine gf (B x f) (λq=> ?_)<|λq=> ?_
   ·exact E x q
   ·refine gf (bY.mp q) (λq=> ?_)<|λq=> ?_
    ·subst q;exact I
    ·exact M I<|F x q
  ·rcases bY.mp f with rfl|f
   ·exact .inl<|.head _
   ·exact(B x f).imp (.tail _) id
  ·rcases f with q|q
   ·refine gf (bY.mp q) (λq=> ?_)<|λq=> ?_
    ·subst q;exact ax x (.head _)<|i x s
    ·exact j<|C x<|.inl q
   ·exact j<|C x<|.inr q
 ·intro a b l r m z D p o t w
  refine bx (gu.mp t) λE K=> ?_;refine bx (gu.mp w) λF L=> ?_;have s:=p a<|.head _;have A:=o b<|.head _;have I:kK n c b a:=bB A s (by have:=O.oS a b s A;exact pJ.mp<|aj [] [_,_] [.z 1 (.a (.k 0)<|.k 1)<|.v 0,.z 1 (.v 1)<|.n<|.v 0,.z 1 (.k 0)<|.v 1] rfl (pJ.mp z)<|gL this);obtain⟨H,B,C⟩:=D p (λx q=>o x<|.tail _ q) t L;refine(bB (gu.mpr ⟨λx f=> ?_,H⟩) (λx f=> ?_)<|λx f=> ?_)
  ·refine gf (B x f) (λq=> ?_)<|λq=> ?_
   ·refine gf (bY.mp q) (λq=> ?_)<|λq=> ?_
    ·subst q;exact I
    ·exact M I<|E x q
   ·exact F x q
  ·rcases bY.mp f with rfl|f
   ·exact .inr<|.head _
   ·exact(B x f).imp id<|.tail _
  ·refine gf f (λq=> ?_)<|λq=> ?_
   ·exact j<|C x<|.inl q
   ·refine gf (bY.mp q) (λq=> ?_)<|λq=> ?_
    ·subst q;exact ax x (.head _)<|i x A
    ·exact j<|C x<|.inr q
set_option tactic.hygienic true in
def I8 {u:Bool} {Q:List (List Nat)->Prop} (h:∀e,Q e->Q (fQ c u e)):∀(k:Nat) (e:List<|List Nat),Q e->e.length<=k+1->∃f,Q f/\f.length<=1/\gU c u k e=f.headD []:=by
 intro k
 induction k with
 |zero=>intro e q b;exact cM e q (by exact aI<|aj [_] [] [.n 1 Z<|.a u0 W,.n 1 (.a W W) Z] rfl b) rfl|succ k g=>
  intro e q b
  refine aZ (e.length<=1) (λz=>cM e q z<|aK z) λz=> ?_;refine bR (g _ (h e q)<|by refine U (vc _ _ _) ?_;exact vT<|V3<|dK (dv b)<|U (Wh<|k+2)<|Kv (Wf<|hF k)<|k+2) λx y i d=>cM x y i<|(aX z).trans d
structure tV (n:Nat) (c:Nat->Nat->Int) (RS:List<|List Nat):Prop where
 p:∀R∈RS,R.Pairwise (gh n c)
 b:∀R∈RS,∀x∈R,x<n
 o:RS.Pairwise λR R'=>∀a∈R,∀b∈R',a<b
def So (O:lv n c):∀k,tV n c k->tV n c (fQ c aa k)/\∀x,(∃R∈fQ c aa k,x∈R)↔∃R∈k,x∈R:=
 ou (λh=>⟨h,λx=>J3⟩) (λa h=>⟨h,λx=>J3⟩) λA B r p h=>by
  obtain⟨l,i,s⟩:=h;refine bx (gu.mp s) λo t=> ?_;refine bx (gu.mp t) λu v=> ?_;obtain⟨⟨w,y,z⟩,m⟩:=p ⟨λR q=>l R<|.tail _<|.tail _ q,λR q=>i R<|.tail _<|.tail _ q,v⟩;refine bx (Rw O A B (i A<|.head _) (i B<|.tail _<|.head _) (l A<|.head _) (l B<|.tail _<|.head _)<|o B<|.head _) λC j=> ?_;show tV n c (_::fQ c aa r)/\∀x,(∃R∈_::fQ c aa r,x∈R)↔_;refine⟨⟨λR q=> ?_,λR q=> ?_,gu.mpr ⟨λR q a D b E=> ?_,z⟩⟩,λx=> ?_⟩
  ·rcases bY.mp q with rfl|q
   ·exact C
   ·exact w R q
  ·rcases bY.mp q with rfl|q
   ·intro x d
    refine gf ((j x).mp d) (λq=> ?_)<|λq=> ?_
    ·exact i A (.head _) x q
    ·exact i B (.tail _<|.head _) x q
   ·exact y R q
  ·refine ah ((m b).mp<|ax R q E) λe f g=> ?_;refine gf ((j a).mp D) (λq=> ?_)<|λq=> ?_
   ·exact o e (.tail _ f) a q b g
   ·exact u e f a q b g
  ·constructor
   ·rintro⟨R,q,d⟩;rcases bY.mp q with rfl|q
    ·rcases(j x).mp d with q|q
     ·exact ax A (.head _) q
     ·exact ax B (.tail _<|.head _) q
    ·exact ah ((m x).mp<|ax R q d) λe f g=>ax e (.tail _<|.tail _ f) g
   ·rintro⟨R,q,d⟩;rcases bY.mp q with rfl|q
    ·exact ax _ (.head _)<|(j x).mpr<|.inl d
    ·rcases bY.mp q with rfl|q
     ·exact ax _ (.head _)<|(j x).mpr<|.inr d
     ·exact ah ((m x).mpr<|ax R q d) λe f g=>ax e (.tail _ f) g
structure tW (n:Nat) (c:Nat->Nat->Int) (RS:List<|List Nat):Prop where
 p:∀R∈RS,R.Pairwise (kK n c)
 b:∀R∈RS,∀x∈R,x<n
def Sp (O:lv n c):∀g,tW n c g->tW n c (fQ c ac g)/\∀x,(∃R∈g,x∈R)->∃R∈fQ c ac g,∃y∈R,c x y=0:=by
 refine ou ?_ ?_ ?_
 ·exactλh=>⟨h,λx d=>ah d λR q _=>by cases q⟩
 ·exactλa h=>⟨h,λx d=>ah d λR q b=>⟨R,q,x,b,by have:=O.oS x x (h.b R q x b)<|h.b R q x b;exact vK (iA.mp<|aj [] [_] [.z 1 (.v 0)<|.n<|.v 0,.z 2 (.a (.k 0)<|.k 1)<|.v 0] rfl<|gL this)<|iA.mp<|aj [] [_] [.z 1 (.n<|.v 0)<|.v 0,.z 2 (.a (.v 0)<|.k 1)<|.k 0] rfl<|gL this.symm⟩⟩
 ·intro A B r m h
  obtain⟨i,d⟩:=h;refine bx (m ⟨λR q=>i R<|.tail _<|.tail _ q,λR q=>d R<|.tail _<|.tail _ q⟩) λj o=> ?_;obtain⟨p,s⟩:=j;refine dq (Rx O A B (d A<|.head _) (d B<|.tail _<|.head _) (i A<|.head _)<|i B<|.tail _<|.head _) λt u l=> ?_;show tW n c (_::fQ c ac r)/\∀x,_->∃R∈_::fQ c ac r,_;refine⟨⟨λR q=> ?_,λR q=> ?_⟩,λx=> ?_⟩
  ·rcases bY.mp q with rfl|q
   ·exact t
   ·exact p R q
  ·rcases bY.mp q with rfl|q
   ·intro x b
    refine gf (u x b) (λq=> ?_)<|λq=> ?_
    ·exact d A (.head _) x q
    ·exact d B (.tail _<|.head _) x q
   ·exact s R q
  ·rintro⟨R,q,b⟩;rcases bY.mp q with rfl|q
   ·exact ah (l x<|.inl b) λy e f=>⟨_,.head _,y,e,f⟩
   ·rcases bY.mp q with rfl|q
    ·exact ah (l x<|.inr b) λy e f=>⟨_,.head _,y,e,f⟩
    ·exact ah (o x<|ax R q b) λw e f=>ax w (.tail _ e) f
def vm {n:Nat} {R:List Nat} (h:R∈dV n):∃i,i<n/\R=[i]:=by simp only[dV,rc,CB]at h;exact ah h λi a e=>ax i a e.symm
def I6 (O:lv n c):(gU c aa n<|dV n).Pairwise (gh n c)/\∀x,x∈gU c aa n (dV n)↔x<n:=by
 have g:tV n c (dV n)/\∀x,(∃R∈dV n,x∈R)↔x<n:=by
  refine⟨⟨λR h=> ?_,λR h=> ?_,?_⟩,λx=> ?_⟩
  ·refine ah (vm h) λi _ d=> ?_;subst d;exact VV ..
  ·refine ah (vm h) λi f d=> ?_;subst d
   intro x e
   refine U (dk.mp e) ?_;exact f
  ·unfold dV
   refine vI Kn ?_;exact List.pairwise_lt_range.imp λh a j b k=>by refine U (dk.mp j)<|U (dk.mp k) ?_;exact h
  ·exact⟨λj=>ah j λR h e=>by refine ah (vm h) λi f d=> ?_;subst d;refine U (dk.mp e) ?_;exact f,λe=>ax ([x]) (by simp[dV];exact e)<|.head _⟩
 refine bR (I8 (c:=c) (u:=aa) (Q:=λf=>tV n c f/\∀x,(∃R∈f,x∈R)↔x<n) (λf h=>by
  refine bx (So O f h.1) λa b=> ?_
  exact⟨a,λx=>(b x).trans<|h.2 x⟩) n (dV n) g<|by simp[dV]) λf d l e=> ?_
 obtain⟨⟨b,i,j⟩,a⟩:=d;refine(U e ?_)
 match f,l with
 |[],_=>exact⟨.nil,λx=>by have:=a x;simpa using this⟩|[R],_=>exact⟨b R<|.head _,λx=>by have:=a x;simpa using this⟩
def I7 (O:lv n c):(gU c ac n<|dV n).Pairwise (kK n c)/\(∀x∈gU c ac n (dV n),x<n)/\∀x,x<n->∃y∈gU c ac n (dV n),c x y=0:=by
 have g:∀x,x<n->c x x=0:=λx h=>by have:=O.oS x x h h;exact vK (iA.mp<|aj [] [_] [.z 1 (.v 0)<|.n<|.v 0,.z 2 (.a (.k 0)<|.k 1)<|.v 0] rfl<|gL this)<|iA.mp<|aj [] [_] [.z 1 (.n<|.v 0)<|.v 0,.z 2 (.a (.v 0)<|.k 1)<|.k 0] rfl<|gL this.symm
 have s:tW n c (dV n)/\∀x,x<n->∃R∈dV n,∃y∈R,c x y=0:=by
  refine⟨⟨λR h=> ?_,λR h=> ?_⟩,λx d=> ?_⟩
  ·obtain⟨i,_,rfl⟩:=vm h;exact VV ..
  ·obtain⟨i,e,rfl⟩:=vm h
   intro x d
   refine U (dk.mp d) ?_;exact e
  ·exact⟨[x],by simp[dV];exact d,x,.head _,g x d⟩
 refine bR (I8 (c:=c) (u:=ac) (Q:=λf=>tW n c f/\∀x,x<n->∃R∈f,∃y∈R,c x y=0) (λf h=>by
  refine bx (Sp O f h.1) λa b=> ?_;refine⟨a,λx d=> ?_⟩;refine cps λB t=> ?_;obtain⟨R,o,y,p,w⟩:=h.2 x d;obtain⟨i,q,j,r,A⟩:=b y<|ax R o p;refine t ?_
  exact⟨i,q,j,r,by refine cJ ((O.yy x y j d (h.1.b R o y p)<|a.b i q j r).l w) ?_;exact A⟩) n (dV n) s<|by simp[dV]) λf m l e=> ?_
 obtain⟨⟨o,p⟩,j⟩:=m;refine(U e ?_)
 match f,l with
 |[],_=>exact bB (.nil) (λx d=>by simp at d) (λx d=>by refine ah (j x d) λR h _=> ?_;cases h)|[R],_=>exact bB (o R<|.head _) (p R<|.head _) (λx d=>by refine ah (j x d) λi h k=> ?_;have k:=(dk.mp h)▸k;exact k)
noncomputable def lP (p:Nat->Bool) (l:List Nat):Nat->Nat|0=>0|k+1=>if p (l.getD k 0)then lP p l k else k+1
def nv (b:Nat->Nat->Bool) (l:List Nat) (x:Nat):List Nat:=l.take (lP (b x) l l.length)++x::l.drop (lP (b x) l l.length)
def Sx (f:Nat->T) (p:T->Bool) (l:List Nat):∀k,k<=l.length->lO p (l.map f) k=lP (λa=>p<|f a) l k:=by
 intro k
 induction k with
 |zero=>intro _;rfl|succ k b=>
  intro h
  have e:(l.map f).getD k cQ=f (l.getD k 0):=by refine U iB<|U iB<|U lg<|U (fd<|by exact bo<|aj [_,_] [] [.n 1 (.a Z W) G,.n 1 G Z] rfl h) ?_;rfl
  show(if p ((l.map f).getD k cQ)then lO p (l.map f) k else k+1)=(if p (f<|l.getD k 0)then lP (λa=>p<|f a) l k else k+1);rw[e,b<|by exact aI<|aj [_,_] [] [.n 1 (.a Z W) G,.n 1 (.a G W) Z] rfl h]
def Ql (f:Nat->T) (c:T->T->Bool) (l:List Nat) (x:Nat):kV c (l.map f) (f x)=(nv (λa b=>c (f a)<|f b) l x).map f:=by
 delta kV nv
 refine U (bX _)<|U (Sx f _ l _<|bE _) ?_;simp
def R_ (f:Nat->T) (d:T->T->Bool) (c:List Nat):∀l:List Nat,(c.map f).foldl (kV d) (l.map f)=(c.foldl (nv λa b=>d (f a)<|f b) l).map f:=by
 induction c with
 |nil=>intro l;rfl|cons x c e=>intro l;refine U jW<|U Ke<|U (Ql _ _ _ _)<|U (e _) ?_;rfl
set_option tactic.hygienic true in
def Sv (p:Nat->Bool) (l:List Nat):∀k,k<=l.length->lP p l k<=k/\(∀i,lP p l k<=i->i<k->p (l.getD i 0)=ac)/\(0<lP p l k->p (l.getD (lP p l k-1) 0)=aa):=by
 intro k
 induction k with
 |zero=>intro _;exact bB (bE _) (λi h g=>(KD _ g).elim)<|λh=>(lj 0 h).elim|succ k j=>
  intro h
  have e:lP p l (k+1)=if p (l.getD k 0)then lP p l k else k+1:=rfl
  rw[e]
  split
  ·rename_i z
   refine dq (j<|by exact aI<|aj [_,_] [] [.n 1 (.a Z W) G,.n 1 (.a G W) Z] rfl h) λa b d=> ?_;refine bB (by exact aI<|aj [_,_] [] [.n 1 Z G,.n 1 (.a (.a G W) W) Z] rfl a) (λi c f=> ?_) d;refine aZ (i=k) (λq=> ?_)<|λq=> ?_
   ·subst q;exact z
   ·exact b i c<|CK (vT f) q
  ·rename_i z
   exact bB (bE _) (λi c f=>bt f<|oB.mpr c)<|λ_=>by simpa using z
def Qk (O:lv n c) {l:List Nat} (j:x<n) (t:∀y∈l,y<x) (p:l.Pairwise<|gh n c):(nv (λa b=>bj<|c a b<0) l x).Pairwise (gh n c)/\∀y,y∈nv (λa b=>bj<|c a b<0) l x↔y∈l\/y=x:=by
 refine dq (Sv (λb=>bj<|c x b<0) l l.length<|bE _) λw A B=> ?_
 unfold nv
 generalize lP (λb=>bj<|c x b<0) l l.length=k at*;have u:=p;rw[<-VX k l]at u;refine dq (VU.mp u) λC D E=> ?_
 have g:∀y∈l.drop k,gh n c x y:=λy o=>by obtain⟨i,h,e⟩:=VF o;rw[List.getElem_drop]at e;rw[Ki]at h;have z:=A (k+i) (by exact aI<|aj [_,_] [] [.n 1 (.a (.a Z G) W) Z] rfl)<|VZ h;rw[iB,fd<|VZ h]at z;simp only[Wk,decide_eq_true_eq]at z;rw[e]at z;exact bB j (by have:=t y<|VO o;exact bo<|aj [_,_,_] [] [.n 1 (.a Z W) G,.n 1 (.a v2 W) Z,.n 1 G v2] rfl j this)<|.inl z
 have d:∀y∈l.take k,gh n c y x:=λy o=>by
  refine aZ (k=0) (λr=> ?_)<|λr=> ?_
  ·subst r;simp at o
  ·have z:=B<|Nat.pos_of_ne_zero r;have s:k-1<l.length:=dL (Nat.sub_one_lt r) w;rw[iB,fd s]at z;simp only[Wk,decide_eq_false_iff_not]at z;have m:=t _<|Kg s;have f:gh n c l[k-1] x:=bB (by exact bo<|aj [_,_,_] [] [.n 1 (.a Z W) G,.n 1 (.a v2 W) Z,.n 1 G v2] rfl j m) j (by have:=O.oS x l[k-1] j (by exact bo<|aj [_,_,_] [] [.n 1 (.a Z W) G,.n 1 (.a v2 W) Z,.n 1 G v2] rfl j m);rw[this];exact(J6<|iA.mp z).elim (λp=>.inl<|Int.neg_neg_of_pos p) λp=>.inr ⟨am p rfl,m⟩);obtain⟨i,h,e⟩:=VF o;rw[List.getElem_take]at e;rw[vO]at h;refine aZ (i=k-1) (λq=> ?_)<|λq=> ?_
   ·subst q;refine am e ?_;exact f
   ·have:=List.pairwise_iff_getElem.mp p i (k-1) (dL h<|V8 _ _) s<|CK (CJ<|dL h<|V7 _ _) q;rw[e]at this;exact this.trans O f
 refine⟨VU.mpr<|bB C (gu.mpr ⟨g,D⟩)<|λa h b f=> ?_,λy=> ?_⟩
 ·rcases bY.mp f with rfl|q
  ·exact d a h
  ·exact E a h b q
 ·refine U (propext fB)<|U (propext bY) ?_;have e:y∈l↔y∈l.take k\/y∈l.drop k:=by rw[<-fB,VX]
  rw[e]
  constructor
  ·rintro(q|q|q)
   ·exact .inl<|.inl q
   ·exact .inr q
   ·exact .inl<|.inr q
  ·rintro((q|q)|q)
   ·exact .inl q
   ·exact .inr<|.inr q
   ·exact .inr<|.inl q
def AL (O:lv n c):∀m,m<=n->((ic m).foldl (nv λa b=>bj<|c a b<0) []).Pairwise (gh n c)/\∀y,y∈(ic m).foldl (nv λa b=>bj<|c a b<0) []↔y<m:=by
 intro m
 induction m with
 |zero=>intro _;exact⟨.nil,λy=>by simp⟩|succ m f=>
  intro h
  refine bx (f<|by exact aI<|aj [_,_] [] [.n 1 (.a Z W) G,.n 1 (.a G W) Z] rfl h) λa b=> ?_;refine U VW<|U List.foldl_append ?_;refine bx (Qk O (x:=m) (by exact bo<|aj [_,_] [] [.n 1 (.a Z W) G,.n 1 G Z] rfl h) (λy g=>(b y).mp g) a) λd e=> ?_;exact⟨d,λy=>by rw[Ke,List.foldl_nil,e,b];exact KC.symm⟩
end
def T1 {n:Nat} {c:Nat->Nat->Int} (O:lv n c):gU c aa n (dV n)=(ic n).foldl (nv λa b=>bj<|c a b<0) []:=bx (I6 O) λa b=>bx (AL O n<|bE _) λd e=>JQ (gh.t6 O) _ _ a d λx=>(b x).trans (e x).symm
def Nw (m:∀{a b d},r a b->r b d->r a d):∀(c:List T) (p:T),(∀x∈c,x=p\/r p x)->c.Pairwise (λa b=>a=b\/r a b)->(fL p c).Pairwise r/\(∀x∈fL p c,r p x/\x∈c)/\∀x∈c,x=p\/x∈fL p c:=by
 intro c
 induction c with
 |nil=>exactλp _ _=>⟨.nil,λx=>eG (l:=[]),λx=>eG (l:=[])⟩|cons y c i=>
  intro p h g
  have g:=gu.mp g;show(if y≠p then y::fL y c else fL y c).Pairwise r/\(∀x∈(if y≠p then y::fL y c else fL y c),r p x/\x∈y::c)/\∀x∈y::c,x=p\/x∈(if y≠p then y::fL y c else fL y c);refine aZ (y≠p) (λj=>U (aK j) ?_) λe=>U (aX e) ?_
  ·have k:r p y:=(h y<|.head _).resolve_left j
   exact dq (i y (λx f=>(g.1 x f).imp hB id) g.2) λa b d=>⟨gu.mpr ⟨λx f=>(b x f).1,a⟩,λx f=>(bY.mp f).elim (λe=>am e.symm (⟨k,.head _⟩:r p y/\y∈y::c)) λf=>⟨m k (b x f).1,.tail _ (b x f).2⟩,
    λx f=>.inr<|(bY.mp f).elim (λe=>U e<|.head _) λf=>(d x f).elim (λq=>U q<|.head _)<|.tail _⟩
  ·have e:y=p:=J2.mp e
   subst e
   exact dq (i y (λx f=>h x<|.tail _ f) g.2) λa b d=>⟨a,λx f=>⟨(b x f).1,.tail _ (b x f).2⟩,λx f=>(bY.mp f).elim .inl<|d x⟩
def Nt {c:T->T->Prop} (f:∀{a b d},c a b->c b d->c a d) {l:List T} (g:l.Pairwise<|λa b=>a=b\/c a b):(mF l).Pairwise c/\∀x,x∈mF l↔x∈l:=by
 cases l with
 |nil=>exact⟨.nil,λx=>J3⟩|cons p l=>
  obtain⟨h,i⟩:=gu.mp g;refine dq (Nw (r:=c) f l p (λx e=>(h x e).imp hB id) i) λa b d=> ?_;refine⟨gu.mpr ⟨λx e=>(b x e).1,a⟩,λx=>⟨λe=> ?_,λe=> ?_⟩⟩
  ·rcases bY.mp e with rfl|e
   ·exact .head _
   ·exact .tail _ (b x e).2
  ·rcases bY.mp e with rfl|e
   ·exact .head _
   ·refine gf (d x e) (λq=> ?_)<|λq=> ?_
    ·exact U q<|.head _
    ·exact .tail _ q
end
def hi (a:aw) (b:Bool):T->T->Bool:=λx y=>bj<|cD a (iP b x) (iP b y)<0
def eS (c:aw) (b:Bool) (a:List T):Nat->Nat->Int:=λi j=>cD c (iP b<|a.getD i cQ)<|iP b<|a.getD j cQ
def nY (a:aw) (b:Nat) (t:T):Prop:=bv a t/\ff b t
def qC (h:nY a c t):nY a c<|iP b t:=by
 cases b with
 |false=>exact h|true=>cases t with|ak f x y=>exact⟨h.1.2.1,λn q=>h.2 n<|.inl q⟩|_=>exact h
def sr (t:T):iP aa t=t:=by cases t<;>rfl
def A2 (b:Bool) (t:T):(iP b t).a0<=t.a0:=by
 cases b with
 |false=>refine U (sr _) ?_;exact bE _|true=>cases t with|ak f x y=>exact aF (mc _ _)<|ig _|_=>exact bE _
def lF {a:List T} (h:i<a.length):a.getD i cQ∈a:=U iB<|U (fd h)<|Kg h
def zX (N:cN e) {f:List T} (h:∀t∈f,nY e l t):lv f.length<|eS e c f:=
 ⟨λi j _ _=>EC e _ _,λi j k m n o=>by
  have a:=qC (b:=c)<|h _<|lF m;have g:=qC (b:=c)<|h _<|lF n;have d:=qC (b:=c)<|h _<|lF o
  exact EF N a.1 g.1 d.1 a.2 g.2 d.2⟩
def SU (a:List T):(ic a.length).map (λi=>a.getD i cQ)=a:=by refine Vy (by simp) λi c b=> ?_;simp[iB,b]
def Bl (b:Bool) (a:List T):eH (hi c b) a=((ic a.length).foldl (nv λi j=>bj<|eS c b a i j<0) []).map λi=>a.getD i cQ:=by have:=R_ (λi=>a.getD i cQ) (hi c b) (ic a.length) [];rw[SU]at this;exact this
def PO (N:cN c) {a:List T} (h:∀t∈a,nY c d t):(gU (eS c b a) aa a.length<|dV a.length).map (λi=>a.getD i cQ)=eH (hi c b) a:=U (Bl _ _)<|U (T1<|zX N h) rfl
def pn (a:aw) (b:Nat) (t u:T):Prop:=nY a b t/\nY a b u/\cD a t u<0
def pn.trans {c:aw} (N:cN c) {e:Nat} {a b d:T} (h:pn c e a b) (g:pn c e b d):pn c e a d:=bB (h.1) (g.2.1)<|(EF N h.1.1 h.2.1.1 g.2.1.1 h.1.2 h.2.1.2 g.2.1.2).n h.2.2 g.2.2
def PP (N:cN d) {e:List T} (h:∀t∈e,nY d g t):(gU (eS d aa e) ac e.length<|dV e.length).map (λi=>e.getD i cQ)=mF (eH (hi d aa) e):=by
 have O:=zX N (c:=aa) h;have o:∀i j,eS d aa e i j=cD d (e.getD i cQ) (e.getD j cQ):=λi j=>by unfold eS;exact U (sr _)<|U (sr _) rfl
 have p:∀i j,i<e.length->j<e.length->eS d aa e i j=0->e.getD i cQ=e.getD j cQ:=λi j f l z=>by rw[o]at z;have a:=h _<|lF f;have c:=h _<|lF l;exact uq N a.1 c.1 a.2 c.2 z
 have u:(eH (hi d aa) e).Pairwise λa c=>a=c\/pn d g a c:=by
  refine U (Bl _ _)<|U (propext Kn) ?_;refine(AL O _<|bE _).1.imp λ{i j} q=> ?_;rcases q.2.2 with z|⟨z,_⟩
  ·rw[o]at z;exact .inr<|bB (h _<|lF q.1) (h _<|lF q.2.1) z
  ·exact .inl<|p i j q.1 q.2.1 z
 refine bx (Nt (c:=pn d g) (pn.trans N) u) λw y=> ?_;refine dq (I7 O) λA s B=> ?_;refine JQ (r:=pn d g) (λa c q C=> ?_) _ _ ?_ w λx=> ?_
 ·have:=EC d a c;have:=q.2.2;have:=C.2.2;exact aj [] [_,_] [.z 1 (.n<|.v 0)<|.v 1,.z 1 (.a (.v 0)<|.k 1)<|.k 0,.z 1 (.a (.v 1)<|.k 1)<|.k 0] rfl (gL ‹cD d c a= -cD d a c›.symm) ‹cD d a c<0› this
 ·refine vI Kn ?_;refine A.imp λ{i j} q=> ?_;have z:=q.2.2;rw[o]at z;exact bB (h _<|lF q.1) (h _<|lF q.2.1) z
 ·rw[y,Bl,rc,rc];have m:=(AL O _<|bE _).2
  constructor
  ·rintro⟨i,f,rfl⟩;exact ax i ((m i).mpr<|s i f) rfl
  ·rintro⟨i,f,rfl⟩;exact have f:=(m i).mp f;ah (B i f) λj l z=>ax j l<|(p i j f (s j l) z).symm
def Nc {b:aw} {c:Nat->Nat}:∀t u:T,cD b (t.sub λn=>.v<|c n) (u.sub λn=>.v<|c n)=cD b t u:=by
 have e:∀t u:T,cU b (t.sub λn=>.v<|c n) (u.sub λn=>.v<|c n)=cU b t u:=by
  intro t u
  have this:∀t:T,bP (t.sub λn=>.v<|c n)=bP t/\vx b (t.sub λn=>.v<|c n)=vx b t/\vy b (t.sub λn=>.v<|c n)=vy b t:=by
   intro t;cases t<;>exact⟨rfl,rfl,rfl⟩
  refine(U (qW _ _ _)<|U (qW _ _ _) ?_)
  unfold qV
  exact U ((this t).1)<|U ((this t).2.1)<|U ((this t).2.2)<|U ((this u).1)<|U ((this u).2.1)<|U ((this u).2.2) rfl
 have d:∀t u:T,hl b (t.sub λn=>.v<|c n) (u.sub λn=>.v<|c n)=hl b t u->cD b (t.sub λn=>.v<|c n) (u.sub λn=>.v<|c n)=cD b t u:=λt u h=>by rw[qq,qq,e,h]
 intro t
 induction t with
 |v n=>exactλu=>d _ u (by cases u<;>rfl)|i n=>exactλu=>d _ u (by cases u<;>rfl)|a n=>exactλu=>d _ u (by cases u<;>rfl)|ay f x g=>exactλu=>d _ u (by cases u<;>first|rfl|exact g _)|ak f x y g j=>exactλu=>d _ u<|by cases u<;>first|rfl|exact(congr (al gc<|g _) (j _):gc _ _=gc _ _)
section
noncomputable def T.fR:T->Nat|.v _=>1|.i _=>1|.a _=>1|.ay _ x=>x.fR+1|.ak _ x y=>x.fR+y.fR+1
def jR:List T->Nat|[]=>0|t::a=>jR a+t.fR
def k_:mz->Nat|[]=>0|e::q=>k_ q+jR e.2
noncomputable def jN:mz->List Nat|[]=>[]|e::q=>kx e.1 e.2.length++jN q
theorem Io (e:Nat×List T):∀q:mz,k_ (q++[e])=k_ q+jR e.2|[]=>rfl|a::q=>(al (· +jR a.2)<|Io e q).trans<|gv _ _ _
theorem Bs (e:Nat×List T):∀q:mz,jN (q++[e])=jN q++kx e.1 e.2.length|[]=>dI _|a::q=>(al (_++·)<|Bs e q).trans (bD ..).symm
structure i_ (H:bh) (tb:cd) (P:List Nat):Prop where
 eI:∀a∈P,H[a]?=J (.ref a)
 nE:P.Nodup
 lU:∀n a,tb.lookup n=J a->H[a]?=J (.ref a)/\a∉P
 inj:∀n m a,tb.lookup n=J a->tb.lookup m=J a->n=m
def lJ {H:List b} (h:H[a]?=J x):a<H.length:=(cK.mp h).1
section
variable {s:aw} {H:bh} {tb:cd}
def i_.ht {P:List Nat} (h:i_ H tb P):∀a∈P,a<H.length:=λa m=>lJ<|h.eI a m
theorem i_.set {p:Nat} {P:List Nat} (h:i_ H tb<|p::P) (c:ag):i_ (H.set p c) tb P:=bx (mZ.mp h.nE) λd f=>⟨λa m=>(ge λe:p=a=>d<|U e m).trans<|h.eI a<|.tail _ m,f,λn a e=>bx (h.lU n a e) λg b=>⟨(ge λz:p=a=>b<|U z<|.head _).trans g,λm=>b<|.tail _ m⟩,h.inj⟩
def i_.iS {p n:Nat} {P:List Nat} (h:i_ H tb<|p::P) (g:tb.lookup n=Y):i_ H (tb++[(n,p)]) P:=
 bx (mZ.mp h.nE) λd f=>⟨λa m=>h.eI a<|.tail _ m,f,λm a e=>(sy e).elim (λe=>⟨(h.lU m a e).1,λq=>(h.lU m a e).2<|.tail _ q⟩) λz=>U z.2 ⟨h.eI _<|.head _,d⟩,
  λm b a e c=>(sy e).elim (λq=>(sy c).elim (h.inj m b a q) λz=>((h.lU m a q).2<|z.2▸.head _).elim) λq=>(sy c).elim (λz=>((h.lU b a z).2<|q.2▸.head _).elim) λz=>q.1.trans z.1.symm⟩
def PS (h:i<k):(dU a k)[i]?=J (.ref<|a+i):=by simp[dU,List.getElem?_range',h]
def i_.l4 {P:List Nat} (h:i_ H tb P) (c:List ag) (k:Nat):i_ (H++(c++dU (H.length+c.length) k)) tb<|P++kx (H.length+c.length) k:=by have d:∀{a x},H[a]?=J x->(H++(c++dU (H.length+c.length) k))[a]?=J x:=λl=>(iW<|lJ l).trans l;have f:∀{a},a<H.length->a∉kx (H.length+c.length) k:=λl m=>lj _<|dL l<|aF (ck _ _) (yI.mp m).1;refine⟨λa m=>(fB.mp m).elim (λm=>d<|h.eI a m) λm=> ?_,CC.mpr<|bB h.nE List.nodup_range' λa i b j e=>f (h.ht a i)<|U e j,λn a e=>bx (h.lU n a e) λg p=>⟨d g,λm=>(fB.mp m).elim p<|f<|lJ g⟩,h.inj⟩;refine bx (yI.mp m) λb i=> ?_;have e:a=H.length+(c.length+(a-(H.length+c.length))):=((CH b).symm).trans<|iC _ _ _;have l:a-(H.length+c.length)<k:=We b i;refine(al (_[·]?) e).trans<|(mY<|ck _ _).trans ?_;exact U (pK _ _)<|(mY<|ck _ _).trans<|U (pK _ _)<|(PS l).trans<|al (λz=>J<|ag.ref z)<|CH b
end
def rp (tb:cd) (b:Nat->Nat):Prop:=∀n a,tb.lookup n=J a->b n=a
abbrev bJ (a:Nat->Nat):cy:=λn=>.v<|a n
def zm (s:aw) (H:bh) (a:Nat->Nat):Nat->List T->Prop|_,[]=>True|p,t::b=>(∃x,H[p]?=J x/\bK s H x (t.sub<|bJ a))/\zm s H a (p+1) b
structure ni (s:aw) (B A:Nat) (H:bh) (tb:cd) (E:mz) (o:bh) (L:cd):Prop where
 aP:i_ o L []
 uS:o.length<=B
 ak:L.length<=A
 keep:∀a x,H[a]?=J x->a∉jN E->o[a]?=J x
 df:∀n a,tb.lookup n=J a->L.lookup n=J a
 di:∀ρ,rp L ρ->∀e∈E,zm s o ρ e.1 e.2
structure jY (s:aw) (H:bh) (t:T) (f:Nat) (pre:List ag) (c:ag) (xs:List T):Prop where
 Gd:af t=.av [.Z<|S "s",.I f,.av<|xs.map af]
 sG:H.length+3<=100000->ng s H f c (H++(pre++dU (H.length+pre.length) xs.length))
 up:∀H1:bh,(∀x,pre[0]?=J x->H1[H.length]?=J x)->bV s H1 c f xs.length (H.length+pre.length)
 pm:pre.length+xs.length<=3
 JW:∀x∈xs,bv s x
 fR:t.fR=jR xs+1
 EX:∀(o:bh) (ρ:Nat->Nat),(∀x,pre[0]?=J x->o[H.length]?=J x)->zm s o ρ (H.length+pre.length) xs->bK s o c (t.sub<|bJ ρ)
section
variable {s:aw} {H o:bh} {tb L:cd}
def jY.kv {f:Nat} {x y:T} (w:bv s<|.ak f x y):∃a c,jY s H (.ak f x y) f a c [x,y]:=by
 have l:∀u∈[x,y],bv s u:=λu m=>(bY.mp m).elim (λe=>U e w.2.1) λm=>U (dk.mp m) w.2.2;have n:(T.ak f x y).fR=jR [x,y]+1:=al (· +1) ((l_ _ _).trans (al (· +x.fR) (eb _).symm));refine aZ (f=0) (λe=> ?_) λe=> ?_
 ·subst e
  exact⟨[],.b0 H.length,rfl,ng.b0∘fn,λ_ _=>.b0 _,ig 2,l,n,λo p _ d=>ah d.1 λ_ b g=>ah d.2.1 λ_ i j=>.b0 b i g j⟩
 ·exact w.1.elim λq k=>⟨[.aA f],.Z H.length,rfl,ng.Z e k,λ_ h=>.Z (h _ rfl) k,bE 3,l,n,λo p h d=>ah d.1 λ_ b g=>ah d.2.1 λ_ i j=>.ak (h _ rfl) e k b i g j⟩
def jY.cC (g:∃p,s.aW[0]?=J (p,2)) {f:Nat} {x:T} (w:bv s<|.ay f x):∃b c,jY s H (.ay f x) f b c [x]:=
 w.1.elim λq a=>
  have e:f≠0:=λe=>g.elim λr i=>bt (show 2=1 from al rf<|aH<|i.symm.trans<|am e a) (by decide)
  ⟨[.aA f],.Z H.length,rfl,λl=>ng.Z e a<|fn l,λ_ h=>.Z (h _ rfl) a,ig 2,λu m=>U (dk.mp m) w.2,al (· +1) (eb _).symm,λo n h d=>ah d.1 λ_ j k=>.ay (h _ rfl) e a j k⟩
def jY.l5 {a:List ag} {d:List T} (b:jY s H t f a c d) (h:a[0]?=J x):(H++(a++dU (H.length+a.length) d.length))[H.length]?=J x:=(mY<|bE _).trans<|U (re _)<|(iW<|lJ h).trans h
def jY.bb {t:T} {f:Nat} {a:List ag} {c:ag} {d:List T} (b:jY s H t f a c d):(H++(a++dU (H.length+a.length) d.length)).length<=H.length+3:=U bH<|U bH<|U (sk _ _)<|hD b.pm _
def pU (B A k a b c d M:Nat):Prop:=d+2*M<k/\a+3*M<=B/\b+M<=A/\c+M<=10000
def pU.cT {B A k a c d e M f h g:Nat} (b:pU B A (k+1) a c d e<|M+1) (j:f<=a+3) (l:h<=c+1) (i:g<=1):pU B A k f h (d+g) (e+g) M:=
 ⟨dL (dK (bp<|gv _ _ _)<|jX<|hD i _)<|vT b.1,
  aF (ha j _)<|aF (bp<|gv _ _ _) b.2.1,aF (ha l _)<|aF (bp<|gv _ _ _) b.2.2.1,
  aF (ha (hD i _) _)<|aF (bp<|gv _ _ _) b.2.2.2⟩
variable {B A:Nat}
def ni.cT {p:Nat} {t:T} {d:List T} {q f:mz} {i:bh} {c:cd} (S:ni s B A i c ((p+1,d)::f) o L) (j:∀a x,H[a]?=J x->a≠p->i[a]?=J x) (k:∀a x,H[a]?=J x->a∉jN q->a∉jN f) (l:∀e∈q,e∈f)
  (r:∀n a,tb.lookup n=J a->c.lookup n=J a) (u:∀b,rp L b->∃x,o[p]?=J x/\bK s o x (t.sub<|bJ b)):ni s B A H tb ((p,t::d)::q) o L:=
 ⟨S.aP,S.uS,S.ak,λa x h (n:a∉p::(kx (p+1) d.length++jN q))=>S.keep a x (j a x h λe=>n<|U e<|.head _) λm=>(fB.mp m).elim (λm=>n<|.tail _<|vQ _ m)<|k a x h λm=>n<|.tail _<|yH _ m,
  λn a h=>S.df n a<|r n a h,λb g e m=>(bY.mp m).elim (λz=>U z ⟨u b g,S.di b g _<|.head _⟩) λm=>S.di b g e<|.tail _<|l e m⟩
def bK.j1 {b:Nat->Nat} {n a:Nat} (h:H[a]?=J (.ref a)) (e:b n=a):bK s H (.ref a)<|.v<|b n:=by subst e;exact .fS h
def LG (a1:∃p,s.aW[0]?=J (p,2)) (a2:B<=100000) (a3:A<=ar):∀(k:Nat) {p:Nat} {ts:List T} {q Q:mz} {i:Nat} {H:bh} {tb:cd},Q.drop i=q->i<=Q.length->pU B A k H.length tb.length Q.length q.length (k_<|(p,ts)::q)->i_ H tb (jN<|(p,ts)::q)->(∀e∈(p,ts)::q,∀t∈e.2,bv s t)->
  ∃o L,gB s H tb Q i p ts o L/\ni s B A H tb ((p,ts)::q) o L:=by
 intro k
 induction k with
 |zero=>exactλ_ _ b _ _=>(KD _ b.1).elim
 |succ k M=>
  intro p ts q Q i H tb E F b r w
  cases ts with
  |nil=>cases q with
   |nil=>exact⟨H,tb,.b_<|.b_<|iD (Kd.mp E) F,⟨r,b.2.1,b.2.2.1,λ_ _ h _=>h,λ_ _ h=>h,λ_ _ e m=>U (dk.mp m) trivial⟩⟩
   |cons e q=>exact dq ((
     have c:Q[i]?=J e:=(VC (i:=i) (j:=0)).symm.trans (U E rfl)
     ⟨c,(List.drop_drop (i:=1) (j:=i)).symm.trans<|U E rfl,lJ c⟩)) λc d l=>bS (M (p:=e.1) (ts:=e.2) d l ⟨V6<|dK (bp (jo _ _).symm) b.1,b.2⟩ r λe m=>w e<|.tail _ m) λo L R S=>
     ⟨o,L,.b_<|.cons c R,S.aP,S.uS,S.ak,S.keep,S.df,λC y e m=>(bY.mp m).elim (λz=>U z trivial)<|S.di C y e⟩
  |cons t ts=>
   have r:i_ H tb<|p::jN ((p+1,ts)::q):=r;have O:=(mZ.mp r.nE).1;have D:=r.ht p<|.head _;have V:bv s t:=w _ (.head _) t<|.head _;have N:∀e∈(p+1,ts)::q,∀t∈e.2,bv s t:=λe m=>(bY.mp m).elim (λz=>U z<|λu m=>w _ (.head _) u<|.tail _ m) λm=>w e<|.tail _ m
   have set:∀{c:ag},t.fR=1->(∀{o L},gB s (H.set p c) tb Q i (p+1) ts o L->gB s H tb Q i p (t::ts) o L)->(∀{o L} C,rp L C->ni s B A (H.set p c) tb ((p+1,ts)::q) o L->bK s o c (t.sub<|bJ C))->∃o L,gB s H tb Q i p (t::ts) o L/\ni s B A H tb ((p,t::ts)::q) o L:=λ{c} f d u=>bS (M E F (pU.cT (g:=0) (show pU B A (k+1) H.length tb.length Q.length q.length (k_ q+(jR ts+1))from f▸b) (aF (bp lZ)<|ck _ 3) (ig _)<|cr 1) (r.set c) N) λo L R S=>⟨o,L,d R,S.cT (λa x h n=>(ge λe=>n e.symm).trans h) (λ_ _ _=>id) (λ_=>id) (λ_ _=>id) λC y=>⟨c,S.keep p c (gX D) O,u C y S⟩⟩
   have blk:∀{f:Nat} {u:List T},(∃d c,jY s H t f d c u)->∃o L,gB s H tb Q i p (t::ts) o L/\ni s B A H tb ((p,t::ts)::q) o L:=λ{f u} z=>fq z λd c z=>by
    have b:pU B A (k+1) H.length tb.length Q.length q.length<|k_ q+jR u+jR ts+1:=by rw[show k_ q+jR u+jR ts+1=k_ ((p,t::ts)::q)from(al (· +1)<|(gv _ _ _).trans<|iC _ _ _).trans<|al (λz=>k_ q+(jR ts+z)) z.fR.symm];exact b
    have X:p<(H++(d++dU (H.length+d.length) u.length)).length:=dL D<|U bH<|ck _ _;have Y:jN ((p+1,ts)::q)++kx (H.length+d.length) u.length=jN ((p+1,ts)::(q++[(H.length+d.length,u)])):=(bD _ _ _).trans (al (_++·) (Bs (H.length+d.length,u) q).symm);have K:∀{a:Nat},a<H.length+d.length->a∉jN ((p+1,ts)::q)->a∉jN ((p+1,ts)::(q++[(H.length+d.length,u)])):=λl n m=>(fB.mp<|U Y m).elim n λm=>lj _<|dL l (yI.mp m).1;have a0:∀x,d[0]?=J x->((H++(d++dU (H.length+d.length) u.length)).set p c)[H.length]?=J x:=λx h=>(ge<|dQ D).trans<|z.l5 h
    refine bS (M (q:=q++[(H.length+d.length,u)]) (Q:=Q++[(H.length+d.length,u)]) (i:=i) (H:=(H++(d++dU (H.length+d.length) u.length)).set p c) (tb:=tb) ((List.drop_append_of_le_length F).trans (al (· ++_) E)) (U bH<|lh F)
     (by rw[bH,bH,show k_ ((p+1,ts)::(q++[(H.length+d.length,u)]))=k_ q+jR u+jR ts from al (· +jR ts)<|Io _ q];exact b.cT (aF (bp lZ) z.bb) (ig _)<|bE 1)
     (am Y<|(r.l4 d u.length).set c) λe m=>(bY.mp m).elim (λm=>N e<|U m<|.head _) λm=>(fB.mp m).elim (λm=>N e<|.tail _ m) λm=>U (dk.mp m) z.JW) λo L R S=> ?_
    have P:=S.keep p c (gX X)<|K (dL D<|ck _ _) O;refine⟨o,L,.l1 z.Gd (z.sG<|aF (aF (hD (CI 3<|hF _) _) b.2.1) a2) X (z.up _ a0) (dL (li<|hF _)<|aF b.2.2.2<|by decide) R,S.cT (λa x h n=>(ge λe=>n e.symm).trans<|(iW<|lJ h).trans h) (λa x h n m=>(fB.mp<|am (Bs (H.length+d.length,u) q) m).elim n λm=>lj _<|dL (lJ h)<|aF (ck _ _) (yI.mp m).1) (λe m=>vQ _ m) (λ_ _=>id) λC y=>⟨c,P,z.EX o C (λx h=>S.keep _ x (a0 x h)<|K (li<|dK (cr 0)<|lJ h) λm=>lj _<|r.ht _<|.tail _ m)<|S.di C y _<|.tail _<|yH _<|.head _⟩⟩
   cases t with
   |v n=>cases l:tb.lookup n with
    |some a=>exact set rfl (.gS l D) λC y S=>.j1 (S.aP.lU n a<|S.df n a l).1<|y n a<|S.df n a l
    |none=>
     have K:(tb++[(n,p)]).lookup n=J p:=U jJ<|U l<|U iR<|U (aK rfl) rfl
     exact bS (M (p:=p+1) (tb:=tb++[(n,p)]) E F (b.cT (g:=0) (ck _ 3) (bp bH)<|cr 1) (r.iS l) N) λo L R S=>⟨o,L,.iS l (aF (aF (ck _ _) b.2.2.1) a3) R,
      S.cT (λ_ _ h _=>h) (λ_ _ _=>id) (λ_=>id) (λm a h=>U jJ<|U h rfl) λC y=>⟨.ref p,S.keep p _ (r.eI p<|.head _) O,.j1 (S.aP.lU n p<|S.df n p K).1<|y n p<|S.df n p K⟩⟩
   |a k=>exact set rfl (.a5 D) λC _ _=>.a5 k
   |i z=>exact set rfl (.I D) λC _ _=>.I z
   |ay f x=>exact blk<|jY.cC a1 V
   |ak f x y=>exact blk<|jY.kv V
def DK (K:∃u,s.aW[0]?=J (u,2)) (E:B<=100000) (N:A<=ar) (t:T) (H:bh) (tb:cd) (d:i_ H tb []) (w:bv s t) (C:H.length+3*t.fR<=B) (O:t.fR<=9000) (F:tb.length+t.fR<=A):
  ∃c o L,fX s H tb t c o L/\ni s B A H tb [] o L/\∀g,rp L g->bK s o c (t.sub<|bJ g):=by
 have j:ni s B A H tb [] H tb:=⟨d,aF (ck _ _) C,aF (ck _ _) F,λ_ _ h _=>h,λ_ _ h=>h,λ_ _ e m=>eG (l:=[]) m⟩
 have blk:∀{f:Nat} {r:List T},(∃b c,jY s H t f b c r)->∃c o L,fX s H tb t c o L/\ni s B A H tb [] o L/\∀g,rp L g->bK s o c (t.sub<|bJ g):=λ{f r} z=>fq z λb c z=>by
  have e:k_ [(H.length+b.length,r)]+1=t.fR:=(al (· +1)<|eb _).trans z.fR.symm;have n:∀{a:Nat},a<H.length+b.length->a∉jN [(H.length+b.length,r)]:=λk m=>(fB.mp m).elim (λm=>lj _<|dL k (yI.mp m).1)<|eG (l:=[])
  refine bS (LG K E N (2*k_ [(H.length+b.length,r)]+1) (p:=H.length+b.length) (ts:=r) (q:=[]) (Q:=[(H.length+b.length,r)]) (i:=1) (H:=H++(b++dU (H.length+b.length) r.length)) (tb:=tb) rfl (bE 1)
   ⟨jX<|bp<|eb _,aF (ha z.bb _)<|aF (bp<|(gv _ _ _).trans<|al (λz=>H.length+3*z) e) C,aF (hD (e▸ig _) _) F,aF (bp<|(l_ _ _).trans e)<|aF O<|by decide⟩
   (U (show jN [(H.length+b.length,r)]=kx (H.length+b.length) r.length from dI _)<|d.l4 b r.length) λe m=>U (dk.mp m) z.JW) λo L R S=>⟨c,o,L,.l1 z.Gd (z.sG<|aF (aF (hD (CI 3<|e▸hF _) _) C) E) (z.up _ λx h=>z.l5 h)<|.cons (i:=0) rfl R,
    ⟨S.aP,S.uS,S.ak,λa x h _=>S.keep a x ((iW<|lJ h).trans h)<|n<|dL (lJ h)<|ck _ _,S.df,λ_ _ e m=>eG (l:=[]) m⟩,
    λg y=>z.EX o g (λx h=>S.keep _ x (z.l5 h)<|n<|li<|dK (cr 0)<|lJ h)<|S.di g y _<|.head _⟩
 cases t with
 |v n=>cases k:tb.lookup n with
  |some a=>exact⟨_,_,_,.gS k,j,λg y=>.j1 (d.lU n a k).1<|y n a k⟩|none=>
   have M:=(d.l4 [] 1).iS (p:=H.length) k;have D:(tb++[(n,H.length)]).lookup n=J H.length:=U jJ<|U k<|U iR<|U (aK rfl) rfl
   exact⟨_,_,_,.iS k<|dL (li<|hF 2)<|aF C E,⟨M,U bH<|aF (hD (hE 1 2) _) C,U bH F,λa x h _=>(iW<|lJ h).trans h,λm a h=>U jJ<|U h rfl,λ_ _ e m=>eG (l:=[]) m⟩,
    λg y=>.j1 (M.lU n _ D).1<|y n _ D⟩
 |i z=>exact⟨_,_,_,.I H tb z,j,λg y=>.I z⟩|a k=>exact⟨_,_,_,.a5 H tb k,j,λg y=>.a5 k⟩|ay f x=>exact blk<|jY.cC K w|ak f x y=>exact blk<|jY.kv w
end
end
section
def fp (o:aw) (H:bh) (b:List ag):List T->Prop|[]=>b=[]|t::d=>∃c a,ba o H c t/\fp o H a d/\b=c::a
section
variable {o:aw} {H:bh}
theorem fp.b_:fp o H [] []:=rfl
def fp.cons (h:ba o H c t) (g:fp o H a b):fp o H (c::a)<|t::b:=dD c a h g rfl
@[elab_as_elim] def fp.c0 {a:List ag} {D:List ag->Prop} (h:fp o H a []) (k:D []):D a:=h.symm.subst k
@[elab_as_elim] def fp.b7 {t:T} {f:List ag} {g:List T} {D:List ag->Prop} (h:fp o H f<|t::g) (k:∀c d,ba o H c t->fp o H d g->D (c::d)):D f:=bF h λc d a b e=>e.symm.subst<|k c d a b
def fp.bb {a:List ag} {b:List T}:fp o H a b->a.length=b.length:=by
 induction b generalizing a with
 |nil=>exactλh=>h.c0 (D:=λa=>a.length=0) rfl
 |cons t b c=>exactλh=>h.b7 (D:=λa=>a.length=b.length+1) λ_ _ _ g=>al (· +1)<|c g
def fp.d6 {d:List ag} {b:List T}:fp o H d b->∀i,i<b.length->ba o H (d.getD i cQ) (b.getD i cQ):=by
 induction b generalizing d with
 |nil=>exactλ_ i h=>bt h<|KD _|cons t b e=>
  refineλh=>h.b7 (D:=λd=>∀i,i<(t::b).length->ba o H (d.getD i cQ) ((t::b).getD i cQ)) λc f a g i j=> ?_;cases i with
  |zero=>exact a|succ i=>exact e g i<|V6 j
def fp.ao {c:List ag} {a:List T} (h:fp o H c a):∀l:List Nat,(∀i∈l,i<a.length)->fp o H (l.map λi=>c.getD i cQ) (l.map λi=>a.getD i cQ):=by
 intro l
 induction l with
 |nil=>exactλ_=>.b_|cons i l d=>exactλb=>.cons (h.d6 i<|b i<|.head _)<|d λj m=>b j<|.tail _ m
def fp.mem:fp o H b d->∀c∈b,∃t∈d,ba o H c t:=by
 induction d generalizing b with
 |nil=>exactλh=>h.c0 (D:=λb=>∀c∈b,∃t∈([]:List T),ba o H c t) λ_ h=>eG (l:=[]) h|cons t d f=>exactλh=>h.b7 (D:=λb=>∀c∈b,∃u∈t::d,ba o H c u) λc i a g x m=>(bY.mp m).elim (λe=>ax t (.head _)<|U e a) λm=>(f g x m).imp λ_ z=>⟨.tail _ z.1,z.2⟩
theorem vk (t:T) (a:List T) (e:T):ch (t::a) e=.ak 0 t (ch a e):=rfl
def wy (B:∀x y,e≠.ak 0 x y):∀(c:List T) (d:ag) (g:List Int),ba o H d (ch c e)->(∀m∈g,∃(b:Nat) (t:T),m=b/\ba o H (.b0 b) t/\(ch c e).num<t.num)->g.length+c.length<gC->∃j k,eK H g d j k/\fp o H j c/\ba o H k e:=by
 intro c
 induction c with
 |nil=>
  intro d g h l b
  refine(dD ([]) d (.dG ?_) (.b_) h);have h:ba o H d e:=h;cases e with
  |v _=>exact U h.1 (by decide:¬(0:Int)=3)|a _=>exact U (show d=_ from h) (by decide:¬(4:Int)=3)|i _=>exact U (show d=_ from h) (by decide:¬(5:Int)=3)|ay f x=>exact h.c9 λ_ _ _ _ n _ _=>(U n (by decide:¬(2:Int)=3))|ak f x y=>exact h.c5 λ_ _ _ _ p _ _ _ _=>by refine(U p (U (aX λq=>B _ _ (by exact(U q rfl))) ?_));decide
 |cons t c C=>
  intro d g h l b
  rw[vk]at h l;refine h.c5 λx y f z p n D E F=> ?_
  have I:d=.b0 f:=by
   cases d with
   |b0 a=>exact al _ z.1|Z a=>exact bt (show(2:Int)=3 from p) (by decide)|_=>exact z.elim
  subst I
  have A:g.length+(c.length+1)<gC:=b
  refine ah E λJ K L=>ah F λM N O=>bF (C M (g++[(f:Int)]) O (λm q=>(fB.mp q).elim (λq=>bF (l m q) λb u r s w=>dD b u r s (iF (jX (hE _ _)) w)) λq=>dD f _ (dk.mp q) h (jX (hE _ _)))
   (by refine(U bH (U gZ (U (iC _ _ _) (U (l_ 1 _) ?_))));exact A)) λj k P Q R=> ?_
  refine dD (J::j) k (.cT (λq=>bF (l _ q) λb u r s w=> ?_) (dK (ck _ _) A) n K D N P) (.cons L Q) R;exact lj _ (h.d4 (U (eW r:f=b) s)▸w)
def Bx:∀(d:List ag) (p:Nat) (H:bh) (a:Nat),a<p->(kr p d H)[a]?=H[a]?:=by
 intro d
 induction d with
 |nil=>intro p H a h;rfl|cons c d e=>
  intro p H a h
  show(kr (p+2) d<|(H.set p c).set (p+1)<|.b0<|p+2)[a]?=_;rw[e _ _ _ (by exact bo<|aj [_,_] [] [.n 1 (.a Z W) G,.n 1 (.a G u2) Z] rfl h),ge (by exactλb=>aj [_,_] [] [.n 1 (.a Z W) G,.n 1 (.a G W) Z] rfl h<|bp b),ge<|by exactλb=>aj [_,_] [] [.n 1 (.a Z W) G,.n 1 G Z] rfl h<|bp b]
def SN:∀(b:List ag) (p:Nat) (H:bh),p+2*b.length<=H.length->∀i,i<b.length->(kr p b H)[p+2*i]?=J (b.getD i cQ)/\(kr p b H)[p+2*i+1]?=J (.b0<|p+2*i+2):=by
 intro b
 induction b with
 |nil=>intro p H h i d;simp at d|cons c b f=>
  intro p H h i d
  simp only[gY]at h d;show(kr (p+2) b<|(H.set p c).set (p+1)<|.b0<|p+2)[p+2*i]?=_/\(kr (p+2) b<|(H.set p c).set (p+1)<|.b0<|p+2)[p+2*i+1]?=_;cases i with
  |zero=>
   refine U (Bx _ _ _ _<|by exact bo<|aj [_] [] [.n 1 (.a Z u2)<|.a Z<|.m 2 u0] rfl)<|U (Bx _ _ _ _<|by exact bo<|aj [_] [] [.n 1 (.a Z u2)<|.a (.a Z<|.m 2 u0) W] rfl) ?_;refine⟨?_,?_⟩
   ·exact cJ (ge<|by exactλe=>aj [_] [] [.n 1 (.a Z W)<|.a Z<|.m 2 u0] rfl<|bp e) (gX<|by exact bo<|aj [_,_,_] [] [.n 1 (.a Z<|.m 2<|.a G W) v2,.n 1 v2 Z] rfl h)
   ·exact gX (by simp;exact bo<|aj [_,_,_] [] [.n 1 (.a Z<|.m 2<|.a G W) v2,.n 1 v2<|.a Z W] rfl h)
  |succ i=>exact have:=f (p+2) ((H.set p c).set (p+1)<|.b0<|p+2) (by simp;exact aI<|aj [_,_,_] [] [.n 1 (.a Z<|.m 2<|.a G W) v2,.n 1 (.a v2 W)<|.a (.a Z u2)<|.m 2 G] rfl h) i (by exact bo<|aj [_,_] [] [.n 1 (.a (.a Z W) W)<|.a G W,.n 1 G Z] rfl d);(U (show p+2*(i+1)=p+2+2*i by exact iD (aI<|aj [_,_] [] [.n 1 (.a (.a (.a Z u2)<|.m 2 G) W)<|.a Z<|.m 2<|.a G W] rfl)<|aI<|aj [_,_] [] [.n 1 (.a (.a Z<|.m 2<|.a G W) W)<|.a (.a Z u2)<|.m 2 G] rfl) this)
def MP (b:List ag) (c:0<b.length) (a:Nat) (h:a<H.length):(mE H b)[a]?=H[a]?:=by
 unfold mE
 exact cJ (ge<|me<|dL h<|CJ<|li<|Wb (by decide) c)<|cJ (Bx _ _ _ _ h)<|iW h
set_option tactic.hygienic true in
def ui (b:List ag) (a:Nat) (x:ag) (h:H[a]?=J x):(fK H b)[a]?=J x:=by
 unfold fK
 split
 ·exact h
 ·rename_i n
  exact cJ (MP b (vN.mpr n) a (cK.mp h).1) h
def El (c:List ag) (i:Nat) (d:i<c.length):(mE H c)[H.length+2*i]?=J (c.getD i cQ)/\(mE H c)[H.length+2*i+1]?=J (if i+1<c.length then .b0<|H.length+2*(i+1)else .a5 0):=by
 have f:(H++dU H.length (2*c.length)).length=H.length+2*c.length:=by simp[sk]
 refine bx (SN c H.length (H++dU H.length (2*c.length)) (by refine U f ?_;exact bE _) i d) λa b=> ?_
 unfold mE
 have g:H.length+(2*i+1)<H.length+2*c.length:=Kv (pL 2 d) _;refine⟨by refine cJ (ge<|me<|CJ g) ?_;exact a,?_⟩
 split
 ·rename_i e
  refine(U (ge<|me<|iF (iE _)<|CJ<|Kv (pL 2 e) _)<|U b ?_)
  rfl
 ·rename_i e
  refine U (show H.length+2*c.length-1=H.length+2*i+1 from U (iD (oB.mp e) d:c.length=i+1) rfl) ?_;exact gX<|by refine U (Bw _ _ _)<|U f ?_;exact bo<|aj [_,_,_] [] [.n 2 (.a Z W) G,.n 1 (.a v2<|.m 2 G)<|.a (.a v2<|.m 2 Z) W] rfl d
def MS (h:fp o H d f):bK o (fK H d) (rS H d)<|ch f<|.a 0:=by
 have g:∀{c:ag} {t:T},ba o H c t->bK o (fK H d) c t:=λh=>h.di.a2<|ui d;refine aZ (d=[]) (λn=> ?_)<|λn=> ?_
 ·subst n
  cases f with
  |nil=>exact .a5 0|cons=>exact bF h λ_ _ _ _ e=>nomatch e
 ·have p:fK H d=mE H d:=aX n;have q:rS H d=.b0 H.length:=aX n;rw[p]at g;refine U p<|U q ?_;have j:=h.bb
  have l:∀k i,i+k+1=d.length->bK o (mE H d) (.b0<|H.length+2*i) (ch (f.drop i)<|.a 0):=by
   intro k
   induction k with
   |zero=>
    intro i e
    refine bx (El (H:=H) d i<|by exact bo<|aj [_,_] [] [.n 1 (.a (.a Z u0) W) G,.n 1 G Z] rfl<|bp e) λa b=> ?_;rw[aX<|by exact aj [_,_] [] [.n 1 Z<|.a (.a G u0) W,.n 1 (.a (.a G W) W) Z] rfl<|bp e.symm]at b
    have m:f.drop i=[f.getD i cQ]:=by refine U (Kc<|by exact bo<|aj [_,_,_] [] [.n 1 Z G,.n 1 (.a (.a v2 u0) W) Z,.n 1 G v2] rfl (bp j)<|bp e)<|U (Cw<|by exact aI<|aj [_,_,_] [] [.n 1 Z G,.n 1 G<|.a (.a v2 u0) W,.n 1 (.a (.a v2 W) W) Z] rfl (bp j.symm)<|bp e.symm)<|U iB<|U (fd<|by exact bo<|aj [_,_,_] [] [.n 1 Z G,.n 1 (.a (.a v2 u0) W) Z,.n 1 G v2] rfl (bp j)<|bp e) ?_;rfl
    refine U m<|U (vk _ _ _) ?_;exact .b0 a b (g<|h.d6 i<|by exact bo<|aj [_,_,_] [] [.n 1 Z G,.n 1 (.a (.a v2 u0) W) Z,.n 1 G v2] rfl (bp j)<|bp e)<|.a5 0
   |succ k r=>
    intro i e
    refine bx (El (H:=H) d i<|by exact bo<|aj [_,_,_] [] [.n 1 (.a (.a Z<|.a G W) W) v2,.n 1 v2 Z] rfl<|bp e) λa b=> ?_;rw[aK<|by exact bo<|aj [_,_,_] [] [.n 1 (.a (.a Z<|.a G W) W) v2,.n 1 v2<|.a Z W] rfl<|bp e]at b
    have m:f.drop i=f.getD i cQ::f.drop (i+1):=by refine U (Kc<|by exact bo<|aj [_,_,_,_] [] [.n 1 Z G,.n 1 (.a (.a v2<|.a v3 W) W) Z,.n 1 G v2] rfl (bp j)<|bp e)<|U iB<|U (fd<|by exact bo<|aj [_,_,_,_] [] [.n 1 Z G,.n 1 (.a (.a v2<|.a v3 W) W) Z,.n 1 G v2] rfl (bp j)<|bp e) ?_;rfl
    refine U m<|U (vk _ _ _) ?_;exact .b0 a b (g<|h.d6 i<|by exact bo<|aj [_,_,_,_] [] [.n 1 Z G,.n 1 (.a (.a v2<|.a v3 W) W) Z,.n 1 G v2] rfl (bp j)<|bp e) (r (i+1)<|by exact iD (aI<|aj [_,_,_] [] [.n 1 (.a (.a Z<|.a G W) W) v2,.n 1 (.a v2 W)<|.a (.a (.a Z W) G) W] rfl<|bp e)<|aI<|aj [_,_,_] [] [.n 1 Z<|.a (.a G<|.a v2 W) W,.n 1 (.a (.a (.a (.a G W) v2) W) W) Z] rfl<|bp e.symm)
  have:=l (d.length-1) 0 (by rw[eb];exact Nat.sub_add_cancel<|vN.mpr n);simpa using this
end
end
section
section
variable {o:aw} {H:bh}
def p_ (o:aw) (H:bh) (x:Nat) (m:Int):Prop:=∃e t,cp e=m/\bk e=3/\ba o H e t/\¬t.has x
def wm (o:aw) (H:bh) (k:Nat) (m:Int):Prop:=∃e t,cp e=m/\bk e=3/\ba o H e t/\k<t.num
def zz (o:aw) (H:bh) (x:Nat) (u:T) (p:List Int) (s:List ag) (r:Bool):Prop:=(u.has x->r=ac)/\(¬u.has x->∀a:List Int,(∀m∈a,m∈p\/p_ o H x m)->a.length<=p.length+u.num->kb o H x a s r)
section
variable {x:Nat} {t u:T} {c d e:ag} {p:List Int} {s:List ag} {r:Bool}
def zz.at (n:zz o H x u p s r) (z:¬u.has x):kb o H x p s r:=n.2 z p (λ_=>.inl)<|ck _ _
def HN (j:p_ o H x m\/wm o H u.num m) (h:ba o H e u) (k:bk e=3) (q:cp e=m):¬u.has x:=
 have a:∀{c g},cp c=m->bk c=3->ba o H c g->u=g:=λd f b=>h.d4 (U (h.inj b k f<|q.trans d.symm) b)
 j.elim (λz=>dx z λc g d f b i=>U (a d f b) i) λz=>dx z λc g d f b i=>(lj _<|a d f b▸i).elim
def Bi (a:∀m∈p,p_ o H x m\/wm o H u.num m) (h:ba o H e u) (b:bk e=3) (l:k<u.num) (m:Int) (q:m∈p++[cp e]):p_ o H x m\/wm o H k m:=(fB.mp q).elim (λq=>(a m q).imp id λz=>dx z λc d f g i j=>fe c d f g i<|iF l j) λq=>.inr<|fe e u (dk.mp q).symm b h l
def HM (h:ba o H e u) (a:bk e=3) (n:¬u.has x) (q:m∈p++[cp e]\/p_ o H x m):m∈p\/p_ o H x m:=q.elim (λq=>(fB.mp q).imp id λq=>fe e u (dk.mp q).symm a h n) .inr
def R4 {x:Nat} {u:T}:∀{c:ag} {p:List Int} {s:List ag} {r:Bool},bK o H c u->(∀m∈p,p_ o H x m\/wm o H u.num m)->p.length+s.length+2*u.num<=4000->zz o H x u p s r->kb o H x p (s++[c]) r:=by
 have E:∀{a b n:Nat},a+b+n<=4000->a<gC/\b+2<=ar:=λ{a b n} h=>by
  delta gC ar
  refine⟨?_,?_⟩
  ·exact bo<|aj [_,_,_] [] [.n 1 (.a (.a Z G) v2)<|.k 4000,.n 1 (.k 4090) Z] rfl h
  ·exact aI<|aj [_,_,_] [] [.n 1 (.a (.a Z G) v2)<|.k 4000,.n 1 (.a (.k 1000000) W)<|.a G u2] rfl h
 induction u with
 |v n=>
  refineλ{c p s r} D l b f=>ah D λe d h=> ?_;refine aZ (n=x) (λq=> ?_)<|λq=> ?_
  ·exact U (f.1 q)<|.le<|q▸h.1▸d
  ·exact .gS d (U h.1<|λz=>q<|ag.ref.inj z) (λz=>bt (show(0:Int)=3 from(h.1▸z:bk (.ref n)=3))<|by decide)<|f.at q
 |i n=>exactλD l b f=>ah D λe d h=>.gS d (U (show e=.I n from h) nofun) (λz=>bt (show(1:Int)=3 from((show e=.I n from h)▸z:bk (.I n)=3))<|by decide)<|f.at id|a n=>exactλD l b f=>ah D λe d h=>.gS d (U (show e=.a5 n from h) nofun) (λz=>bt (show(2:Int)=3 from((show e=.a5 n from h)▸z:bk (.a5 n)=3))<|by decide)<|f.at id|ay f a w=>
  refineλ{c p s r} D l b n=>ah D λe d h=>h.c9 λA P y _ _ J K=> ?_;have b:p.length+s.length+2*(a.num+1)<=4000:=b;have j:=y.bk;refine aZ (cp e∈p) (λm=> ?_)<|λm=> ?_
  ·exact .gS d (vj j) (λ_=>m)<|n.at<|HN (l _ m) h j rfl
  ·refine .iS (j:=[A]) d y m (E b).1 (E b).2 (.cC J) ?_;refine w K (Bi l h j<|iE _) (by refine U bH<|U gZ ?_;exact aI<|aj [_,_,_] [] [.n 1 (.a (.a Z G)<|.m 2<|.a v2 W)<|.k 4000,.n 1 (.a (.k 4000) W)<|.a (.a (.a Z W) G)<|.m 2 v2] rfl b) ⟨n.1,λC g F t=>n.2 C g (λm q=>HM h j C<|F m q) ?_⟩;rw[bH,gZ]at t;show g.length<=p.length+(a.num+1);exact aI<|aj [_,_,_] [] [.n 1 Z<|.a (.a G W) v2,.n 1 (.a (.a G<|.a v2 W) W) Z] rfl t
 |ak f a b L M=>
  refineλ{c p s r} D l w n=>ah D λe d h=>h.c5 λA B P y _ Q J K R=> ?_;have w:p.length+s.length+2*(a.num+b.num+1)<=4000:=w;have j:=y.bk;have S:a.num<(T.ak f a b).num:=jX<|ck _ _;have V:b.num<(T.ak f a b).num:=jX<|hE _ _;refine aZ (cp e∈p) (λm=> ?_)<|λm=> ?_
  ·exact .gS d (vj j) (λ_=>m)<|n.at<|HN (l _ m) h j rfl
  ·refine .iS (j:=[B,A]) d y m (E w).1 (E w).2 (.kv Q J) ?_;refine U (show s++[B,A]=(s++[B])++[A]from(bD s [B] [A]).symm) ?_;refine L K (Bi l h j S) (by rw[bH,bH,gZ,gZ];exact aI<|aj [_,_,_,_] [] [.n 1 (.a (.a Z G)<|.m 2<|.a (.a v2 v3) W)<|.k 4000,.n 1 (.a (.k 4000) W)<|.a (.a (.a Z W)<|.a G W)<|.m 2 v2] rfl w) ⟨λz=>n.1<|.inl z,λN X F t=> ?_⟩;have t:=gZ▸(bH▸t);refine M R (λm q=>(F m q).elim (Bi l h j V m) .inl) (by exact aI<|aj [_,_,_,_,_] [] [.n 1 (.a (.a Z G)<|.m 2<|.a (.a v2 v3) W)<|.k 4000,.n 1 v4<|.a (.a Z W) v2,.n 1 (.a (.k 4000) W)<|.a (.a v4 G)<|.m 2 v3] rfl w t) ⟨λz=>n.1<|.inr z,λO g Y a0=> ?_⟩;have C:¬(T.ak f a b).has x:=λz=>z.elim N O;refine n.2 C g (λm q=>HM h j C<|(Y m q).elim (F m) .inr) ?_;show g.length<=p.length+(a.num+b.num+1);exact aI<|aj [_,_,_,_,_] [] [.n 1 Z<|.a (.a G W) v2,.n 1 v3<|.a Z v4,.n 1 (.a (.a G<|.a (.a v2 v4) W) W) v3] rfl t a0
def xM {x:Nat} {u:T} {c:ag} (h:ba o H c u) (e:b=ac↔u.has x) (w:u.num<=1900):kH o H x c b:=by
 have d:¬u.has x->b=aa:=λg=>ov.mpr λz=>g<|e.mp z;have j:bk c=3->kH o H x c b:=λr=>.r3 h.eI r<|R4 (s:=[]) h.di (λm q=>eG (l:=[]) q) (by show 0+0+2*u.num<=4000;exact aI<|aj [_] [] [.n 2 Z<|.k 1900,.n 1 (.a (.k 4000) W)<|.a (.a u0 u0)<|.m 2 Z] rfl w) ⟨e.mpr,λg y _ _=>U (d g)<|.g3 _⟩;cases u with
 |v n=>
  refine aZ (n=x) (λq=> ?_)<|λq=> ?_
  ·exact e.mpr q▸.le (am q<|am h.1 h.eI)
  ·exact d q▸.atom h.eI (h.1▸λz=>q<|ag.ref.inj z) (h.1▸(by show¬(0:Int)=3;decide))
 |a k=>exact d id▸.atom h.eI ((show c=.a5 k from h)▸nofun) ((show c=.a5 k from h)▸(by show¬(2:Int)=3;decide))|i z=>exact d id▸.atom h.eI ((show c=.I z from h)▸nofun) ((show c=.I z from h)▸(by show¬(1:Int)=3;decide))|ay f t=>exact j h.bk|ak f t A=>exact j h.bk
end
end
noncomputable def gD:Nat->Nat|0=>0|k+1=>if k<=5 then 1+(gD k+gD k)else 64+gD k
def EM (k:Nat):1+gD k<=gD (k+1):=by
 show 1+gD k<=if k<=5 then 1+(gD k+gD k)else 64+gD k
 refine aZ (k<=5) (λh=> ?_)<|λh=> ?_
 ·exact U (aK h)<|hD (hE _ _) 1
 ·exact U (aX h)<|ha (by decide) _
def EL (j:Nat):∀k,j<=k->gD j<=gD k:=by
 intro k
 induction k with
 |zero=>exactλh=>bp<|al gD<|Nat.le_zero.mp h|succ k a=>exactλh=>(Nat.lt_or_eq_of_le h).elim (λh=>aF (a<|vT h)<|aF (hE (gD k) 1)<|EM k) λh=>bp<|al gD h
def eR.o2 {P:fG} {x:cy} {c d:T} (i:et P x) (h:eR P x k (.ak f a b)<|.ak g c d):∃m,k=m+1/\(∃l,l<=m/\l<=6/\eR P x l a c)/\eR P x m b d:=by
 refine cps λD C=> ?_;rcases h with⟨q,y,z⟩|⟨y,z⟩
 ·refine bR (y.ak i q) λm j A r=> ?_;subst j;refine bR (z.ak i q) λl e B t=> ?_
  injection e with j;subst j
  refine C ?_;exact cM m rfl (cM m (bE _) (by exact aI<|aj [_] [] [.n 1 (.a Z W)<|.k 6,.n 1 (.a (.k 6) W) Z] rfl q)<|.inl<|bB (by exact aI<|aj [_] [] [.n 1 (.a Z W)<|.k 6,.n 1 (.a (.k 6) W) Z] rfl q) A B)<|.inl<|bB (by exact aI<|aj [_] [] [.n 1 (.a Z W)<|.k 6,.n 1 (.a (.k 6) W) Z] rfl q) r t
 ·refine fT (y.ak i) λm j A r u=> ?_;subst j;refine fT (z.ak i) λl e B t w=> ?_
  injection e with j;subst j
  refine C ?_;exact cM m rfl (cM 6 r (bE _)<|.inl<|bB (bE _) A B)<|.inr ⟨u,w⟩
def ED (a:cy):au a mM=a:=funext λy=>sX _
def Jv {t:T} (h:t.a9=aa) (a:cy):dH (t.sub a)=dH t:=by cases t<;>first|rfl|exact hv h
def fF.e2 {t u:T} (b:t.a9=aa) (c:u.a9=aa) (d:dH t≠dH u):fF t u:=λa e=>d<|(Jv b a).symm.trans<|(al dH e).trans<|Jv c a
end
section
section
variable {P:fG} {Q:cy}
theorem fU.num {k:Nat} {u:T} (d:et P Q) (h:fU P Q k u) (e:k<=6):u.num<=63:=by
 have a:=HL u;have b:=h.a0 d;have c:=CM (n:=2) (by decide) (aF b e)
 omega
theorem hh.num {k:Nat} {u:T} (d:et P Q):hh P Q k u->u.num<=64*k:=by
 induction u generalizing k with
 |v x=>intro _;exact cr _|i z=>intro _;exact cr _|a k=>intro _;exact cr _|ay f x b=>intro h;exact(h.ay d).elim|ak f x y l g=>
  intro h
  refine fT (h.ak d) λq e a b c=> ?_
  subst e
  have:=a.num d<|bE _;have:=g c;show x.num+_+1<=_;exact aI<|aj [_,_,_] [] [.n 1 Z<|.k 63,.n 1 G<|.m 64 v2,.n 1 (.a (.m 64<|.a v2 W) W)<|.a (.a Z G) W] rfl ‹x.num<=63› this
theorem eR.num {k:Nat} {u w:T} (b:et P Q) (h:eR P Q k u w):u.num<=64+64*k/\w.num<=64+64*k:=by
 rcases h with⟨q,c,d⟩|⟨c,d⟩
 ·have:=c.num b q;have:=d.num b q;exact⟨aI<|aj [_,_] [] [.n 1 Z<|.k 63,.n 1 (.a (.a (.k 64)<|.m 64 G) W) Z] rfl ‹u.num<=63›,aI<|aj [_,_] [] [.n 1 Z<|.k 63,.n 1 (.a (.a (.k 64)<|.m 64 G) W) Z] rfl this⟩
 ·have:=c.num b;have:=d.num b;exact⟨aI<|aj [_,_] [] [.n 1 Z<|.m 64 G,.n 1 (.a (.a (.k 64)<|.m 64 G) W) Z] rfl ‹u.num<=64*k›,aI<|aj [_,_] [] [.n 1 Z<|.m 64 G,.n 1 (.a (.a (.k 64)<|.m 64 G) W) Z] rfl this⟩
end
structure jv (j:aw) (H B:bh) (p:cy):Prop where
 bb:B.length=H.length
 di:∀c t,bK j H c t->bK j B c (t.sub p)
section
variable {j:aw} {H B:bh} {p:cy}
theorem jv.trans {d:bh} {e:cy} (a:jv j H B p) (b:jv j B d e):jv j H d<|au p e:=⟨by exact cJ b.bb a.bb,λc t h=>by refine am (ez _ _ _) ?_;exact b.di _ _<|a.di _ _ h⟩
def jv.az (s:jv j H B p) {c:ag} {t:T} (h:ba j H c t) (r:bk c=3):ba j B c<|t.sub p:=ah (s.di _ _ h.di) λd a b=>U (a.h8<|sS (C:=λc=>bU c≠0) r (λ_=>nofun) λ_=>nofun) b
theorem jv.bind {e:ag} {u:T} (a:H[x]?=J (.ref x)) (b:bK j H e u) (d:e≠.ref x) (n:¬u.has x):jv j H (H.set x e)<|cC x u:=⟨lZ,λc t h=>h.bind a b d n⟩
def pV (j:aw) (H:bh) (t:T) (m:Int):Prop:=∃e L a c,bk e=3/\bk L=3/\ba j H e a/\ba j H L c/\m=fz (H.length+1) e L/\∀b:cy,(t.sub b).num<(a.sub b).num
def jv.o3 (s:jv j H B p) (h:iG j H m):iG j B m:=kE h λe L t r d a b c=>lr e L _ r d (s.az a r) (s.az b d)<|by refine U s.bb ?_;exact c
def jv.t7 (s:jv j H B p) {t:T} (h:pV j H t m):pV j B (t.sub p) m:=oN h λe L g i r f a b c d=>nd e L _ _ r f (s.az a r) (s.az b f) (by refine U s.bb ?_;exact c) λk=>by refine U (ez _ _ _)<|U (ez _ _ _) ?_;exact d _
def ob (j:aw) (P:fG) (Q:cy) (k:Nat) (H:bh) (o:List Int) (ps:List<|ag×ag) (c d:ag) (t u:T):Prop:=
 (fF t u/\∃b,b.length=H.length/\dE j (H.length+1) H o (ps++[(c,d)]) aa b)\/
 ∃(p:cy) (B:bh) (a:List Int),eL t u p/\et P (au Q p)/\jv j H B p/\(∀m∈a,m∈o\/iG j B m)/\a.length<=o.length+gD k/\∀r b,dE j (H.length+1) B a ps r b->dE j (H.length+1) H o (ps++[(c,d)]) r b
def ba.l6 {c d:ag} {t:T} (h:ba j H c t) (g:ba j H d t) (r:bP t≠3):c=d:=by
 cases t with
 |v x=>exact h.1.trans g.1.symm|a k=>exact(show c=.a5 k from h).trans (show d=.a5 k from g).symm|i z=>exact(show c=.I z from h).trans (show d=.I z from g).symm|ay=>exact(r rfl).elim|ak=>exact(r rfl).elim
def ba.id {c:ag} {t:T} (h:ba j H c t) (v:t.a9=aa):bU c≠0:=by
 cases t with
 |v x=>exact hv v|a k=>exact(show c=.a5 k from h)▸nofun|i z=>exact(show c=.I z from h)▸nofun|ay=>exact h.c9 λ_ _ g _ _ _ _=>g.fs|ak=>exact h.c5 λ_ _ _ g _ _ _ _ _=>g.fs
def ys {t:T} (h:bP t≠3):dH t=t:=by cases t<;>first|rfl|exact(h rfl).elim
def pA (t:T):bP (dH t)=bP t:=by cases t<;>rfl
def S2 {c d:ag} (h:bk c=3) (a:bU c=bU d):bk d=3:=by
 have z:bU d=2\/bU d=3:=am a<|sS (C:=λc=>bU c=2\/bU c=3) h (λ_=>.inl rfl) λ_=>.inr rfl;cases d with
 |Z _=>rfl|b0 _=>rfl|ref _=>exact bt (show(0:Int)=2\/(0:Int)=3 from z) (by decide)|a5 _=>exact bt (show(4:Int)=2\/(4:Int)=3 from z) (by decide)|I _=>exact bt (show(5:Int)=2\/(5:Int)=3 from z) (by decide)|aA _=>exact bt (show(6:Int)=2\/(6:Int)=3 from z)<|by decide
def bV.ar {c d:ag} {k:Nat} (h:bV j H c f k b) (g:bV j H d f i m) (l:bU c=bU d):k=i:=by
 cases c with
 |b0 _=>cases d with|b0 _=>exact h.2.2.trans g.2.2.symm|Z _=>exact bt (show(3:Int)=2 from l) (by decide)|_=>exact g.elim
 |Z _=>cases d with|b0 _=>exact bt (show(2:Int)=3 from l) (by decide)|Z _=>exact h.2.2.elim λa e=>g.2.2.elim λn L=>al rf<|aH<|e.symm.trans L|_=>exact g.elim
 |_=>exact h.elim
section
variable {P:fG} {Q:cy} {k:Nat} {o:List Int} {ps:List (ag×ag)} {c d e L:ag} {t u:T}
def ob.eg (a:et P Q) (z:t=u) (b:∀r e,dE j (H.length+1) H o ps r e->dE j (H.length+1) H o (ps++[(c,d)]) r e):ob j P Q k H o ps c d t u:=.inr<|ls mM H o (U z<|eL.b1 _) (by refine U (ED _) ?_;exact a) ⟨rfl,λc t h=>by refine U (sX _) ?_;exact h⟩ (λ_=>.inl) (ck _ _) b
theorem ob.bind {w:T} (g:H[x]?=J (.ref x)) (h:bK j H e w) (n:e≠.ref x) (i:¬w.has x) (m:eL t u<|cC x w) (a:et P<|au Q<|cC x w) (b:∀r f,dE j (H.length+1) (H.set x e) o ps r f->dE j (H.length+1) H o (ps++[(c,d)]) r f):ob j P Q k H o ps c d t u:=.inr<|ls (cC x w) (H.set x e) o m a (.bind g h n i) (λ_=>.inl) (ck _ _) b
def JN (n:iG j H m\/pV j H t m) (h:ba j H e t) (c:ba j H L u) (k:bk e=3) (l:bk L=3) (q:m=fz (H.length+1) e L):t=u:=
 n.elim (λz=>kE z λr s v d f a b g=>bx (xL h a c b k d l f<|q.symm.trans g) λi w=>(h.d4<|U i a).trans (c.d4<|U w b).symm)
  λz=>oN z λr s v x d f a b g w=>bx (xL h a c b k d l f<|q.symm.trans g) λi _=>(lj _<|(h.d4<|U i a).symm▸w mM).elim
def Cc {x:T} (i:∀m∈o,iG j H m\/pV j H t m) (h:ba j H e t) (k:ba j H L u) (n:bk e=3) (s:bk L=3) (l:∀g:cy,(x.sub g).num<(t.sub g).num) (m:Int) (q:m∈o++[fz (H.length+1) e L]):iG j H m\/pV j H x m:=(fB.mp q).elim (λq=>(i m q).imp id λz=>oN z λe L x y r v a b c d=>nd e L x y r v a b c λf=>dK ((λg=>ky<|l g) f)<|d f) λq=>.inr<|nd e L t u n s h k (dk.mp q) l
def JM {B:bh} {p:cy} (s:jv j H B p) (z:t.sub p=u.sub p) (h:ba j H e t) (c:ba j H L u) (a:bk e=3) (b:bk L=3) (q:m∈o++[fz (H.length+1) e L]\/iG j B m):m∈o\/iG j B m:=q.elim (λq=>(fB.mp q).imp id λq=>lr e L _ a b (s.az h a) (U z<|s.az c b)<|by refine U s.bb ?_;exact dk.mp q) .inr
end
def U4 {P:fG}:∀(k:Nat) {t u:T} {c d:ag} {H:bh} {o:List Int} {ps:List<|ag×ag} {Q:cy},k<=24->bK j H c t->bK j H d u->eR P Q k t u->et P Q->H.length<=100000->(∀m∈o,iG j H m\/pV j H t m)->o.length+gD k<=4000->ps.length+k<=1000->ob j P Q k H o ps c d t u:=by
 intro k
 induction k using Wd with
 |ind k d6=>
 refineλ{t u c d H o ps Q} b4 D f5 M i c9 a6 a7 a8=>ah D λe R h=>ah f5 λL s E=> ?_;refine aZ (e=L) (λq=> ?_)<|λq=> ?_
 ·exact .eg i (h.d4<|U q E) λr N z=>.lo R (U q s) z
 have d0:=M.num i;have a9:∀{x},H[x]?=J (.ref x)->x<H.length:=λV=>(cK.mp V).1;have d1:∀{n:Nat},n<=64+64*k->n<=1900:=λz=>aF z (aF (hD (pL 64 b4) 64)<|by decide);have d2:o.length<gC:=dK (aF (ck _ _) a7) (by decide);have f0:∀{I},k=I+1->ps.length+2<=ar:=λz=>aF (ha (aF (ck _ _) a8) 2) (by decide);have f1:∀{w:T} {x:Nat},w.has x->(ac=ac↔w.has x):=λK=>⟨λ_=>K,λ_=>rfl⟩;have f2:∀{w:T} {x:Nat},¬w.has x->(aa=ac↔w.has x):=λK=>⟨λz=>cW z,λz=>(K z).elim⟩;cases b0:t.a9 with
 |true=>
  cases t with
  |v x=>
   have V:=h.2;have R:bu H c<|.ref x:=am h.1 R;cases a0:u.a9 with
   |true=>
    cases u with
    |v y=>
     have g:=E.2;have s:bu H d<|.ref y:=am E.1 s;have b:x≠y:=λz=>q<|h.1.trans<|(al _ z).trans E.1.symm;have c1:¬(T.v x).has y:=λz=>b z;have c2:¬(T.v y).has x:=λz=>b z.symm;refine aZ (x<y) (λl=> ?_)<|λl=> ?_
     ·exact .bind g (.fS V) (λz=>b<|ag.ref.inj z) c1 (eL.bind c1).symm (M.symm.bind i c1) λr N z=>.vv R s (a9 V) (a9 g) b (by refine U (aK l) ?_;exact z)
     ·exact .bind V (.fS g) (λz=>b (ag.ref.inj z).symm) c2 (eL.bind c2) (M.bind i c2) λr N z=>.vv R s (a9 V) (a9 g) b (by refine U (aX l) ?_;exact z)
    |_=>exact cW a0
   |false=>
    have b:=E.id a0;refine aZ (u.has x) (λK=> ?_)<|λK=> ?_
    ·exact .inl ⟨fF.h5 K λz=>by rw[z]at a0;exact hv a0,H,rfl,.r5 R s b (a9 V)<|xM E (f1 K)<|d1 d0.2⟩
    ·exact .bind V E.di (λz=>b<|U z rfl) K (eL.bind K) (M.bind i K) λr N z=>.bl R s b (a9 V) (xM E (f2 K)<|d1 d0.2) z
  |_=>exact cW b0
 |false=>
  have a2:=h.id b0;cases a0:u.a9 with
  |true=>
   cases u with
   |v x=>
    have V:=E.2;have s:bu H d<|.ref x:=am E.1 s;refine aZ (t.has x) (λK=> ?_)<|λK=> ?_
    ·exact .inl ⟨(fF.h5 K λz=>by rw[z]at b0;exact hv b0).symm,H,rfl,.r7 R s a2 (a9 V)<|xM h (f1 K)<|d1 d0.1⟩
    ·exact .bind V h.di (λz=>a2<|U z rfl) K (eL.bind K).symm (M.symm.bind i K) λr N z=>.br R s a2 (a9 V) (xM h (f2 K)<|d1 d0.1) z
   |_=>exact cW a0
  |false=>
   have d7:=E.id a0;have clash:∀{t u:T},t.a9=aa->u.a9=aa->oJ j H e L->dH t≠dH u->ob j P Q k H o ps c d t u:=λb0 a0 a b=>.inl ⟨fF.e2 b0 a0 b,H,rfl,.lt R s a2 d7 q a⟩;have f6:bP t≠bP u->dH t≠dH u:=λn z=>n<|(pA t).symm.trans<|(al bP z).trans<|pA u;refine aZ (bP t=3) (λa1=> ?_)<|λa1=> ?_
   ·refine aZ (bP u=3) (λb1=> ?_)<|λb1=> ?_
    ·have b2:=h.bk.trans a1;have b5:=E.bk.trans b1;have d3:=BR h b2 c9
     refine la (C:=λt=>eR P Q k t u->ba j H e t->(∀m∈o,iG j H m\/pV j H t m)->ob j P Q k H o ps c d t u) a1 (λl x M h a6=>la (C:=λu=>eR P Q k (.ay l x) u->ba j H L u->ob j P Q k H o ps c d (.ay l x) u) b1
       (λg y M E=>h.c9 λA O X _ c3 d8 d9=>E.c9 λb7 S Y _ c4 e0 e1=> ?_) (λg y f7 M E=>h.c9 λ_ _ X _ _ _ _=>E.c5 λ_ _ _ Y _ _ _ _ _=>clash rfl rfl (.aA X Y λz=>bt (bV.ar (z.2▸X) Y z.1)<|by decide) λz=>T.noConfusion z) M E)
      (λl x c5 M h a6=>la (C:=λu=>eR P Q k (.ak l x c5) u->ba j H L u->ob j P Q k H o ps c d (.ak l x c5) u) b1
       (λg y M E=>h.c5 λ_ _ _ X _ _ _ _ _=>E.c9 λ_ _ Y _ _ _ _=>clash rfl rfl (.aA X Y λz=>bt (bV.ar (z.2▸X) Y z.1)<|by decide) λz=>T.noConfusion z) (λg y f7 M E=>h.c5 λA F O X c3 f8 d8 d9 f9=>E.c5 λb7 d4 S Y c4 g0 e0 e1 g1=> ?_) M E) M h a6
     ·refine aZ (l=g) (λa3=> ?_)<|λa3=> ?_
      ·subst a3
       refine aZ (fz (H.length+1) e L∈o) (λm=> ?_)<|λm=> ?_
       ·exact .eg i (JN (a6 _ m) h E b2 b5 rfl) λr N z=>.h6 R s q X Y (c3.trans c4.symm) d3 d2 m z
       ·refine ah (M.ay i) λI S e2=> ?_;have b8:=EM I;have a7:o.length+gD (I+1)<=4000:=am S a7;have a8:ps.length+(I+1)<=1000:=am S a8;have b4:I+1<=24:=am S b4;have b9:∀{r:Bool} {N:bh},dE j (H.length+1) H (o++[fz (H.length+1) e L]) (ps++[(A,b7)]) r N->dE j (H.length+1) H o (ps++[(c,d)]) r N:=λz=>.g4 (y:=[A]) (z:=[b7]) R s q X Y (c3.trans c4.symm) d3 m d2 (f0 S) (.cC d8) (.cC e0) z
        refine(d6 I (U S<|iE I) (fn b4) (ps:=ps) d9 e1 e2 i c9 (Cc a6 h E b2 b5 λb3=>iE _) (by refine U bH<|U gZ ?_;exact aI<|aj [_,_,_] [] [.n 1 (.a W Z) G,.n 1 (.a v2 G)<|.k 4000,.n 1 (.a (.k 4000) W)<|.a (.a v2 W) Z] rfl b8 a7)<|fn a8).elim (λn=>.inl ⟨n.1.ay,n.2.imp λ_ z=>⟨z.1,b9 z.2⟩⟩)
         λz=>nV z λp f3 c6 c0 e3 s1 d5 O a4=>.inr<|ls p f3 c6 c0.ay e3 s1 (λb6 a5=>JM s1 (c0.ay (f:=l)).lW h E b2 b5<|d5 b6 a5) ?_ λr N y=>b9<|a4 r N y
        refine U S ?_;rw[bH,gZ]at O;exact aI<|aj [_,_,_,_] [] [.n 1 (.a W Z) G,.n 1 v2<|.a (.a v3 W) Z,.n 1 (.a (.a v3 G) W) v2] rfl b8 O
      ·exact clash rfl rfl (.aA X Y λz=>a3 z.2) λz=>a3 (T.ay.inj z).1
     ·refine aZ (l=g) (λa3=> ?_)<|λa3=> ?_
      ·subst a3
       refine aZ (fz (H.length+1) e L∈o) (λm=> ?_)<|λm=> ?_
       ·exact .eg i (JN (a6 _ m) h E b2 b5 rfl) λr N z=>.h6 R s q X Y (c3.trans c4.symm) d3 d2 m z
       ·refine bR (M.o2 i) λI S g2 e4=>bR g2 λy e5 c7 e6=> ?_
        have b8:=(by
          show 1+gD y+gD I<=if I<=5 then 1+(gD I+gD I)else 64+gD I
          refine aZ (I<=5) (λh=> ?_)<|λh=> ?_
          ·exact U (aK h)<|U (iC _ _ _)<|hD (ha (EL y I e5) _) 1
          ·refine U (aX h) ?_
           exact ha (hD (EL y 6 c7) 1) _)
        have a7:o.length+gD (I+1)<=4000:=am S a7;have a8:ps.length+(I+1)<=1000:=am S a8;have b4:I+1<=24:=am S b4;have b9:∀{r:Bool} {N:bh},dE j (H.length+1) H (o++[fz (H.length+1) e L]) ((ps++[(F,d4)])++[(A,b7)]) r N->dE j (H.length+1) H o (ps++[(c,d)]) r N:=λz=>.g4 (y:=[F,A]) (z:=[d4,b7]) R s q X Y (c3.trans c4.symm) d3 m d2 (f0 S) (.kv f8 d8) (.kv g0 e0)<|am (bD ps [(F,d4)] [(A,b7)]) z;have c1:∀b3:cy,(x.sub b3).num<((T.ak l x c5).sub b3).num:=λb3=>jX<|ck _ _;have c2:∀b3:cy,(c5.sub b3).num<((T.ak l x c5).sub b3).num:=λb3=>jX<|hE _ _
        refine(d6 y (U S<|jX e5) (aF c7<|by decide) (ps:=ps++[(F,d4)]) d9 e1 e6 i c9 (Cc a6 h E b2 b5 c1) (by refine U bH<|U gZ ?_;exact aI<|aj [_,_,_,_] [] [.n 1 (.a (.a W Z) G) v2,.n 1 (.a v3 v2)<|.k 4000,.n 1 (.a (.k 4000) W)<|.a (.a v3 W) Z] rfl b8 a7)<|by refine U bH<|U gZ ?_;exact aI<|aj [_,_,_] [] [.n 1 Z G,.n 1 (.a v2<|.a G W)<|.k 1000,.n 1 (.a (.k 1000) W)<|.a (.a v2 W) Z] rfl e5 a8).elim (λn=>.inl ⟨n.1.m6,n.2.imp λ_ z=>⟨z.1,b9 z.2⟩⟩)
         λz=>nV z λp f3 c6 c0 e3 s1 d5 O a4=> ?_
        have O:=gZ▸(bH▸O)
        refine(d6 I (U S<|iE I) (fn b4) (ps:=ps) (s1.di _ _ f9) (s1.di _ _ g1) (e4.f7 p) e3 (by refine U s1.bb ?_;exact c9) (λb6 a5=>(d5 b6 a5).elim (λa5=>(Cc a6 h E b2 b5 c2 b6 a5).imp s1.o3 s1.t7) .inl) (by exact aI<|aj [_,_,_,_,_] [] [.n 1 (.a (.a W Z) G) v2,.n 1 (.a v3 v2)<|.k 4000,.n 1 v4<|.a (.a v3 W) Z,.n 1 (.a (.k 4000) W)<|.a v4 G] rfl b8 a7 O)<|fn a8).elim
         (λn=>.inl ⟨fF.m7 c0 n.1,n.2.imp λ_ w=>⟨w.1.trans s1.bb,b9<|a4 _ _<|am s1.bb w.2⟩⟩) λz=>nV z λe7 g3 e8 f4 g5 s2 g6 e9 c8=> ?_
        refine .inr<|ls (au p e7) g3 e8 (c0.ak f4) (by refine am (z3 _ _ _) ?_;exact g5) (s1.trans s2) (λb6 a5=>JM (s1.trans s2) (c0.ak (f:=l) f4).lW h E b2 b5<|(g6 b6 a5).elim (λa5=>(d5 b6 a5).imp id s2.o3) .inr) (by refine U S ?_;exact aI<|aj [_,_,_,_,_,_] [] [.n 1 (.a (.a W Z) G) v2,.n 1 v3<|.a (.a v4 W) Z,.n 1 v5<|.a v3 G,.n 1 (.a (.a v4 v2) W) v5] rfl b8 O e9) λr N w=>b9<|a4 _ _ (by have:=c8 r N;have this:=s1.bb▸this;exact this w)
      ·exact clash rfl rfl (.aA X Y λz=>a3 z.2) λz=>a3 (T.ak.inj z).1
    ·exact clash b0 a0 (.fs (h.bk.trans a1) λz=>b1<|E.bk.symm.trans<|S2 (h.bk.trans a1) z)<|f6 λz=>b1<|am z a1
   ·exact clash b0 a0 (.atom<|U h.bk a1) λz=>q<|h.l6 (am ((show u=t from by
     have b1:bP u≠3:=λw=>a1<|(pA t).symm.trans<|(al bP z).trans<|(pA u).trans w
     exact(ys b1).symm.trans<|z.symm.trans<|ys a1)) E) a1
end
end
section
def A0 {t:T} (h:t.a9=ac):∃n,t=.v n:=by cases t<;>first|exact⟨_,rfl⟩|exact cW h
def eq (B:er) (e:T):T->Prop|.v x=>e=.v x/\B x=Y|.i z=>e=.i z|.a k=>e=.a k|.ay f w=>∃x,e=.ay f x/\∃d,cV B x d/\eq B d w|.ak f w b=>∃x y,e=.ak f x y/\(∃d,cV B x d/\eq B d w)/\∃d,cV B y d/\eq B d b
def ep (B:er) (t w:T):Prop:=∃e,cV B t e/\eq B e w
section
variable {B:er} {t u w e o:T}
def cV.h8 (h:cV B t e):(∀x,t≠.v x)->t=e:=by
 cases h with
 |dG _=>exactλ_=>rfl|cT=>exactλn=>(n _ rfl).elim
def cV.o5 {x:Nat} {C:Prop} (h:cV B (.v x) e) (c:B x=Y-> .v x=e->C) (d:∀t,B x=J t->cV B t e->C):C:=by
 cases h with
 |dG h=>exact c (h x rfl) rfl|cT a b=>exact d _ a b
def cV.d4 (h:cV B t e):cV B t o->e=o:=by
 induction h with
 | @dG t h=>cases t with|v x=>exactλg=>g.o5 (λ_ z=>z) λt a _=>aq<|(h x rfl).symm.trans a|_=>exactλg=>g.h8 nofun
 |cT a _ c=>exactλg=>g.o5 (λb _=>aq<|b.symm.trans a) λt b g=>c<|am (aH<|b.symm.trans a) g
def eq.o6 (h:eq B e w):cV B e e:=by
 cases w with
 |v x=>exact .dG λy z=>am (T.v.inj<|h.1.symm.trans z) h.2|i z=>exact .dG λy q=>T.noConfusion<|(show e=.i z from h).symm.trans q|a k=>exact .dG λy q=>T.noConfusion<|(show e=.a k from h).symm.trans q|ay f w=>exact ah h λx z _=>.dG λy q=>T.noConfusion<|z.symm.trans q|ak f w b=>exact bF h λx c z _ _=>.dG λy q=>T.noConfusion<|z.symm.trans q
def eq.di (h:eq B e w):ep B e w:=ax e h.o6 h
def eq.e2 (h:eq B e w):dH e=dH w:=by
 cases w with
 |v x=>exact al dH h.1|i z=>exact al dH h|a k=>exact al dH h|ay f w=>exact ah h λx z _=>(al dH z:dH e=T.ay f (.a 0))|ak f w b=>exact bF h λx y z _ _=>(al dH z:dH e=T.ak f (.a 0) (.a 0))
theorem cV.a0 (h:cV B t e):t.a0<=e.a0:=by
 cases h with
 |dG _=>exact bE _|cT=>exact cr _
theorem eq.a0 (h:eq B e w):e.a0<=w.a0:=by
 induction w generalizing e with
 |v x=>refine U h.1 ?_;exact bE _|i z=>refine U (show e=.i z from h) ?_;exact bE _|a k=>refine U (show e=.a k from h) ?_;exact bE _|ay f w c=>exact ah h λx z y=>ah y λd a b=>U z<|dv<|aF a.a0<|c b|ak f w l c g=>exact bF h λx y z p q=>ah p λd a b=>ah q λm j k=>(U z<|dv<|nM.mpr ⟨aF (aF a.a0<|c b)<|mc _ _,aF (aF j.a0<|g k)<|na _ _⟩)
theorem eq.d4 (h:eq B e w):eq B e c->w=c:=by
 induction w generalizing e c with
 |v x=>refineλg=> ?_;have z:T.v x=dH c:=h.e2.symm.trans g.e2;cases c<;>first|exact z|exact T.noConfusion z
 |i x=>refineλg=> ?_;have z:T.i x=dH c:=h.e2.symm.trans g.e2;cases c<;>first|exact z|exact T.noConfusion z
 |a x=>refineλg=> ?_;have z:T.a x=dH c:=h.e2.symm.trans g.e2;cases c<;>first|exact z|exact T.noConfusion z
 |ay f w k=>
  refineλg=> ?_;have z:T.ay f (.a 0)=dH c:=h.e2.symm.trans g.e2;cases c with
  |ay D u=>exact ah h λx l p=>ah g λE m n=>ah p λd a b=>ah n λF r s=>congr (al T.ay (T.ay.inj z).1)<|k b<|(a.d4<|U ((T.ay.inj<|l.symm.trans m).2) r)▸s|_=>exact T.noConfusion z
 |ak f w v k t=>
  refineλg=> ?_;have z:T.ak f (.a 0) (.a 0)=dH c:=h.e2.symm.trans g.e2;cases c with
  |ak D u M=>exact bF h λx y l p q=>bF g λE N m n I=>ah p λd a b=>ah n λF r s=>ah q λO J K=>ah I λL A C=>have j:=T.ak.inj<|l.symm.trans m;congr (congr (al T.ak (T.ak.inj z).1)<|k b<|(a.d4<|U j.2.1 r)▸s) (t K<|(J.d4<|j.2.2▸A)▸C)|_=>exact T.noConfusion z
theorem ep.ay {f:Nat} (h:ep B t w):ep B (.ay f t)<|.ay f w:=eq.di (e:=.ay f t) (w:=.ay f w)<|ax t rfl h
theorem ep.ak {f:Nat} {v:T} (h:ep B t w) (g:ep B u v):ep B (.ak f t u)<|.ak f w v:=eq.di (e:=.ak f t u) (w:=.ak f w v)<|dD t u rfl h g
def ep.sj {x:Nat} (h:B x=Y):ep B (.v x)<|.v x:=eq.di (e:=.v x) (w:=.v x) ⟨rfl,h⟩
theorem ep.cT {x:Nat} (h:B x=J t) (g:ep B t w):ep B (.v x) w:=ah g λe a b=>ax e (.cT h a) b
def ep.b_ (t:T):ep (λ_=>Y) t t:=by
 induction t with
 |v x=>exact .sj rfl|i z=>exact ax _ (.dG λ_ z=>T.noConfusion z) rfl|a k=>exact ax _ (.dG λ_ z=>T.noConfusion z) rfl|ay f x b=>exact .ay b|ak f x y b c=>exact .ak b c
section
variable {x:Nat} (H:B x=Y)
def x7 (n:y≠x):hy B x u y=B y:=aX n
include H
def IR (h:B y=J t):hy B x u y=J t:=(x7 λq=>aq<|H.symm.trans<|q▸h).trans h
def cV.set (h:cV B t e):e≠.v x->cV (hy B x u) t e:=by
 induction h with
 |dG h=>exactλn=>.dG λy z=>(x7 λq=>n<|z.trans<|al _ q).trans<|h y z|cT a _ b=>exactλn=>.cT (IR H a)<|b n
omit H in
def eq.f0 (h:eq B e w) (n:¬w.has x):e≠.v x:=λq=>by
 have z:T.v x=dH w:=(al dH q).symm.trans h.e2;cases w with
 |v a=>exact n (T.v.inj z).symm|_=>exact T.noConfusion z
def eq.g7:eq B e w->¬w.has x->eq (hy B x u) e w:=by
 induction w generalizing e with
 |v y=>exactλh n=>⟨h.1,(x7 λq=>n q).trans h.2⟩|i z=>exactλh _=>h|a k=>exactλh _=>h|ay f w c=>exactλh n=>ah h λy z p=>ah p λd a b=>⟨y,z,d,a.set H<|b.f0 n,c b n⟩|ak f w r c g=>exactλh n=>bF h λy k z p q=>ah p λd a b=>ah q λl m j=>⟨y,k,z,(ax d (a.set H<|b.f0 λz=>n<|.inl z)<|c b λz=>n<|.inl z),ax l (m.set H<|j.f0 λz=>n<|.inr z)<|g j λz=>n<|.inr z⟩
end
theorem ep.g7 {x:Nat} (h:ep B t w) (H:B x=Y) (n:¬w.has x):ep (hy B x u) t w:=ah h λe a b=>ax e (a.set H<|b.f0 n)<|b.g7 H n
def pT (B a:er) (b:cy):Prop:=∀s w,ep B s w->ep a s (w.sub b)
def pT.trans {e c:er} {f d:cy} (a:pT B e f) (b:pT e c d):pT B c<|au f d:=λs w h=>by refine am (ez _ _ _) ?_;exact b _ _<|a _ _ h
def pT.bind {u j:T} {x:Nat} (H:B x=Y) (m:ep B u j) (n:¬j.has x):pT B (hy B x u)<|cC x j:=by
 have r:=m.g7 (u:=u) H n
 have c:∀{t e v},cV B t e->ep (hy B x u) e v->ep (hy B x u) t v:=λ{t e v} h=>by
  induction h with
  |dG _=>exact _root_.id|cT a _ l=>exactλg=>.cT (IR H a)<|l g
 have s:∀{w e},eq B e w->ep (hy B x u) e (w.sub<|cC x j):=λ{w}=>by
  induction w with
  |v y=>
   refineλ{e} h=> ?_;show ep _ _<|if y=x then j else .v y;refine U h.1 ?_;refine aZ (y=x) (λq=> ?_)<|λq=> ?_
   ·exact U (aK q)<|.cT (aK q) r
   ·exact U (aX q)<|.sj<|(x7 q).trans h.2
  |i z=>exactλ{e} h=>eq.di (w:=.i z) h|a k=>exactλ{e} h=>eq.di (w:=.a k) h|ay f w l=>exactλ{e} h=>ah h λy z p=>ah p λd a b=>U z<|.ay<|c a<|l b|ak f w C l g=>exactλ{e} h=>bF h λy D z p q=>ah p λd a b=>ah q λE k A=>U z<|.ak (c a<|l b)<|c k<|g A
 exactλt w h=>ah h λe a b=>c a<|s b
def uy (h:a+1<=d):∃b,d=b+1/\a<=b:=by
 cases d with
 |zero=>exact bt h<|rd _|succ d=>exact ax d rfl<|jn h
def ep.o7:∀{t:T} {d:Nat},ep B t w->w.a0<=d->kF B d t w:=by
 induction w with
 |v x=>exactλh _=>ah h λe a b=>.g6 (b.1▸a) rfl|i x=>exactλ{t d} h _=>ah h λe a b=>.g6 ((show e=.i x from b)▸a) rfl|a x=>exactλ{t d} h _=>ah h λe a b=>.g6 ((show e=.a x from b)▸a) rfl|ay f x g=>exactλh b=>ah (uy b) λj e c=>e▸ah h λ_ a p=>ah p λy z p=>.ay (am z a)<|g p c|ak f x y g k=>exactλh b=>ah (uy b) λj e c=>e▸ah h λ_ a p=>bF p λy m z p l=>.ak (am z a) (g p<|aF (mc _ _) c)<|k l<|aF (na _ _) c
def ep.ins {x:Nat}:∀{t:T} {d:Nat},ep B t w->w.a0<=d->∃b,lu B x d t b/\(b=ac↔w.has x):=by
 induction w with
 |v n=>exactλh _=>ah h λe a b=>(ax _ (.g6 (b.1▸a) rfl)<|decide_eq_true_iff.trans ⟨T.v.inj,al _⟩)|i n=>exactλ{t d} h _=>ah h λe a b=>(ax _ (.g6 ((show e=T.i n from b)▸a) rfl)<|decide_eq_true_iff.trans ⟨λq=>T.noConfusion q,jU⟩)|a n=>exactλ{t d} h _=>ah h λe a b=>(ax _ (.g6 ((show e=T.a n from b)▸a) rfl)<|decide_eq_true_iff.trans ⟨λq=>T.noConfusion q,jU⟩)|ay f x k=>exactλh b=>ah (uy b) λm e c=>e▸ah h λ_ a p=>ah p λy z p=>ah (k p c) λr g j=>ax r (.ay (am z a) g) j|ak f x y n q=>exactλh b=>ah (uy b) λm e c=>e▸ah h λ_ a p=>bF p λy A z p s=>ah (n p<|aF (mc _ _) c) λr g j=>ah (q s<|aF (na _ _) c) λu k l=>ax (r||u) (.ak (am z a) g k)<|Co.trans<|or_congr j l
end
def wD (a:aw) (B:er):Prop:=∀x t,B x=J t->bv a t
def cV.wf {B:er} {t e:T} (h:cV B t e) (w:bv c t) (b:wD c B):bv c e:=by
 induction h with
 |dG _=>exact w|cT a _ d=>exact d<|b _ _ a
def ru (e:aw) (c:List Nat) (P:fG) (f:cy) (d:Nat) (B:er) (l r t u:T):Prop:=(fF t u/\∃a,fE c d B l r aa a)\/∃(b:cy) (a:er),eL t u b/\et P (au f b)/\pT B a b/\fE c d B l r ac a/\wD e a
def Gs (t:T):(dH t).a9=t.a9:=by cases t<;>rfl
def IZ (t:T):gT (dH t)=gT t:=by cases t<;>rfl
def IX {t:T} (h:bP t≠3):gT t=Y:=by cases t<;>first|rfl|exact(h rfl).elim
def eq.l6 {B:er} {e o t:T} (h:eq B e t) (g:eq B o t) (r:bP t≠3):e=o:=by
 cases t with
 |v x=>exact h.1.trans g.1.symm|a k=>exact(show e=.a k from h).trans (show o=.a k from g).symm|i z=>exact(show e=.i z from h).trans (show o=.i z from g).symm|ay=>exact(r rfl).elim|ak=>exact(r rfl).elim
def Hj {P:fG} (D:∀z,z=P.x0\/P.E z\/z=P.xs->z∈p) {x:Nat} {o u:T} {B:er} (E:k<=d) (s:cV B l<|.v x) (H:B x=Y) (e:cV B r o) (i:eq B o u) (j:o≠.v x) (F:u.a0<=k) (f:o.a0<=29) (a:et P h) (w:eR P h k (.v x) u) (m:bv g o) (I:wD g B):ru g p P h d B l r (.v x) u:=
 ah (i.di.ins (x:=x)<|aF F E) λb A C=>by
  refine aZ (u.has x) (λc=> ?_)<|λc=> ?_
  ·exact .inl ⟨fF.h5 c λz=>j (z▸i).1,B,.h5 s e f j<|C.mpr c▸A⟩
  ·exact .inr (ft (cC x u) (hy B x o) (eL.bind c) (w.bind a c) (.bind H i.di c) (.bind s e f j ((ov.mpr λz=>c<|C.mp z)▸A) (D x ((by
    rcases w with⟨q,n,J⟩|⟨n,J⟩
    ·exact(n.fS a q).imp id .inl
    ·exact .inr<|.inr (n.fS a).1))) H) λy t z=>by
    refine aZ (y=x) (λq=> ?_)<|λq=> ?_
    ·exact am (aH<|(aK q).symm.trans z) m
    ·exact I y t<|(aX q).symm.trans z)
def Ru {P:fG} (c3:∀z,z=P.x0\/P.E z\/z=P.xs->z∈a4):∀(k:Nat) {d:Nat} {t u A E:T} {B:er} {R:cy},k<=24->k+1<=d->ep B A t->ep B E u->eR P R k t u->et P R->bv Q A->bv Q E->wD Q B->ru Q a4 P R d B A E t u:=by
 intro k
 induction k using Wd with
 |ind k b2=>
 refineλ{d t u A E B R} b3 d0 D d1 N F d2 d3 a0=>ah (uy d0) λI d4 a1=>ah D λe S h=>ah d1 λo J M=> ?_
 subst d4
 have a5:=S.wf d2 a0;have O:=J.wf d3 a0;have b0:=N.a0 F;have c4:∀{n},n<=k->n<=29:=λz=>aF z (aF b3<|by decide);have L:e.a0<=29:=aF h.a0<|c4 b0.1;have K:o.a0<=29:=aF M.a0<|c4 b0.2;refine aZ (e=o) (λq=> ?_)<|λq=> ?_
 ·exact .inr<|ft mM B (h.d4 (q▸M)▸eL.b1 _) (by refine U (ED _) ?_;exact F) (λs w h=>by refine U (sX _) ?_;exact h) (.eg S (q▸J) L) a0
 have b1:∀{e t:T},eq B e t->e.a9=t.a9:=λh=>(Gs _).symm.trans<|(al T.a9 h.e2).trans<|Gs _;have c5:∀{e t:T},eq B e t->gT e=gT t:=λh=>(IZ _).symm.trans<|(al gT h.e2).trans<|IZ _;cases X:t.a9 with
 |true=>
  cases t with
  |v x=>exact Hj c3 (lh a1) (am h.1 S) h.2 J M (λz=>q<|h.1.trans z.symm) b0.2 K F N O a0|_=>exact cW X
 |false=>
  cases a6:u.a9 with
  |true=>
   cases u with
   |v x=>
    have H:=M.2
    exact(Hj (l:=.v x) (r:=e) c3 a1 (.dG λy z=>am (T.v.inj z) H) H h.o6 h (λz=>q<|z.trans M.1.symm) b0.1 L F N.symm a5 a0).elim (λn=>.inl ⟨n.1.symm,n.2.imp λ_ m=>.n8 S (am M.1 J) ((b1 h).trans X) L m⟩)
     λz=>gz z λa7 b4 m g s z w=>.inr<|ft a7 b4 m.symm g s (.n8 S (am M.1 J) ((b1 h).trans X) L z) w
   |_=>exact cW a6
  |false=>
   have clash:∀{t u:T},t.a9=aa->u.a9=aa->(gT e=Y\/gT o=Y\/gT e≠gT o)->dH t≠dH u->e.a9=aa->o.a9=aa->ru Q a4 P R (I+1) B A E t u:=λX a6 a b v a8=>.inl ⟨fF.e2 X a6 b,B,.lt S J q v a8 L K a⟩;have v:=(b1 h).trans X;have a8:=(b1 M).trans a6;have d5:bP t≠bP u->dH t≠dH u:=λn z=>n<|(pA t).symm.trans<|(al bP z).trans<|pA u;refine aZ (bP t=3) (λa2=> ?_)<|λa2=> ?_
   ·refine aZ (bP u=3) (λa3=> ?_)<|λa3=> ?_
    ·refine la (C:=λt=>eR P R k t u->eq B e t->ru Q a4 P R (I+1) B A E t u) a2
      (λf x N h=>la (C:=λu=>eR P R k (.ay f x) u->eq B o u->ru Q a4 P R (I+1) B A E (.ay f x) u) a3 (λg y N M=>ah h λa z p=>ah M λc V a9=> ?_)
       (λg y d6 N M=>ah h λa z p=>bF M λc b5 V a9 _=>clash rfl rfl (.inr<|.inr λw=>(z▸a5:bv Q<|.ay f a).1.elim λi b6=>(V▸O:bv Q<|.ak g c b5).1.elim λj b7=>bt (al rf<|aH<|(aH (z▸V▸w:gT (.ay f a)=gT (.ak g c b5))▸b6).symm.trans b7) (by show¬(1:Nat)=2;decide)) (λw=>T.noConfusion w) v a8) N M)
      (λf x c6 N h=>la (C:=λu=>eR P R k (.ak f x c6) u->eq B o u->ru Q a4 P R (I+1) B A E (.ak f x c6) u) a3
       (λg y N M=>bF h λa b8 z p _=>ah M λc V a9=>clash rfl rfl (.inr<|.inr λw=>(z▸a5:bv Q<|.ak f a b8).1.elim λi b6=>(V▸O:bv Q<|.ay g c).1.elim λj b7=>bt (al rf<|aH<|(aH (z▸V▸w:gT (.ak f a b8)=gT (.ay g c))▸b6).symm.trans b7) (by show¬(2:Nat)=1;decide)) (λw=>T.noConfusion w) v a8)
       (λg y d6 N M=>bF h λa b8 z p d7=>bF M λc b5 V a9 b9=> ?_) N M) N h
     ·subst z V
      refine aZ (f=g) (λc=> ?_)<|λc=> ?_
      ·subst c
       refine ah (N.ay F) λi j y=> ?_;exact(b2 i (U j<|iE i) (fn (j▸b3:i+1<=24)) (d:=I) (j▸a1) p a9 y F a5.2 O.2 a0).elim (λn=>.inl ⟨n.1.ay,n.2.imp λ_ m=>.ay S J q L K m⟩) λz=>gz z λa7 b4 m g s z w=>.inr<|ft a7 b4 m.ay g s (.ay S J q L K z) w
      ·exact clash rfl rfl (.inr<|.inr λw=>c<|aH w) (λw=>c (T.ay.inj w).1) rfl rfl
     ·subst z V
      refine aZ (f=g) (λc=> ?_)<|λc=> ?_
      ·subst c
       refine bR (N.o2 F) λi j d8 s=>bR d8 λy c7 c0 c1=> ?_;have a1:i+1<=I:=am j a1
       exact(b2 y (U j<|jX c7) (aF c0<|by decide) (d:=I) (aF (dv c7) a1) p a9 c1 F a5.2.1 O.2.1 a0).elim (λn=>.inl ⟨n.1.m6,n.2.imp λ_ m=>.s3 S J q L K m⟩) λz=>gz z λa7 e6 c8 d9 s1 c9 e0=>(b2 i (U j<|iE i) (fn (j▸b3:i+1<=24)) (d:=I) a1 (s1 _ _ d7) (s1 _ _ b9) (s.f7 a7) d9 a5.2.2 O.2.2 e0).elim (λn=>.inl ⟨fF.m7 c8 n.1,n.2.imp λ_ m=>.ak S J q L K c9 m⟩) λz=>gz z λc2 e1 e2 e3 s2 e4 e5=>.inr<|ft (au a7 c2) e1 (c8.ak e2) (by refine am (z3 _ _ _) ?_;exact e3) (s1.trans s2) (.ak S J q L K c9 e4) e5
      ·exact clash rfl rfl (.inr<|.inr λw=>c<|aH w) (λw=>c (T.ak.inj w).1) rfl rfl
    ·exact clash X a6 (.inr<|.inl<|(c5 M).trans<|IX a3) (d5 λz=>a3<|am z a2) v a8
   ·exact clash X a6 (.inl<|(c5 h).trans<|IX a2) (λz=>q<|h.l6 ((show u=t from by
     have a3:bP u≠3:=λw=>a2<|(pA t).symm.trans<|(al bP z).trans<|(pA u).trans w
     exact(ys a3).symm.trans<|z.symm.trans<|ys a2)▸M) a2) v a8
end
section
open PySem
def Gp (h:cN a):cN (kl a).2/\cP 3 a (kl a).2:=cps λf b=>dq (h.func (S "instantiation_error") 0<|by decide) λc d _=>dq (c.atom (S "instantiation_error")<|by decide) λe _ _=>b ⟨e,d.trans<|cP.atom _ _⟩
def yB (h:cN a) {s:List Nat} (b:s.length<=1000) (t:T):cN (c_ a s t).2/\cP 3 a (c_ a s t).2:=cps λg c=>dq (h.atom s b) λd _ _=>dq (d.func (S "type_error") 2<|by decide) λe f _=>c ⟨e,(cP.atom _ _).trans f⟩
def Lf (b:aw):jt->Prop|.a4 _ a=>cN a/\cP 3 b a|.e3 _=>True
def E8 (h:cN d):Lf d<|mH d f g a e b i c:=
 wT (λ_=>Gp h) (λ_ _=>yB h (by decide) _) (λ_ _ _=>yB h (by decide) _) (λ_ _ _ o _=>by
  cases o with
  |none=>exact Gp h|some t=>exact yB h (by decide) _) (λ_ _ _ _ _ _=>yB h (by decide) _) λ_ _ _=>trivial
def BI {a:List T} {e:T} (h:∀t∈a,t.a0<=d) (b:e.a0<=d):(ch a e).a0<=d+a.length:=by
 induction a with
 |nil=>exact b|cons t a c=>exact dv<|nM.mpr ⟨aF (h t<|.head _)<|ck _ _,c λu m=>h u<|.tail _ m⟩
theorem z5:∀{l:List T} {p:T},x∈fL p l->x∈l
 |[],_,h=>h|y::l,p,h=>by
  have h:x∈(if y≠p then y::fL y l else fL y l):=h
  split at h
  ·refine gf (bY.mp h) (λe=> ?_)<|λh=> ?_
   ·exact U e<|.head _
   ·exact .tail _<|z5 h
  ·exact .tail _<|z5 h
def FX {d:List T}:(∀t∈kT c f d,t∈d)/\(kT c f d).length<=d.length:=by
 unfold kT
 refine bx (HV (g:=f) (i:=d)) λa b=> ?_
 split
 ·refine⟨λt h=>a t ?_,by refine am b ?_;exact EP _⟩;generalize eH f d=l at h;cases l with
  |nil=>exact h|cons x l=>
   refine gf (bY.mp h) (λe=> ?_)<|λh=> ?_
   ·exact am e<|.head _
   ·exact .tail _<|z5 h
 ·exact⟨a,by exact aI<|aj [_,_] [] [.n 1 Z G,.n 1 (.a G W) Z] rfl<|bp b⟩
def HD (d:hL c) (w:bv c t):sH t:=λx e=>by
 subst e
 refine bx w λa _=> ?_;refine bw a λp b=> ?_;have b:=cJ (hB d.2) b;cases b
def jZ (b:aw) (e:T):Prop:=e=.v 5\/∃k,e=.a k/\k<b.bf.length
def jZ.a2 (h:cP k a b) (i:jZ a e):jZ b e:=i.imp id λc=>ah c λk d l=>ax k d<|dL l h.bb.1
theorem jZ.a0 {e:T} (h:jZ a e):e.a0=0:=by rcases h with rfl|⟨k,rfl,_⟩<;>rfl
def Mu (N:cN e) (h:∀t∈g,fV e t):tI e 4 c (hi e c) g:=λx j y l=>by have a:=h x j;have f:=h y l;have k:=qC (b:=c) (c:=0) ⟨a.2.2,a.2.1⟩;have i:=qC (b:=c) (c:=0) ⟨f.2.2,f.2.1⟩;have d:=A2 c x;have m:=A2 c y;have:=a.1;have:=f.1;exact Mv N N.BP k.1 i.1 k.2 i.2 (by exact aI<|aj [_,_] [] [.n 1 Z G,.n 1 G u3,.n 1 (.a (.k 29) W) Z] rfl d ‹x.a0<=3›) (by exact aI<|aj [_,_] [] [.n 1 Z G,.n 1 G u3,.n 1 (.a (.k 29) W) Z] rfl m this)<|by exact aI<|aj [_,_] [] [.n 1 Z G,.n 1 G u3,.n 1 (.a (.k 4) W)<|.a Z W] rfl d ‹x.a0<=3›
def E7 (n:Nat) {w:aM} {l:List O} {j:Nat} {g:Nat} {i c:List T} {e f o:T} (N:cN w.nm) (s:hL w.nm) (S:jd w) (u:l[j]?=J (.X<|i.map af)) (h:∀t∈i,fV w.nm t) (q:i.length<=20) (r:jZ w.nm e) (x:no f c o) (y:c.length<=20) (z:∀t∈c,t.a0<=28/\sH t) (A:f.a0<=28) (p:o.a0<=28):
  tN w l f (mH w.nm (hi w.nm<|bj<|g=2) i c e f o g)<|aD (n+10) aa 100 [.ref 2,.ref<|be j,af e,af f,.I g]<|mk w l:=by
 have C:bj ((g:Int)=2)=bj (g=2):=decide_eq_decide.mpr<|Cu (n:=2);have B:=Mu (c:=bj<|g=2) N h;rw[<-C]at B ⊢;exact NN n 4 u x S (by exact aI<|aj [_] [] [.n 1 Z<|.k 20,.n 1 (.a (.k 1000) W) Z] rfl q) (by exact aI<|aj [_] [] [.n 1 Z<|.k 20,.n 1 (.a (.k 1000) W) Z] rfl y) (by refine U r.a0 ?_;exact aI<|aj [] [] [.n 1 (.a (.k 20) W) u0] rfl) (by have:=BI (d:=3) (λt m=>(h t m).1) (by refine U r.a0 ?_;exact aI (aj [] [] [.n 1 (.a u3 W) u0] rfl):e.a0<=3);exact aI<|aj [_,_] [] [.n 1 Z<|.k 20,.n 1 G<|.a u3 Z,.n 1 (.a (.k 28) W) G] rfl q this) A p (λt m=>⟨by have:=(h t m).1;exact aI<|aj [_] [] [.n 1 Z u3,.n 1 (.a (.k 28) W) Z] rfl this,HD s (h t m).2.2⟩) z λ_=>B
def Fj:List cA:=[.aN 11<|.av [.W<|.Z<|S "a",.W<|.I 0],.aQ (.au .Eq (kO 10)<|.W<|.I 9) [.aN 11<|.ao (.X [.av [.W<|.Z<|S "v",.W<|.I 5],.av [.W<|.Z<|S "a",.aS (.loc 3) 8 [.W<|.Z<|S "b"]]])<|kO 2] []]
def Q7 (n:Nat) {b:aM} (F:dS 1 b) (H:hL b.nm):∃(e:T) (s:aM),eF 1 b s/\jZ s.nm e/\∀(d:List O) (g:ap),g 2=J (.ref 1)->g 3=J (.ref 2)->∃l h,bG (aD<|n+1) Fj aa g (mk b d)=J (.ok .a1 h<|mk s<|d++l)/\h 11=J (af e)/\∀i,i≠11->h i=g i:=by
 have K:0<b.nm.bf.length:=dK (cr _)<|F.2.1.lR _<|em H.1;refine dx (hV n 10 (by decide) (by decide) F.1 F.2.1) λv f V t L z=> ?_;have o:dS 1 f:=t.c8 (j:=0) (by refine U (eb _) ?_;exact F);refine aZ ((v:Int)=9) (λq=> ?_)<|λq=> ?_
 ·have A:=o.2.1.atom (S "b") (by decide);obtain⟨m,k⟩:∃m:aM,m=f.sN (f.nm.atom<|S "b").2:=⟨_,rfl⟩;have B:eF 1 f m:=by refine U k ?_;exact⟨rfl,rfl,rfl,o.1,A.1,cP.atom _ _⟩
  have C:dS 0 m:=B.c8 (j:=1) o;refine dx (hV (w:=m) n 2 (by decide) (by decide) C.1 C.2.1) λu M D N P Q=> ?_;obtain⟨e,x⟩:∃e,[T.v 5,.a (f.nm.atom<|S "b").1][u]?=J e:=⟨_,fd D⟩;have R:([T.v 5,.a (f.nm.atom<|S "b").1].map af)[u]?=J (af e):=jG x;have y:∀d,aD (n+1) aa 5 [.ref 2,.Z<|S "b"] (mk f d)=J (.ok<|.I (f.nm.atom<|S "b").1,mk m d):=λd=>U k<|rM (w:=f) (j:=d) n aa (S "b") o.small;refine(dD e M (((t.trans B).trans N).a2<|bE _) (?_)<|λd g p E=>dD ([.X<|[T.v 5,.a (f.nm.atom<|S "b").1].map af]) (aB (aB g 11<|af<|.a 0) 11<|af e) (?_) rfl<|λi r=>(gW r).trans<|gW r)
  ·have:u=0\/u=1:=G5 D;rcases this with rfl|rfl
   ·obtain rfl:=aH x;exact .inl rfl
   ·obtain rfl:=aH x;exact .inr<|ax _ rfl<|U P<|U k<|(cK.mp A.2.1).1
  ·exact ia 2007 λc=>c p (z d) (gH q) E (y d) (cX (a:=[T.v 5,.a (f.nm.atom<|S "b").1].map af) rfl) p (Q _)<|ot rfl R
 ·exact dD (.a 0) f (t.a2<|cr _) (.inr ⟨0,rfl,by refine U L ?_;exact K⟩)<|λd g p E=>dD ([]) (aB g 11<|af<|.a 0) (by refine U (dI _) ?_;exact ia 7 λc=>c p (z d)<|dt q) rfl<|λi r=>gW r
end
section
open PySem
def Am:a_:=.dM (.au .Eq (.ao (.loc 16)<|.W<|.I 0)<|.W<|.Z<|S "s")<|.au .Eq (.ao (.loc 16)<|.W<|.I 1)<|.W<|.I 0
noncomputable def An:List cA:=[.cu<|.aS (.loc 14) 0 [.ao (.ao (.loc 16)<|.W<|.I 2)<|.W<|.I 0],.aN 16<|.ao (.ao (.loc 16)<|.W<|.I 2)<|.W<|.I 1]
def U2 {q:List T} (h:no t q s):∀(g:List T) (k:List O) (m:ap),k[j]?=J (.X<|g.map af)->m 14=J (.ref<|be j)->m 16=J (af t)->g.length+q.length<=1000->
  ∃l d,eD (aD n) aa Am An m (mk w k)=J (.ok .a1 l<|mk w d)/\d[j]?=J (.X<|(g++q).map af)/\co [j] k d/\∀i,i≠16->l i=m i:=by
 induction h with
 | @dG t u z=>
  intro g k m p o c r
  refine(fe m k (?_) (by refine U (dI _) ?_;exact p) (co.b1 _ _)<|λ_ _=>rfl);cases t with
  |ay f x=>exact ci 162 λb=>b c c (dt<|λe:(f:Int)=0=>z x<|by exact U (eW e) rfl)|ak f x y=>exact ci 162 λb=>b c c (dt<|λe:(f:Int)=0=>u x y<|by exact U (eW e) rfl)|v _=>exact ci 2 λb=>b c|i _=>exact ci 2 λb=>b c|a _=>exact ci 2 λb=>b c
 | @cT x y t q _ f=>
  intro g k m p o c r
  have u:=(cK.mp p).1;have A:(g.map af).length<ar:=by refine U (bX _) ?_;exact dL (li<|hF _) (aF r<|by decide)
  refine dx (f (g++[x]) (k.set j<|.X<|g.map af++[af x]) (aB m 16<|af y) (by refine U g_ ?_;exact gX u) o rfl<|by refine U (d_ _ _)<|U (jo _ _) ?_;exact r) λl d z B C D=> ?_;refine(fe l d (?_) (by refine U B<|U (bD _ _ _) ?_;rfl) ((co.set<|.head _).trans C)<|λi e=>(D i e).trans<|gW e);have e:fM (aD n aa) (be j) 0 [af x] (mk w k)=J (.ok .a6,mk w<|k.set j<|.X<|g.map af++[af x]):=U (jB (cq p)<|jm rfl)<|U (oT (cq p) A)<|U vg rfl;exact ci 52770 λb=>(b c c o (po (cq p) rfl) c e c).trans z
def Ao:a_:=.aQ (.au .Gt (kO 3)<|.W<|.I 0) (.loc 102)<|.av [.W<|.Z<|S "v",.cH .Add (.W<|.I 10)<|.loc 101]
def Rr (n:Nat) {i:List T} (s:p 2=J (.ref 1)) (A:h[q]?=J (.X<|i.map af)):∀(l g:List T) (a:aM) (d:List T),i=g++l->dS 0 a->d.length+l.length<=100->
  ∃(o:aM) (f:List T),fY (aD (n+1) aa) aa [101,102] [] Ao (.fi (be q) g.length) p (mk a h) (d.map af)=J (.ok<|(d++f).map af,mk o h)/\eF 0 a o/\f.length=l.length/\∀t∈f,t∈l\/∃k,k<i.length/\t=.v (10+k):=by
 intro l
 induction l with
 |nil=>
  intro g a d e F b
  exact fe a ([]) (by exact U (uu<|R1 (cq A)<|mK e)<|U (dI _) rfl) ⟨rfl,rfl,rfl,F.1,F.2.1,cP.b1 _⟩ rfl<|λt m=>nomatch m
 |cons x l E=>
  intro g a d e F b
  refine dx (hV (w:=a) n 3 (by decide) (by decide) F.1 F.2.1) λv B L C M D=> ?_
  obtain⟨t,z,H⟩:∃t:T,aU (aD (n+1) aa) aa Ao (aB (aB p 101<|.I g.length) 102<|af x) (mk a h)=J (.ok<|af t,mk B h)/\(t=x\/t=.v (10+g.length)):=by
   refine aZ ((0:Int)<v) (λr=> ?_)<|λr=> ?_
   ·exact ax x (by exact iV 11 λc=>c s (D h)<|cz r)<|.inl rfl
   ·exact ax (.v<|10+g.length) (by exact iV 11 λc=>c s (D h)<|gP r)<|.inr rfl
  refine dx (E (g++[x]) B (d++[t]) (by refine U e<|U (bD _ _ _) ?_;rfl) (C.c8 (j:=0)<|by refine U (eb _) ?_;exact F)<|by refine U (d_ _ _)<|U (jo _ _) ?_;exact b) λo f y c r K=> ?_;rw[d_,g_,bD]at y;refine(fe o (t::f) (?_) ((C.trans c).a2<|bE _) (al (· +1) r)<|λu m=> ?_)
  ·exact uv (R2 (cq A)<|eN e) rfl rfl z (by refine U (bX _) ?_;exact dL (li<|hF _)<|aF b<|by decide) y
  ·rcases bY.mp m with rfl|m
   ·rcases H with rfl|rfl
    ·exact .inl<|.head _
    ·exact .inr<|ax g.length (qH e<|bE _) rfl
   ·exact(K u m).imp (.tail _) id
end
section
open PySem
noncomputable def E6:a_:=.bi (.W<|.aA 100) [.loc 3,.loc 7,.loc 11,.loc 13,.loc 6]
def uD:List cA:=[.aN 15 E6,.aN 14<|.X [],.aN 16<|.aQ (.au .Eq (.ao (.loc 15)<|.W<|.I 0)<|.W<|.Z<|S "holds") (.ao (.ao (.ao (.loc 15)<|.W<|.I 1)<|.W<|.I 0)<|.W<|.I 1)<|.loc 11,.while Am An]
def DQ (b:∀x y,e≠.ak 0 x y) (c:∀x,e≠.ay 0 x):no (ch a e) a e:=by
 induction a with
 |nil=>exact .dG b c|cons t a d=>exact .cT d
def jZ.un (h:jZ a e):(∀x y,e≠.ak 0 x y)/\∀x,e≠.ay 0 x:=by rcases h with rfl|⟨k,rfl,_⟩<;>exact⟨λ_ _ h=>(by cases h),λ_ h=>by cases h⟩
def dS.sm {k:Nat} {w:aM} (F:dS k w):jd w:=⟨by have:=F.2.2;exact bo<|aj [_,_] [] [.n 1 (.a (.a Z G) W)<|.k 900000,.n 1 (.k 1000000)<|.a Z u2] rfl this.1,by have:=F.2.2;exact bo<|aj [_,_] [] [.n 1 (.a (.a Z G) W)<|.k 900000,.n 1 (.k 1000000)<|.a Z W] rfl this.2⟩
def TN (n:Nat) {b:aM} {o:List O} {E:List T} (F:dS 3 b) (b7:hL b.nm) (a3:∀t∈E,fV b.nm t) (a8:E.length<=7) (a5:jZ b.nm f) (b8:o[u]?=J (.X<|E.map af)) (L:nj d u s H) (K:H 11=J (af f)) (Q:H 13=J (af<|.v 9)):
  ∃(g:ap) (Y:aM) (l:List O) (c:List T) (q:Nat),bG (aD<|n+10) uD aa H (mk b o)=J (.ok .a1 g<|mk Y l)/\eF 3 b Y/\l[q]?=J (.X<|c.map af)/\g 14=J (.ref<|be q)/\o.length<=q/\c.length<=7/\(∀t∈c,t∈E)/\co [] o l/\∀i,i<14->g i=H i:=by
 have A:=E7 n (g:=d) (c:=[]) (f:=.v 9) (o:=.v 9) F.2.1 b7 F.sm b8 a3 (by exact aI<|aj [_] [] [.n 1 Z u7,.n 1 (.a (.k 20) W) Z] rfl a8) a5 (.dG (λ_ _ h=>by cases h) λ_ h=>by cases h) (by simp) (λt m=>by cases m) (by decide) (by decide);have N:=E8 F.2.1 (f:=hi b.nm<|bj<|d=2) (g:=E) (a:=[]) (e:=f) (b:=.v 9) (i:=.v 9) (c:=d);have a0:∀{p:T×aw} {c:T} {P:Prop},jC p=.e3 c->P:=λz=>by cases z
 have R:∀c,mH b.nm (hi b.nm<|bj<|d=2) E [] f (.v 9) (.v 9) d=.e3 c->c=ch (kT d (hi b.nm<|bj<|d=2) E) (.a 0):=λc=>wT (C:=λD=>D=.e3 c->c=_) (λ_=>a0) (λ_ _=>a0) (λ_ _ _=>a0) (λ_ _ _ _ _=>a0) (λ_ _ _ _ _ _=>a0) λ_ _ _ z=>(jt.e3.inj z).symm
 have a9:∀(r:V) (M:aM) (B:List O) (t b0:T) (c:List T),eF 3 b M->no t c b0->c.length<=7->(∀t∈c,t∈E)->
   (∀g l,eD (aD<|n+10) aa Am An (aB (aB (aB H 15 r) 14<|.ref<|be (o++B).length) 16<|af t) (mk M<|o++B++[.X []])=J (.ok .a1 g<|mk M l)->bG (aD<|n+10) uD aa H (mk b o)=J (.ok .a1 g<|mk M l))->
   ∃(g:ap) (Y:aM) (l:List O) (c:List T) (q:Nat),bG (aD<|n+10) uD aa H (mk b o)=J (.ok .a1 g<|mk Y l)/\eF 3 b Y/\l[q]?=J (.X<|c.map af)/\g 14=J (.ref<|be q)/\o.length<=q/\c.length<=7/\(∀t∈c,t∈E)/\co [] o l/\∀i,i<14->g i=H i:=by
  intro r M B t b0 c D b9 b1 c0 z
  refine dx (U2 (n:=n+10) (w:=M) (j:=(o++B).length) b9 [] (o++B++[.X []]) (aB (aB (aB H 15 r) 14<|.ref<|be (o++B).length) 16<|af t) dJ rfl rfl<|aF (bp<|eb _)<|aF b1<|by decide) λg l y c1 b2 b3=> ?_;have b4:o.length<=(o++B).length:=by refine U bH ?_;exact ck _ _
  refine(DC g M l c ((o++B).length) (z g l y) D c1 (b3 14<|by decide) b4 b1 c0 (?_)<|λi b5=> ?_)
  ·rw[bD]at b2;exact b2.gS λu m=>by refine U (dk.mp m) ?_;exact b4
  ·have x:=tx b5;exact U (b3 i<|dQ<|tx x)<|U (gW<|dQ<|tx x)<|U (gW<|dQ b5)<|U (gW<|dQ x) rfl
 cases a6:mH b.nm (hi b.nm<|bj<|d=2) E [] f (.v 9) (.v 9) d with
 |a4 t a7=>rw[a6]at A N;exact bw A λB z=>a9 (jE t) (b.sN a7) B f f [] ⟨rfl,rfl,rfl,F.1,N.1,N.2⟩ (.dG a5.un.1 a5.un.2) (cr _) (λt m=>nomatch m) λg l y=>ia 6271 λx=>x L.cv L.fa K Q L.fx z (lS (a:=[]) rfl) K y
 |e3 c=>have c2:=R c a6;rw[a6]at A;exact bS A λB q z c3=>have b6:=FX (c:=d) (f:=hi b.nm<|bj<|d=2) (d:=E);have c4:go (.ref<|aC o q) (.I 0) (mk b<|o++B++[.X []])=J (.av [af<|.v 9,af c]):=U (bD _ _ _)<|ot (k:=0) (cG c3) rfl;a9 (.av [.Z<|S "holds",.ref<|aC o q]) b B c (.a 0) (kT d (hi b.nm<|bj<|d=2) E) ⟨rfl,rfl,rfl,F.1,F.2.1,(cP.b1 _).a2<|cr _⟩ (by refine U c2 ?_;exact DQ (λ_ _ h=>nomatch h) λ_ h=>nomatch h) (aF b6.2 a8) b6.1 λg l y=>ia 41087 λx=>x L.cv L.fa K Q L.fx z (lS (a:=[]) rfl) c4 y
end
section
open PySem
def N8:a_:=.fh Ao [101,102] 2 [.loc 14] []
noncomputable def qT:List T:=[.a 0,.v 20,.a 0,.i 3,.ak 0 (.i 1)<|.v 21]
def N9:a_:=.X [.av [.W<|.Z<|S "a",.W<|.I 0],.av [.W<|.Z<|S "v",.W<|.I 20],.av [.W<|.Z<|S "a",.W<|.I 0],.av [.W<|.Z<|S "i",.W<|.I 3],.av [.W<|.Z<|S "s",.W<|.I 0,.av [.av [.W<|.Z<|S "i",.W<|.I 1],.av [.W<|.Z<|S "v",.W<|.I 21]]]]
def Ak:List cA:=[.aN 14<|.f2<|.loc 7]++([.aQ (.au .Lt (.loc 12)<|.W<|.I 4) uD []]++[.aN 14 N8,.aN 17 N9,.aN 13<|.bi (.W<|.aA 95) [.loc 14,.ao (.loc 17)<|kO 5]])
def wl (d:aw) (a:T):Prop:=a=.v 9\/∃(b:List T) (c:T),a=ch b c/\b.length<=7/\(∀t∈b,fV d t\/∃k,k<7/\t=.v (10+k))/\c∈qT
def Rh (h:a<b):ex .Lt (.I a) (.I b) c=J ac:=al J<|decide_eq_true h
def Rd (h:¬a<b):ex .Lt (.I a) (.I b) c=J aa:=al J<|decide_eq_false h
def L8 (n:Nat) {a:aM} {y:List T} (F:dS 3 a) (c6:hL a.nm) (S:∀t∈y,fV a.nm t) (a4:y.length<=7) (c7:jZ a.nm h) (b5:p[g]?=J (.X<|y.map af)) (L:nj H g s x) (a5:x 11=J (af h)) (a6:x 12=J (.I v)) (a7:x 13=J (af<|.v 9)):
  ∃(M:ap) (a8:aM) (V:List O) (A:T),bG (aD<|n+10) Ak aa x (mk a p)=J (.ok .a1 M<|mk a8 V)/\eF 3 a a8/\wl a8.nm A/\M 13=J (af A)/\co [] p V/\∀i,i<13->M i=x i:=by
 have c8:pG (λl=>l) (.ref<|be g) (mk a p)=J (.ok<|.ref<|be p.length,mk a<|p++[.X<|y.map af]):=by
  unfold pG;refine U (sw<|cq b5) ?_
  exact lS (tw.mpr<|by refine U (bX _) ?_;exact aF a4<|by decide)
 have Y:bG (aD<|n+10) [.aN 14<|.f2<|.loc 7] aa x (mk a p)=J (.ok .a1 (aB x 14<|.ref<|be p.length)<|mk a<|p++[.X<|y.map af]):=by exact ia 3 λd=>d L.fa c8
 refine cps λb6 N=> ?_;obtain⟨B,C⟩:∃R,R=aB x 14 (.ref<|be p.length):=⟨_,rfl⟩;rw[<-C]at Y;have Q:∀i,i<14->B i=x i:=λi E=>by refine U C ?_;exact gW<|dQ E
 have c9:nj H g s B:=L.of λi E=>Q i (iF E<|by decide)
 have a9:∃(l:ap) (P:aM) (f:List O) (r:List T) (c:Nat),bG (aD<|n+10) [.aQ (.au .Lt (.loc 12)<|.W<|.I 4) uD []] aa B (mk a<|p++[.X<|y.map af])=J (.ok .a1 l<|mk P f)/\eF 3 a P/\f[c]?=J (.X<|r.map af)/\l 14=J (.ref<|be c)/\r.length<=7/\(∀t∈r,t∈y)/\co [] p f/\∀i,i<14->l i=x i:=by
  have k:B 12=J (.I v):=(Q _<|by decide).trans a6;refine cps λb6 N=> ?_;refine aZ ((v:Int)<4) (λc=> ?_)<|λc=> ?_
  ·obtain⟨l,P,f,r,m,z,D,b0,b1,d8,b2,o,K,u⟩:=TN n (o:=p++[.X<|y.map af]) F c6 S a4 c7 (cG b5) c9 ((Q _<|by decide).trans a5)<|(Q _<|by decide).trans a7;exact N<|DB l P f r m (yi (B:=mk a<|p++[.X<|y.map af]) (by exact iV 3 λd=>d k<|Rh c) z) D b0 b1 b2 o ((co.c4 _ p _).trans K)<|λi E=>(u i E).trans<|Q i E
  ·exact N<|DB B a (p++[.X<|y.map af]) y p.length (yh<|by exact iV 3 λd=>d k<|Rd c) ⟨rfl,rfl,rfl,F.1,F.2.1,(cP.b1 _).a2<|cr _⟩ dJ (by refine U C ?_;rfl) a4 (λt m=>m) (co.c4 _ p _) Q
 refine Lk a9 λl P f r c b0 b7 d0 z D d1 d2 b8=> ?_;have b9:dS 0 P:=b7.c8 (j:=3) F;have c0:l 2=J (.ref 1):=(b8 _<|by decide).trans L.cw;refine dx (Rr (n+9) (p:=gK l) (h:=f) (q:=c) (i:=r) c0 d0 r [] P [] rfl b9<|aF (bp<|eb _)<|aF D<|by decide) λc1 u b1 c2 b3 d3=> ?_;have c3:dS 0 c1:=c2.c8 (j:=0) b9;have d4:ma (u.map af).length ar=ac:=tw.mpr (by refine U (bX _)<|U b3 ?_;exact aF D<|by decide);refine dx (hV (w:=c1) (n+9) 5 (by decide) (by decide) c3.1 c3.2.1) λc4 c5 b4 d5 d9 d6=> ?_;obtain⟨a3,K⟩:∃t,qT[c4]?=J t:=⟨_,fd (show c4<qT.length from b4)⟩;refine bw (x2 (w:=c5) (d:=f++[.X<|u.map af]++[.X<|qT.map af]) (n+9) (j:=f.length) (a:=u) (e:=a3) (cG dJ)<|by refine U b3 ?_;exact aF D<|by decide) λo b2=> ?_;have a0:=(b7.trans c2).trans d5;refine N ?_;refine(nd _ c5 (f++[.X<|u.map af]++[.X<|qT.map af]++[o]) (ch u a3) (om Y<|om b0<|cJ (b:=J<|.ok .a1 (aB (aB (aB l 14<|.ref<|be f.length) 17<|.ref<|be (f++[O.X<|u.map af]).length) 13<|af<|ch u a3) _) ?_ rfl) (a0.a2<|bE _) (.inr<|fe u a3 rfl (by refine U b3 ?_;exact D) (λt m=> ?_)<|em K) rfl (((d2.trans<|co.c4 _ f _).trans<|co.c4 _ _ _).trans<|co.c4 _ _ [o])<|λi E=> ?_)
 ·exact ia 1949 λd=>d z b1 (lS d4) (lS (a:=qT.map af) rfl) c0 (d6 _) (iq (cq dJ)<|jG K) b2
 ·refine cps λb6 N=> ?_;rcases d3 t m with m|⟨k,d7,h⟩
  ·exact N<|.inl<|(S t<|d1 t m).a2 a0.dN
  ·exact N<|.inr<|ax k (dL d7 D) h
 ·exact have z:=tx E;(U (gW<|dQ E)<|U (gW<|dQ<|iF z<|by decide)<|U (gW<|dQ z)<|b8 i z)
end
def vl (a:List T) (e:T) (b:cy):(ch a e).sub b=ch (a.map λt=>t.sub b) (e.sub b):=by
 induction a with
 |nil=>rfl|cons t a c=>exact al (T.ak 0<|t.sub b) c
def ym (t:T):t.fR<=2*t.num+1:=by
 induction t with
 |v n=>exact bE _|i z=>exact bE _|a k=>exact bE _|ay f x b=>show x.fR+1<=2*(x.num+1)+1;exact aI<|aj [_,_] [] [.n 1 Z<|.a (.m 2 G) W,.n 1 (.a (.a (.m 2<|.a G W) W) W)<|.a Z W] rfl b|ak f x y b c=>show x.fR+y.fR+1<=2*(x.num+y.num+1)+1;exact aI<|aj [_,_,_,_] [] [.n 1 Z<|.a (.m 2 G) W,.n 1 v2<|.a (.m 2 v3) W,.n 1 (.a (.a (.m 2<|.a (.a G v3) W) W) W)<|.a (.a Z v2) W] rfl b c
def IA {b:List T} {e:T} (h:∀t∈b,t.num<=k):(ch b e).num<=b.length*(k+1)+e.num:=by
 induction b with
 |nil=>simp[ch]|cons t b c=>have:=c λu m=>h u<|.tail _ m;have:=h t<|.head _;refine U (vk _ _ _) ?_;show t.num+(ch b e).num+1<=(b.length+1)*(k+1)+e.num;exact U (Nat.add_mul _ _ _)<|aI<|aj [_,_,_,_,_] [] [.n 1 Z<|.a G v2,.n 1 v3 v4,.n 1 (.a (.a (.a G<|.m 1<|.a v4 W) v2) W)<|.a (.a v3 Z) W] rfl ‹(ch b e).num<=b.length*(k+1)+e.num› this
def nF {t:T} (h:t.a0<=3):t.num<=7:=by have a:=HL t;have b:=CM (n:=2) (by decide) h;exact jn (show t.num+1<=7+1 from aF a b)
def va (t:T) (b:Nat->Nat):(t.sub<|bJ b).num=t.num:=by
 induction t with
 |v n=>rfl|i z=>rfl|a k=>rfl|ay f x c=>exact al (· +1) c|ak f x y c d=>show(x.sub<|bJ b).num+(y.sub<|bJ b).num+1=_;exact U c<|U d rfl
def NE (t:T) (b:Nat->Nat):(t.sub<|bJ b).a0=t.a0:=by
 induction t with
 |v n=>rfl|i z=>rfl|a k=>rfl|ay f x c=>exact al (· +1) c|ak f x y c d=>show oz (x.sub<|bJ b).a0 (y.sub<|bJ b).a0+1=_;exact U c<|U d rfl
def JT {t:T} (c:Nat->Nat) (h:bv b t):bv b<|t.sub<|bJ c:=by
 induction t with
 |v n=>trivial|i z=>trivial|a k=>exact h|ay f x d=>exact⟨h.1,d h.2⟩|ak f x y d e=>exact bB (h.1) (d h.2.1)<|e h.2.2
def Gb {t:T}:(t.sub<|bJ d).has m↔∃n,t.has n/\m=d n:=(U (propext AU) ⟨λc=>ah c λn a b=>ax n a b.symm,λc=>ah c λn a b=>ax n a b.symm⟩)
def Cf (c:hL a) (h:∀t∈b,bv a t) (d:bv a e):bv a<|ch b e:=by
 induction b with
 |nil=>exact d|cons t b f=>exact bB ⟨_,c.1⟩ (h t<|.head _)<|f λu m=>h u<|.tail _ m
noncomputable def sR (a:cd) (L:Nat) (n:Nat):Nat:=(a.lookup n).getD<|L+n
def S0 (b:cd) (L:Nat):rp b<|sR b L:=λn a h=>by unfold sR;refine U h ?_;rfl
def S1 {H:bh} (I:i_ H c []) (n m:Nat) (h:sR c H.length n=sR c H.length m):n=m:=by
 unfold sR at h
 cases p:c.lookup n with
 |some a=>
  have d:=(cK.mp (I.lU n a p).1).1;cases q:c.lookup m with
  |some b=>
   have h:=q▸(p▸h);have h:a=b:=h
   subst h
   exact I.inj n m a p q
  |none=>rw[p,q]at h;simp at h;exact iD (aI<|aj [_,_,_,_] [] [.n 1 (.a Z G) v2,.n 1 (.a v2 W) Z,.n 0 (.a G W) v3] rfl (bp h.symm) d)<|aI<|aj [_,_,_,_] [] [.n 1 (.a Z G) v2,.n 1 (.a v2 W) Z,.n 0 (.a v3 W) G] rfl (bp h.symm) d
 |none=>
  cases q:c.lookup m with
  |some b=>have d:=(cK.mp (I.lU m b q).1).1;rw[p,q]at h;simp at h;exact iD (aI<|aj [_,_,_,_] [] [.n 1 (.a Z G) v2,.n 1 (.a v2 W) Z,.n 0 (.a v3 W) G] rfl (bp h) d)<|aI<|aj [_,_,_,_] [] [.n 1 (.a Z G) v2,.n 1 (.a v2 W) Z,.n 0 (.a G W) v3] rfl (bp h) d
  |none=>have h:=q▸(p▸h);simp at h;exact iD (aI<|aj [_,_] [] [.n 1 Z G,.n 1 (.a G W) Z] rfl<|bp h)<|aI<|aj [_,_] [] [.n 1 Z G,.n 1 (.a G W) Z] rfl<|bp h.symm
open Classical in
def xj {f:Nat->Nat} {D:Nat->Prop} (b:∀x y,D x->D y->f x=f y->x=y):∃g:Nat->Nat,∀x,D x->g (f x)=x:=by refine⟨λa=>if h:∃x,D x/\f x=a then h.choose else 0,λx c=> ?_⟩;have h:∃y,D y/\f y=f x:=ax x c rfl;show(if h:∃y,D y/\f y=f x then h.choose else 0)=x;exact cJ (dif_pos h)<|b _ _ h.choose_spec.1 c h.choose_spec.2
def BW {X:T} (h:∀x,X.has x->g (f x)=x):(X.sub<|bJ f).sub (bJ g)=X:=cJ (ez _ _ _) (sW λn q=>by show T.v (g<|f n)=_;exact U (h n q) rfl)
def hg.lA {l:T} {d e b c:cd} (h:hg l r d e b c):b.length<=d.length+l.fR/\c.length<=e.length+l.fR:=by
 induction h with
 |i _ _ _=>exact⟨by exact aI<|aj [_,_] [] [.n 1 (.a (.a Z G) W) Z] rfl,by exact aI<|aj [_,_] [] [.n 1 (.a (.a Z G) W) Z] rfl⟩|a _ _ _=>exact⟨by exact aI<|aj [_,_] [] [.n 1 (.a (.a Z G) W) Z] rfl,by exact aI<|aj [_,_] [] [.n 1 (.a (.a Z G) W) Z] rfl⟩|gS _ _=>exact⟨by exact aI<|aj [_,_] [] [.n 1 (.a (.a Z G) W) Z] rfl,by exact aI<|aj [_,_] [] [.n 1 (.a (.a Z G) W) Z] rfl⟩|iS _ _=>exact⟨bp bH,bp bH⟩|ay _ f=>show _<=_+(_+1)/\_<=_+(_+1);exact⟨aI<|aj [_,_,_] [] [.n 1 Z<|.a G v2,.n 1 (.a (.a G<|.a v2 W) W) Z] rfl f.1,aI<|aj [_,_,_] [] [.n 1 Z<|.a G v2,.n 1 (.a (.a G<|.a v2 W) W) Z] rfl f.2⟩|ak _ _ f g=>show _<=_+(_+_+1)/\_<=_+(_+_+1);exact⟨aI<|aj [_,_,_,_,_] [] [.n 1 Z<|.a G v2,.n 1 v3<|.a Z v4,.n 1 (.a (.a G<|.a (.a v2 v4) W) W) v3] rfl f.1 g.1,aI<|aj [_,_,_,_,_] [] [.n 1 Z<|.a G v2,.n 1 v3<|.a Z v4,.n 1 (.a (.a G<|.a (.a v2 v4) W) W) v3] rfl f.2 g.2⟩
def Ge {c:List Nat} (d:x∈c) (e:y∈c) (h:c.idxOf x=c.idxOf y):x=y:=by
 have a:=Kf<|Cz d;have b:=Kf<|Cz e;have:c[c.idxOf x]?=c[c.idxOf y]?:=by exact U h rfl
 rw[fd<|Cz d,fd<|Cz e,a,b]at this;exact aH this
def zL {a:aw} (N:cN a) (h:a.bf[k]?=J s):a.atom s=(k,a):=by
 refine bw (cK.mp h) λl e=> ?_
 unfold aw.atom
 cases q:a.bf.idxOf? s with
 |none=>exact bt (em h)<|xc q|some j=>exact have b:=xd q;bw (cK.mp b) λd c=>have:j=k:=(Cy N.yt).mp<|c.trans e.symm;U this rfl
def PY {a:aw} (N:cN a) (h:a.aW[k]?=J p):a.d1 p=(k,a):=by
 refine bw (cK.mp h) λl e=> ?_
 unfold aw.d1
 cases q:a.aW.idxOf? p with
 |none=>exact bt (em h)<|xc q|some j=>exact have b:=xd q;bw (cK.mp b) λd c=>have:j=k:=(Cy N.aA).mp<|c.trans e.symm;U this rfl
def Qn (N:cN a):instErr (kl a).2=kl a:=by
 refine cps λf b=> ?_;refine dq (N.func (S "instantiation_error") 0<|by decide) λc g _=> ?_;refine dq (c.atom (S "instantiation_error")<|by decide) λd e _=> ?_;have:=zL d e;refine b ?_
 delta instErr kl
 simp only;exact U this rfl
def UZ (N:cN b) {s:List Nat} (h:s.length<=1000) (t u:T):∃F K,(c_ b s t).1=.ak 16 (.ak F (.a K) t) (.a 25)/\c_ (c_ b s t).2 s u=(.ak 16 (.ak F (.a K) u)<|.a 25,(c_ b s t).2):=by
 refine cps λw i=> ?_;refine dq (N.atom s h) λj k _=> ?_;refine dq (j.atom (S "type_error")<|by decide) λl e x=> ?_;refine dq (l.d1 (((b.atom s).2.atom<|S "type_error").1,2) (cK.mp e).1) λm n f=> ?_;refine i ?_;refine cZ _ _ rfl<|?_;have g:(c_ b s t).2=(((b.atom s).2.atom<|S "type_error").2.d1 (((b.atom s).2.atom<|S "type_error").1,2)).2:=rfl;have o:(c_ b s t).2.bf[(b.atom s).1]?=J s:=by refine U g<|U f ?_;exact(cP.atom _ _).t1 k
 have p:(c_ b s t).2.bf[((b.atom s).2.atom<|S "type_error").1]?=J (S "type_error"):=by refine U g<|U f ?_;exact e
 have d:cN (c_ b s t).2:=m;have q:=zL d o;have r:=zL d p;have v:(c_ b s t).2.d1 (((b.atom s).2.atom<|S "type_error").1,2)=(_,(c_ b s t).2):=PY d n;generalize c_ b s t=c at*
 delta c_ aw.func
 refine U q ?_;simp only;refine U r ?_;simp only;exact U v rfl
section
noncomputable def oe (s:Nat) (h:s=9\/s=20\/s=21):fG:=⟨0,s,λn=>10<=n/\n<17,by exactλa=>aj [] [] [.n 1 (.k 10) u0] rfl a.1,by omega,by omega⟩
section
variable {d:Nat->Nat} (r:∀n m,d n=d m->n=m)
include r
noncomputable def fG.ey (P:fG):fG:=⟨d P.x0,d P.xs,λm=>∃n,P.E n/\m=d n,λa=>ah a λn h e=>P.RF (by refine U (r _ _ e) ?_;exact h),λa=>ah a λn h e=>P.fy (by refine U (r _ _ e) ?_;exact h),λe=>P.km<|r _ _ e⟩
theorem qe.ey {P:fG} {t:T} (h:qe P t):qe (P.ey r)<|t.sub<|bJ d:=by
 rcases h with⟨a,b⟩|⟨x,a,rfl⟩
 ·refine .inl ⟨by refine U (NE _ _) ?_;exact a,λm c=> ?_⟩;refine ah (Gb.mp c) λn e f=> ?_;refine U f<|U (b n e) ?_;rfl
 ·exact .inr<|ax (d x) (ax x a rfl) rfl
theorem gj.ey {P:fG} {t:T}:∀{n:Nat},gj P n t->gj (P.ey r) n (t.sub<|bJ d):=by
 induction t with
 |v x=>
  intro n h
  have:x=P.xs:=by cases n<;>exact h
  subst this
  cases n<;>rfl
 |i z=>intro n h;cases n<;>trivial
 |a k=>intro n h;cases n<;>trivial
 |ay f x b=>intro n h;cases n<;>exact h.elim
 |ak f x y c b=>
  intro n h
  cases n with
  |zero=>exact h.elim|succ n=>exact bB (h.1) (h.2.1.ey r)<|b h.2.2
end
theorem zC {P:fG} (c:∀n,gj P n e):∀{b:List T} {n:Nat},b.length<=n->(∀t∈b,qe P t)->gj P n (ch b e)|[],n,_,_=>c n|t::b,0,h,_=>by simp at h|t::b,n+1,h,a=>bB rfl (a t<|.head _)<|zC c (by simpa using h) λu m=>a u<|.tail _ m
def DJ {P:fG} (h:gj P 8 t) (g:gj P 8 u):eR P mM 24 t u:=.inr ⟨fe 8 t (by exact aI<|aj [] [] [.n 1 (.a u8 W) u8] rfl) h (.inl<|by exact aI<|aj [] [] [.n 1 (.a (.k 24) W)<|.a u8<|.k 16] rfl)<|(sX t).symm,fe 8 u (by exact aI<|aj [] [] [.n 1 (.a u8 W) u8] rfl) g (.inl<|by exact aI<|aj [] [] [.n 1 (.a (.k 24) W)<|.a u8<|.k 16] rfl)<|(sX u).symm⟩
def ql (d:Nat->Nat) (t:T):T:=(t.sub<|bJ d).sub<|ey<|dX []<|t.sub<|bJ d
section
variable {j:aw} {H:bh}
set_option tactic.hygienic true in
def Ia {d:Nat->Nat} {t:T} (m:hL j) (w:bv j t) (h:ba j H c<|t.sub<|bJ d):nw H c=jH t/\∀a,c=.Z a->a<H.length:=by
 have o:∀a,c=.Z a->a<H.length:=λa e=>by
  subst e
  refine bR (h.f4 rfl) λb e l _=> ?_;have e:a=b:=eW e;exact bo<|aj [_,_,_] [] [.n 1 (.a Z W) G,.n 1 v2 Z,.n 1 G v2] rfl l<|bp e
 refine⟨?_,o⟩;cases t with
 |v n=>refine U h.1 ?_;rfl|i z=>refine U (show c=.I z from h) ?_;rfl|a k=>refine U (show c=.a5 k from h) ?_;rfl|ay f x=>
  obtain⟨⟨p,l⟩,_⟩:=w;have q:f≠13:=λe=>by subst e;have l:=cJ (hB m.2) l;cases l
  refine h.c9 λ_ b g _ _ _ _=> ?_;cases c with
  |Z a=>show(H[_]?==J (ag.aA 13))=aa;simp[g.2.1,q]|b0 a=>exact bt g.2.2 (by decide)|_=>exact g.elim
 |ak f x y=>
  obtain⟨⟨p,l⟩,_⟩:=w;refine h.c5 λ_ _ b g _ _ _ _ _=> ?_
  cases c with
   |b0 _=>refine U g.2.1 ?_;rfl|Z _=>
    have a:=g.2.1;refine aZ (f=13) (λe=> ?_)<|λe=> ?_
    ·subst e;show(H[_]?==J (ag.aA 13))=ac;simp[a]
    ·refine U (xK e) ?_;show(H[_]?==J (ag.aA 13))=_;simp[a,e]
   |_=>exact g.elim
def Jk {t:T} (h:ba j H c t):bU c=0↔t.a9=ac:=by
 cases v:t.a9 with
 |false=>simp[h.id v]|true=>
  refine bw (A0 v) λn a=> ?_
  subst a
  exact⟨λ_=>rfl,λ_=>U h.1 rfl⟩
def A1 {t:T} {d:Nat->Nat}:(t.sub<|bJ d).a9=t.a9:=by cases t<;>rfl
def Ew {d:Nat->Nat} (p:hL j):∀{a:List T} {f:List ag},fp j H f (a.map λt=>t.sub<|bJ d)->(∀t∈a,bv j t/\t.num<=3000)->lp j H f ((il a).map λo=>o.map<|ql d)/\∀t,il a=J (J t)->t∈a:=by
 intro a
 induction a with
 |nil=>intro f h _;have h:f=[]:=h;subst h;exact⟨.b_,λt e=>by exact aq e⟩|cons t a s=>
  intro f h w
  ·refine bF h λc D g k b=> ?_;subst b;refine bx (s k λu m=>w u<|.tail _ m) λx y=> ?_;refine bx (w t<|.head _) λA B=> ?_;refine bx (Ia p A g) λi C=> ?_;refine aZ (t.a9=ac) (λv=> ?_)<|λv=> ?_
   ·refine bw (A0 v) λn b=> ?_;subst b;obtain⟨rfl,_⟩:=g;exact⟨.fS,λu e=>by cases e⟩
   ·have l:bU c≠0:=λz=>v (by rw[Jk g,A1]at z;exact z);have e:il (t::a)=if jH t then il a else J<|J t:=by cases t<;>first|rfl|exact bt rfl v
    refine U e ?_;cases q:jH t with
    |true=>rw[q]at i;exact⟨.H7 l i x,λu e=>.tail _<|y u e⟩|false=>rw[q]at i;refine⟨.ud l i C g.eI (sY g.di (by refine U (va _ _) ?_;exact B)<|by simp),λu e=> ?_⟩;obtain rfl:=aH<|aH e;exact .head _
def Ey {d:Nat->Nat} (p:hL j):∀{b:List T} {f:List ag},fp j H f (b.map λt=>t.sub<|bJ d)->(∀t∈b,bv j t/\t.num<=3000)->oI j H f ((je b).map<|ql d)/\∀t,je b=J t->t∈b:=by
 intro b
 induction b with
 |nil=>intro f h _;have h:f=[]:=h;subst h;exact⟨.b_,λt e=>by exact aq e⟩|cons t b s=>
  intro f h w
  ·refine bF h λc C g k a=> ?_;subst a;refine bx (s k λu m=>w u<|.tail _ m) λl o=> ?_;refine bx (w t<|.head _) λx y=> ?_;refine bx (Ia p x g) λi A=> ?_;refine aZ (t.a9=ac) (λv=> ?_)<|λv=> ?_
   ·refine bw (A0 v) λn a=> ?_;subst a;obtain⟨rfl,_⟩:=g;exact⟨.jM (.inl rfl) l,λu e=>.tail _<|o u e⟩
   ·have B:bU c≠0:=λz=>v (by rw[Jk g,A1]at z;exact z);have e:je (t::b)=if jH t then je b else J t:=by cases t<;>first|rfl|exact bt rfl v
    refine U e ?_;cases q:jH t with
    |true=>rw[q]at i;exact⟨.jM (.inr i) l,λu e=>.tail _<|o u e⟩|false=>
     rw[q]at i;refine⟨.ud B i A g.eI (sY g.di (by refine U (va _ _) ?_;exact y)<|by simp),λu e=> ?_⟩
     injection e with a;subst a;exact .head _
def QS {e:List T} {g:List ag} (h:fp j H g e):(∀t∈e,∃f x y,t=.ak f x y)->∃l:List ag,g.length=l.length/\(∀(i:Nat) (c x:ag),g[i]?=J c->l[i]?=J x->∃f k b,bV j H c f k b/\H[b]?=J x/\bu H c c)/\∀i,i<e.length->bK j H (l.getD i cQ) (iP ac<|e.getD i cQ):=by
 induction e generalizing g with
 |nil=>intro _;have h:g=[]:=h;subst h;exact cM ([]) rfl (λi c x h=>by simp at h) (λi h=>by simp at h)|cons t M s=>
  intro w
  refine bF h λc N q n a=> ?_;subst a;refine bR (s n λt m=>w t<|.tail _ m) λl u v z=> ?_;refine oL (w t<|.head _) λf x y a=> ?_
  subst a
  have C:=q.eI
  ·refine q.c5 λA B b D O E P F Q=> ?_;refine(cM (A::l) (by simp[u]) (λi I K o p=> ?_)<|λi L=> ?_)
   ·cases i with
    |zero=>simp at o p;subst o p;exact iY _ _ _ D E C|succ i=>exact v i I K (by simpa using o) (by simpa using p)
   ·cases i with
    |zero=>exact F|succ i=>exact z i<|by simpa using L
def QO (b:Bool) (t:T) (d:Nat->Nat):iP b (t.sub<|bJ d)=(iP b t).sub (bJ d):=by
 cases b with
 |false=>exact cJ (sr _)<|sr _|true=>cases t<;>rfl
def Si (h:jH t=ac):∃f x y,t=.ak f x y:=by
 cases t with
 |ak f x y=>exact tQ f x y rfl|_=>exact cW h
end
end
def jF (a:aw) (b u:Bool) (c:List T):List T:=if u then mF<|eH (hi a b) c else eH (hi a b) c
def AM {a:List T}:(∀t∈jF c b u a,t∈a)/\(jF c b u a).length<=a.length:=by
 have:=FX (c:=if u then 0 else 1) (f:=hi c b) (d:=a)
 unfold jF
 cases u
 ·simpa[kT]using this
 ·simpa[kT]using this
def TX (N:cN j) {g:List T} (k:u=ac->f=aa) (h:∀t∈g,nY j 0 t):(gU (eS j f g) u g.length<|dV g.length).map (λi=>g.getD i cQ)=jF j f u g/\(∀i∈gU (eS j f g) u g.length (dV g.length),i<g.length)/\(g≠[]->gU (eS j f g) u g.length (dV g.length)≠[]):=by
 have O:=zX N (c:=f) h;cases u with
 |false=>refine bx (I6 O) λa c=> ?_;refine(bB (PO N h) (λi m=>(c i).mp m)<|λl e=> ?_);have:=(c 0).mpr<|vN.mpr l;have this:=e▸this;cases this
 |true=>
  have:=k rfl
  subst this
  refine dq (I7 O) λa c d=> ?_;refine(bB (PP N h) c<|λl e=> ?_);refine ah (d 0<|vN.mpr l) λy m _=> ?_;have m:=e▸m;cases m
def AQ {a:List T} {f:T->T} {i:Nat} (h:i<a.length):(a.map f).getD i cQ=f (a.getD i cQ):=by refine U iB<|U iB<|U lg<|U (fd h) ?_;rfl
def F3 {l:List a} (h:l[i]?=J x):l.getD i d=x/\i<l.length:=(U iB<|U h ⟨rfl,(cK.mp h).1⟩)
def T0 {w:aM} {A:Nat->Nat} {B:fG} {c l:Bool} {s:List T} {F:List ag} {E:T} {Q:ag} (N:cN w.nm) (M:∀p∈s,fV w.nm p) (a2:s.length<=20) (X:w.H.length<=90000) (L:fp w.nm w.H F<|s.map λp=>p.sub<|bJ A) (R:ba w.nm w.H Q<|E.sub<|bJ A) (Y:l=ac->c=aa) (a7:c=ac->∀p∈s,jH p=ac)
  (a8:eR B mM 24 ((ch (jF w.nm c l s)<|.a 0).sub<|bJ A)<|E.sub<|bJ A):∃I:List ag,
  (∃J,fF ((ch (jF w.nm c l s)<|.a 0).sub<|bJ A) (E.sub<|bJ A)/\qf w Q l c F aa J (eS w.nm c s) I)\/
  ∃(S:cy) (J:bh),eL ((ch (jF w.nm c l s)<|.a 0).sub<|bJ A) (E.sub<|bJ A) S/\et B S/\jv w.nm (fK w.H<|ea (eS w.nm c s) l F) J S/\qf w Q l c F ac J (eS w.nm c s) I:=by
 have O:F.length=s.length:=by exact cJ L.bb<|bX _
 have a0:∀p∈s,nY w.nm 0 p:=λp m=>⟨(M p m).2.2,(M p m).2.1⟩;refine cps λa9 V=> ?_;refine dq (TX N Y a0) λb0 a3 b1=> ?_
 have a1:fp w.nm w.H (ea (eS w.nm c s) l F)<|(jF w.nm c l s).map λp=>p.sub<|bJ A:=by
  have:=L.ao (gU (eS w.nm c s) l s.length<|dV s.length) (by simpa using a3);refine(am b0<|U q_ ?_)
  unfold ea
  refine U O ?_;refine Eq.mp (al _<|Km λi m=> ?_) this;exact AQ<|a3 i m
 have a4:=MS a1;have b2:ch ((jF w.nm c l s).map λp=>p.sub<|bJ A) (.a 0)=(ch (jF w.nm c l s)<|.a 0).sub (bJ A):=(vl _ (.a 0)<|bJ A).symm;rw[b2]at a4
 have a5:(ea (eS w.nm c s) l F).length<=20:=by have:=a1.bb;rw[bX]at this;have:=(AM (c:=w.nm) (b:=c) (u:=l) (a:=s)).2;exact aI<|aj [_,_,_] [] [.n 1 Z<|.k 20,.n 1 G v2,.n 1 v2 Z,.n 1 (.a (.k 20) W) G] rfl a2 (bp ‹(ea (eS w.nm c s) l F).length=(jF w.nm c l s).length›) this
 have b3:=zV (H:=w.H) (a:=ea (eS w.nm c s) l F)
 have b4:∃I:List ag,wx w c F I/\∀i,i<s.length->bK w.nm w.H (I.getD i cQ) ((iP c<|s.getD i cQ).sub<|bJ A):=by
  cases c with
  |false=>refine(ax F ⟨rfl,rfl⟩<|λi g=> ?_);have:=L.d6 i (by refine U (bX _) ?_;exact g);rw[AQ g]at this;exact U (sr _) this.di
  |true=>
   refine bR (QS L λp m=>by
    refine ah (rc.mp m) λl h e=> ?_
    subst e
    refine oL (Si<|a7 rfl l h) λf x y e=> ?_
    subst e
    exact tQ f _ _ rfl) λI j o q=> ?_
   refine(ax I ⟨j,by simpa using o⟩<|λi g=> ?_);have:=q i (by refine U (bX _) ?_;exact g);rw[AQ g,QO]at this;exact this
 refine ah b4 λI K a6=> ?_
 have C:pZ w I<|eS w.nm c s:=λi j x y b5 b6=>by
  refine cps λa9 V=> ?_;refine bx (F3 (d:=cQ) b5) λb7 b8=> ?_;refine bx (F3 (d:=cQ) b6) λb9 c0=> ?_;have f:=K.1;have g:i<s.length:=by exact bo<|aj [_,_,_,_] [] [.n 1 Z G,.n 1 (.a v2 W) v3,.n 1 v3 Z,.n 1 G v2] rfl (bp O) b8<|bp f.symm
  have q:j<s.length:=by exact bo<|aj [_,_,_,_] [] [.n 1 Z G,.n 1 (.a v2 W) v3,.n 1 v3 Z,.n 1 G v2] rfl (bp O) c0<|bp f.symm
  have D:=a6 i g;have r:=a6 j q;rw[b7]at D;rw[b9]at r;have a:=qC (b:=c)<|a0 _<|lF g;have z:=qC (b:=c)<|a0 _<|lF q;have o:∀{p:T},ff 0 p->ff (A 0) (p.sub<|bJ A):=λh m c1=>ah (Gb.mp c1) λn e c2=>U c2<|U (h n e) rfl;have c3:((iP c<|s.getD i cQ).sub<|bJ A).num<=900:=(U (va _ _) (have:=nF (t:=iP c<|s.getD i cQ)<|aF (A2 c _) (M _<|lF g).1;aI (aj [_] [] [.n 1 Z u7,.n 1 (.a (.k 900) W) Z] rfl this)));have:=Nd N (by exact aI<|aj [_] [] [.n 1 Z<|.k 90000,.n 1 (.a (.k 100000) W) Z] rfl X) D r (JT A a.1) (JT A z.1) (o a.2) (o z.2) c3;have e:cD w.nm ((iP c<|s.getD i cQ).sub<|bJ A) ((iP c<|s.getD j cQ).sub<|bJ A)=eS w.nm c s i j:=Nc _ _;rw[e]at this;exact V this
 have o:∀(r:Bool) (J:bh),dE w.nm ((fK w.H<|ea (eS w.nm c s) l F).length+1) (fK w.H<|ea (eS w.nm c s) l F) [] [(rS w.H<|ea (eS w.nm c s) l F,Q)] r J->J.length=(fK w.H<|ea (eS w.nm c s) l F).length->qf w Q l c F r J (eS w.nm c s) I:=λr J f c4=>⟨K,C,λx m=>by refine ah (a1.mem x m) λp _ h=> ?_;exact h.eI,by exact aI<|aj [_,_] [] [.n 1 Z<|.k 90000,.n 2 G<|.k 20,.n 1 (.a (.k 100000) W)<|.a Z<|.m 2 G] rfl X a5,by exact aI<|aj [_,_] [] [.n 1 Z<|.k 20,.n 1 G Z,.n 1 (.a (.k 1000) W) G] rfl a2<|bp O,λc5 e=>by
   unfold ea at e
   rw[O]at e
   exact b1 (λz=>c5<|Kj.mp<|by refine U O<|U z ?_;rfl)<|vP.mp e,R.eI.a2<|ui _,f,c4⟩
 have f:=U4 (j:=w.nm) (P:=B) 24 (o:=[]) (ps:=[]) (by exact aI<|aj [] [] [.n 1 (.a (.k 24) W)<|.k 24] rfl) a4 (R.di.a2<|ui _) a8 et.id (by exact aI<|aj [_,_,_] [] [.n 1 Z<|.k 90000,.n 2 G<|.k 20,.n 1 v2<|.a Z<|.m 2 G,.n 1 (.a (.k 100000) W) v2] rfl X a5<|bp b3) (λm q=>by cases q) (by decide) (by simp);rcases f with⟨n,c6,c7,z⟩|⟨S,J,c8,m,g,D,_,_,z⟩
 ·exact V ⟨I,.inl<|ax c6 n<|o _ _ z c7⟩
 ·exact V ⟨I,.inr<|fe S J m g D<|o _ _ (z _ _<|.g3 _ _) D.bb⟩
section
open PySem
structure nc (c:aw) (s:Nat) (f:List T) (pB:T):Prop where
 bb:f.length<=8
 Ac:∀t∈f,fV c t\/∃k,k<7/\t=.v (10+k)
 pB:pB=.v s\/pB=.a 0\/pB=.i 3
def S6 (a:List T) (t e:T):ch a (.ak 0 t e)=ch (a++[t]) e:=by
 induction a with
 |nil=>rfl|cons x r b=>refine U (vk _ _ _)<|U b ?_;rfl
def L7 {c:aw} (h:wl c b):∃s f d,(s=9\/s=20\/s=21)/\b=ch f d/\nc c s f d:=by
 rcases h with rfl|⟨g,d,rfl,l,m,j⟩
 ·exact⟨9,[],.v 9,.inl rfl,rfl,by simp,(λt m=>by cases m),.inl rfl⟩
 ·simp only[qT,bY,VT,or_false]at j;rcases j with rfl|rfl|rfl|rfl|rfl
  ·exact⟨20,g,_,.inr<|.inl rfl,rfl,by exact aI<|aj [_] [] [.n 1 Z u7,.n 1 (.a u8 W) Z] rfl l,m,.inr<|.inl rfl⟩
  ·exact⟨20,g,_,.inr<|.inl rfl,rfl,by exact aI<|aj [_] [] [.n 1 Z u7,.n 1 (.a u8 W) Z] rfl l,m,.inl rfl⟩
  ·exact⟨20,g,_,.inr<|.inl rfl,rfl,by exact aI<|aj [_] [] [.n 1 Z u7,.n 1 (.a u8 W) Z] rfl l,m,.inr<|.inl rfl⟩
  ·exact⟨20,g,_,.inr<|.inl rfl,rfl,by exact aI<|aj [_] [] [.n 1 Z u7,.n 1 (.a u8 W) Z] rfl l,m,.inr<|.inr rfl⟩
  ·refine⟨21,g++[.i 1],.v 21,.inr<|.inr rfl,S6 _ _ _,by simp;exact aI<|aj [_] [] [.n 1 Z u7,.n 1 (.a u7 W) Z] rfl l,λt q=> ?_,.inl rfl⟩;refine gf (fB.mp q) (λq=> ?_)<|λq=> ?_
   ·exact m t q
   ·exact U (dk.mp q)<|.inl<|bB (cr _) (λn e=>e.elim) trivial
section
variable {c:aw} {s:Nat} {f:List T} {d:T}
def nc.j2 (h:nc c s f d):∀t∈f,bv c t:=λt m=>(h.Ac t m).elim (λi=>i.2.2) λa=>ah a λk _ e=>by refine U e ?_;trivial
theorem nc.a0 (h:nc c s f d):∀t∈f,t.a0<=3:=λt m=>(h.Ac t m).elim (λi=>i.1) λa=>ah a λk _ e=>by refine U e ?_;exact cr _
def nc.t0 (h:nc c s f d):d.a0=0/\d.num=0/\(∀x y,d≠.ak 0 x y)/\(∀x,d≠.ay 0 x)/\∀(a:Nat->Nat) x y,d.sub (bJ a)≠.ak 0 x y:=by rcases h.pB with rfl|rfl|rfl<;>exact Dv rfl rfl (λ_ _ e=>by cases e) (λ_ e=>by cases e)<|λ_ _ _ e=>by cases e
def nc.vr (h:nc c s f d) (b:s=9\/s=20\/s=21):gj (oe s b) 8<|ch f d:=by
 refine zC (λn=> ?_) h.bb λt m=> ?_
 ·rcases h.pB with rfl|rfl|rfl
  ·cases n<;>rfl
  ·cases n<;>trivial
  ·cases n<;>trivial
 ·rcases h.Ac t m with i|⟨k,g,e⟩
  ·exact .inl ⟨i.1,i.2.1⟩
  ·exact .inr<|ax (10+k) ⟨by exact aI<|aj [_] [] [.n 1 (.a (.a (.k 10) Z) W)<|.k 10] rfl,by exact bo<|aj [_] [] [.n 1 (.a Z W) u7,.n 1 (.k 17)<|.a (.k 10) Z] rfl g⟩ e
end
def Gw {c:aw} {s:Nat} (e:s=9\/s=20\/s=21) {b:List T} (h:∀t∈b,fV c t) (l:b.length<=8):gj (oe s e) 8<|ch b<|.a 0:=zC (λn=>by cases n<;>trivial) l λt m=>.inl ⟨(h t m).1,(h t m).2.1⟩
def Il {c:aw} {H:bh} {a b:T} (y:hL c) (C:bv c a) (D:bv c b) (E:H.length<=20000) (v:a.num<=200) (w:b.num<=200):∃(o p:ag) (k j:bh) (g i:cd) (q:Nat->Nat),fX c H [] a o k g/\fX c k g b p j i/\g.length<=ar/\(∀n m,q n=q m->n=m)/\bK c j o (a.sub<|bJ q)/\bK c j p (b.sub<|bJ q)/\j.length<=H.length+2500:=have s:∀{t:T},t.num<=200->3*t.fR<=1250/\t.fR<=401:=λ{t} h=>have z:t.fR<=401:=aF (ym t)<|dv<|pL 2 h;⟨aF (pL 3 z) (by decide),z⟩;have A:H.length+2500<=100000:=aF (ha E _) (by decide);eY (DK (s:=c) (B:=H.length+1250) (A:=401) ⟨1,y.1⟩ (aF (hD (by decide) _) A) (by decide) a H [] ⟨λa=>eG (l:=[]),.nil,λn a e=>aq e,λn m a e=>aq e⟩ C (hD (s v).1 _) (aF (s v).2<|by decide)<|aF (bp<|eb _) (s v).2) λo k g F r I=>eY (DK (s:=c) (B:=H.length+2500) (A:=802) ⟨1,y.1⟩ A (by decide) b k g r.aP D (aF (vS r.uS (s w).1)<|bp<|iC _ 1250 1250) (aF (s w).2<|by decide)<|vS r.ak (s w).2) λp j i J u K=>have B:=S0 i j.length;⟨o,p,k,j,g,i,sR i j.length,F,J,aF r.ak (by decide),S1 u.aP,(I _ λn a h=>B n a<|u.df n a h).a2 λa x h=>u.keep a x h<|eG (l:=[]),K _ B,u.uS⟩
noncomputable def nx (a:Nat):Nat:=if a=0 then 63 else if a=1 then 64 else 65
noncomputable def hU (a:Nat):Nat:=if a=0 then 63 else if a=1 then 64 else 101
set_option tactic.hygienic true in
def If (n:Nat) (X:rH w m j k l) (b:jd w) (h:kc (nx a) w k j l A):wA w i A<|aD (n+12) aa (hU a) [.ref 8]<|mk w i:=by
 unfold nx at h
 unfold hU
 split
 ·rename_i e;have h:=(aK e)▸h;exact Bu (n+1) (.inl rfl) X b h
 ·rename_i e
  rw[aX e]at h
  split
  ·rename_i g;rw[aK g]at h;exact Bu (n+1) (.inr<|.inl rfl) X b h
  ·rename_i g;rw[aX g]at h;exact SA n X b h
structure nf (w w3:aM):Prop where
 hj:w3.cells=w.cells
 mL:nW w3
 ok:cN w3.nm
 dN:cP 3 w.nm w3.nm
 ns:w3.H.length<=w.H.length+2600
 xs:w3.xs=[dW]\/∃a b,w3.xs=[dW,a,b]
def Ff (n:Nat) {g:aM} {i:aw} {u:T} {s:ag} {p:bh} {r:cd} (L:nW g) (N:cN i) (M:cP 3 g.nm i) (P:i.bf.length+2<ar/\i.aW.length+1<ar) (Q:t[C]?=J (.X [af a,af b])) (R:g.xs=[dW]\/∃a b,g.xs=[dW,a,b]) (S:fX i g.H [] a s D r) (U:fX i D r b q p A) (V:r.length<=ar) (Y:p.length<=g.H.length+2500) (a0:bu p s x) (a1:bu p q y)
  (h:kc (nx j) (((g.sN i).sH p).sX [dW,an s,an q]) q x y<|.a4 e i) (m:hg u e [] [] H I) (a2:u.a0<=30) (E:u.fR<=1000):
  ∃F l,aD (n+42) aa 94 [.ref 8,.aA<|hU j,.ref<|be C,jE u] (mk (g.sN i) t)=J (.ok<|.ad ac,mk F l)/\co [] t l/\nf g F:=by
 have o:rH (((g.sN i).sH p).sX [dW,an s,an q]) s x q y:=⟨rfl,rfl,a0,a1⟩;have B:=m.lA;simp at B;refine ah (LX (w:=g.sN i) (c:=t) n 30 (k:=hU j) (F:=(((g.sN i).sH p).sX [dW,an s,an q])) Q R S U V (λt=>If (n+29) o P h) m a2 (by exact aI<|aj [_,_] [] [.n 1 Z<|.k 1000,.n 1 G Z,.n 1 (.a (.k 1000000) W) G] rfl E B.1)<|by exact aI<|aj [_,_] [] [.n 1 Z<|.k 1000,.n 1 G Z,.n 1 (.a (.k 1000000) W) G] rfl E B.2) λl z K=> ?_;exact⟨_,l,z,K,rfl,L,N,M,by show p.length<=_;exact aI<|aj [_,_] [] [.n 1 Z<|.a G<|.k 2500,.n 1 (.a (.a G<|.k 2600) W) Z] rfl Y,.inr<|dn _ _ rfl⟩
end
section
open PySem
structure kJ (w:aM) (j:Nat) (u:List T) (e L:T) (s:Nat) (Q:List T) (p:T):Prop where
 N:cN w.nm
 kS:hL w.nm
 mL:nW w
 ay:w.nm.bf.length+10<ar
 ak:w.nm.aW.length+10<ar
 xs:w.xs=[dW]\/∃a b,w.xs=[dW,a,b]
 uL:w.H.length<=20000
 io:j<3
 jI:∀t∈u,fV w.nm t
 ht:u.length<=7
 o_:jZ w.nm e
 lH:s=9\/s=20\/s=21
 uA:L=ch Q p
 ho:nc w.nm s Q p
section
variable {w:aM} {j s:Nat} {u Q:List T} {e L p:T}
def kJ.p0 (R:kJ w j u e L s Q p):0<w.nm.bf.length:=dK (cr _)<|R.N.lR _<|em R.kS.1
def kJ.wa (R:kJ w j u e L s Q p):bv w.nm<|ch u e:=Cf R.kS (λt m=>(R.jI t m).2.2)<|by rcases R.o_ with h|⟨k,h,l⟩<;>refine U h ?_;trivial;exact l
def kJ.wb (R:kJ w j u e L s Q p):bv w.nm L:=by refine U R.uA ?_;exact Cf R.kS R.ho.j2 ((by
  rcases R.ho.pB with rfl|rfl|rfl
  ·trivial
  ·exact R.p0
  ·trivial))
def kJ.na (R:kJ w j u e L s Q p):(ch u e).num<=100/\(ch u e).a0<=12:=by have a:=IA (k:=7) (e:=e) λf m=>nF (R.jI f m).1;have b:=BI (d:=3) (e:=e) (λf m=>(R.jI f m).1) (by refine U R.o_.a0 ?_;exact aI<|aj [] [] [.n 1 (.a u3 W) u0] rfl);have c:=nF (t:=e) (by refine U R.o_.a0 ?_;exact aI<|aj [] [] [.n 1 (.a u3 W) u0] rfl);have:=R.ht;exact⟨aF a (aF (vS (Wa _ this) c)<|by decide),aF b<|aF (hD this 3)<|by decide⟩
def kJ.sG (R:kJ w j u e L s Q p):L.num<=100/\L.a0<=12:=by have a:=IA (k:=7) (e:=p) λt m=>nF<|R.ho.a0 t m;have b:=BI (d:=3) (e:=p) R.ho.a0 (by refine U R.ho.t0.1 ?_;exact aI<|aj [] [] [.n 1 (.a u3 W) u0] rfl);exact have c:=R.ho.t0.2.1;have:=R.ho.bb;(U R.uA ⟨aF a (aF (vS (Wa _ this)<|bp c)<|by decide),aF b<|aF (hD this 3)<|by decide⟩)
def Jl {p:T} (k:ba b H c<|p.sub<|bJ d) (h:p.a9=ac\/p=.a 0):bU c=0\/c=.a5 0:=
 h.elim (λv=>by
  cases p with
  |v x=>exact .inl<|U k.1 rfl|_=>exact cW v) λe=>.inr<|by subst e;exact k
def LV (n:Nat) {V:List O} (R:kJ w j u e L s Q p) (d5:mH w.nm (hi w.nm (bj (j=2))) u Q e L p j=.a4 a1 A) (d6:V[b1]?=J (.X [af (ch u e),af L])):
  ∃P E,aD (n+42) aa 94 [.ref 8,.aA (hU j),.ref (be b1),jE a1] (mk (w.sN A) V)=J (.ok (.ad ac),mk P E)/\co [] V E/\nf w P:=by
 have d7:=E8 R.N (f:=hi w.nm (bj (j=2))) (g:=u) (a:=Q) (e:=e) (b:=L) (i:=p) (c:=j);rw[d5]at d7;refine cps λf5 c8=> ?_;refine bx d7 λd8 a3=> ?_;have a7:=R.kS.a2 a3;have b6:=R.na;have b7:=R.sG;obtain⟨d9,b8,g9,S,f6,f7,B,e0,e1,e2,c9,f8,f9,e3⟩:=Il a7 (R.wa.a2 a3) (R.wb.a2 a3) R.uL (by exact aI (aj [_] [] [.n 1 Z (.k 100),.n 1 (.a (.k 200) W) Z] rfl b6.1)) (by exact aI (aj [_] [] [.n 1 Z (.k 100),.n 1 (.a (.k 200) W) Z] rfl b7.1));have b2:=a3.bb;have e4:A.bf.length+2<ar/\A.aW.length+1<ar:=⟨by have:=R.ay;exact bo (aj [_,_,_] [] [.n 1 Z (.a G u3),.n 1 (.a (.a G (.k 10)) W) v2,.n 1 v2 (.a Z u2)] rfl b2.2.1 this),by have:=R.ak;exact bo (aj [_,_,_] [] [.n 1 Z (.a G u3),.n 1 (.a (.a G (.k 10)) W) v2,.n 1 v2 (.a Z W)] rfl b2.2.2.2 this)⟩;refine ah f8.oZ λa8 a0 e5=> ?_;refine ah f9.oZ λb9 e6 e7=> ?_;have b3:=e5;have b4:=e7;rw[vl]at b3;rw[R.uA,vl]at b4;refine bF (wy (o:=A) (H:=S) (e:=e.sub (bJ B)) (λx y q=>by rcases R.o_ with h|⟨k,h,c0⟩<;>rw[h]at q<;>cases q) _ a8 [] b3 (λm q=>by cases q) (by have:=R.ht;simp[gC];exact bo (aj [_] [] [.n 1 Z u7,.n 1 (.k 4090) Z] rfl this))) λc1 c2 N e8 a6=> ?_;refine bF (wy (o:=A) (H:=S) (e:=p.sub (bJ B)) (R.ho.t0.2.2.2.2 B) _ b9 [] b4 (λm q=>by cases q) (by have:=R.ho.bb;simp[gC];exact bo (aj [_] [] [.n 1 Z u8,.n 1 (.k 4090) Z] rfl this))) λg0 e9 c3 f0 d0=> ?_;have b0:c1.length<=ar:=by refine(U e8.bb ?_);have:=R.ht;simp[ar];exact aI (aj [_] [] [.n 1 Z u7,.n 1 (.a (.k 1000000) W) Z] rfl this)
 have c4:g0.length<=ar:=by refine(U f0.bb ?_);have:=R.ho.bb;simp[ar];exact aI (aj [_] [] [.n 1 Z u8,.n 1 (.a (.k 1000000) W) Z] rfl this)
 have c5:∀(b5:List Nat) (t:T),b5.length<=1000->t.a0<=12->t.num<=100-> .a4 a1 A=jC (c_ w.nm b5 t)->kc (nx j) (((w.sN A).sH S).sX [dW,an d9,an b8]) b8 a8 b9 (.a4 (c_ A b5 (ql B t)).1 (c_ A b5 (ql B t)).2)->
   ∃P E,aD (n+42) aa 94 [.ref 8,.aA (hU j),.ref (be b1),jE a1] (mk (w.sN A) V)=J (.ok (.ad ac),mk P E)/\co [] V E/\nf w P:=by
  intro b5 t g1 g2 g3 q c
  refine bx (jt.a4.inj q) λb d=> ?_;refine bS (UZ R.N g1 t (ql B t)) λF K i f1=> ?_;rw[<-d]at f1;rw[f1]at c
  refine fq ((by
    refine cps λf5 c8=> ?_;obtain⟨g,g4⟩:=xj (f:=B) (D:=λ_=>True) λx y _ _ e=>c9 x y e;obtain⟨f2,o⟩:=xj (f:=λa=>(dX [] (t.sub (bJ B))).idxOf a) (D:=λa=>a∈dX [] (t.sub (bJ B))) λx y M g5 e=>Ge M g5 e
    refine bS (Bf (l:=t) (r:=(t.sub (bJ B)).sub (ey (dX [] (t.sub (bJ B))))) (s:=au (bJ B) (ey (dX [] (t.sub (bJ B))))) (n:=au (bJ f2) (bJ g)) (ez _ _ _) (by
     refine(am (ez _ _ _) ?_);have:((t.sub (bJ B)).sub (ey (dX [] (t.sub (bJ B))))).sub (bJ f2)=t.sub (bJ B):=BW (f:=λa=>(dX [] (t.sub (bJ B))).idxOf a) λx M=>o x (uc M);refine(U this ?_)
     exact(BW λx _=>g4 x trivial).symm) (rE.b_ _ _)) λz d1 m _=> ?_
    refine c8 ?_
    exact(dn z d1 m))) λz d1 m=> ?_
  have g:=ym t;refine Ff n R.mL d8 a3 e4 d6 R.xs e0 e1 e2 e3 a0 e6 c (H:=z) (I:=d1) ?_ ?_ ?_
  ·exact(U b (U i (.ak (.ak (.a _ _ _) m) (.a _ _ _))))
  ·exact(U b (U i (dv (nM.mpr ⟨dv (nM.mpr ⟨cr _,aF g2 (by decide:12<=28)⟩),cr _⟩))))
  ·refine(U b (U i ?_));show 1+t.fR+1+1+1<=_;exact aI (aj [_,_] [] [.n 2 Z (.k 100),.n 1 G (.a (.m 2 Z) W),.n 1 (.a (.k 1000) W) (.a (.a (.a (.a W G) W) W) W)] rfl g3 g)
 have g: .a4 a1 A=jC (kl w.nm)->kc (nx j) (((w.sN A).sH S).sX [dW,an d9,an b8]) b8 a8 b9 (.a4 (instErr A).1 (instErr A).2)->
   ∃P E,aD (n+42) aa 94 [.ref 8,.aA (hU j),.ref (be b1),jE a1] (mk (w.sN A) V)=J (.ok (.ad ac),mk P E)/\co [] V E/\nf w P:=by
  intro q c
  refine bx (jt.a4.inj q) λb d=> ?_;have y:=Qn R.N;rw[<-d]at y;rw[y, <-b, <-d]at c;refine Ff n R.mL d8 a3 e4 d6 R.xs e0 e1 e2 e3 a0 e6 c (H:=[]) (I:=[]) ?_ ?_ ?_
  ·exact(U b (.ak (.a _ _ _) (.a _ _ _)))
  ·refine(U b ?_);show 0+1<=_;decide
  ·refine(U b ?_);show 1+1+1<=_;decide
 have d2:db A S 0 (λ_=>Y) [] [] [(aa,a8)] [ql B (ch u e)] (dX [] ((ch u e).sub (bJ B))):=sY e5.di (by refine(U (va _ _) ?_);exact aI (aj [_] [] [.n 1 Z (.k 100),.n 1 (.a (.k 3000) W) Z] rfl b6.1)) (by simp);have d3:db A S 0 (λ_=>Y) [] [] [(aa,b9)] [ql B L] (dX [] (L.sub (bJ B))):=sY e7.di (by refine(U (va _ _) ?_);exact aI (aj [_] [] [.n 1 Z (.k 100),.n 1 (.a (.k 3000) W) Z] rfl b7.1)) (by simp);have g6:∀t∈u,bv A t/\t.num<=3000:=λt m=>⟨(R.jI t m).2.2.a2 a3,by have:=nF (R.jI t m).1;exact aI (aj [_] [] [.n 1 Z u7,.n 1 (.a (.k 3000) W) Z] rfl this)⟩;have g7:∀t∈Q,bv A t/\t.num<=3000:=λt m=>⟨(R.ho.j2 t m).a2 a3,by have:=nF (R.ho.a0 t m);exact aI (aj [_] [] [.n 1 Z u7,.n 1 (.a (.k 3000) W) Z] rfl this)⟩;refine c8 ?_;have d4:=λh=>Jl (d:=B) (p:=p) d0 h;have f3:∀{t:T},t.a0<=3->t.num<=7->t.a0<=12/\t.num<=100:=λa b=>⟨aF a (by decide),aF b (by decide)⟩;have F:(j:Int)=2->nx j=65:=λh=>U (eW h:j=2) rfl;have c:=Ew (d:=B) a7 e8 g6;refine wT (C:=λd=>d=.a4 a1 A->∃P E,aD (n+42) aa 94 [.ref 8,.aA (hU j),.ref (be b1),jE a1] (mk (w.sN A) V)=J (.ok (.ad ac),mk P E)/\co [] V E/\nf w P) (λv M=> ?_) (λv q M=> ?_) (λK v q M=> ?_) (λK c6 c7 o q M=> ?_) (λK c6 c7 q t f4 M=> ?_) (λ_ _ _ M=>jt.noConfusion M) d5
 ·cases e with
  |v x=>exact g M.symm (.fS (a6.1▸N) b0)|_=>exact cW v
 ·refine R.o_.elim (λh=>hv (h▸v:(T.v 5).a9=aa)) λh=>ah h λk h _=> ?_
  subst h
  have a6:c2=.a5 k:=a6;exact c5 _ _ (by decide) b6.2 b6.1 M.symm (.Ed N b0 (U a6 nofun) (λz=>q (al T.a (ag.a5.inj (a6.symm.trans z)))) d2)
 ·subst K
  have N:eK S [] a8 c1 (.a5 0):=(show c2=.a5 0 from a6)▸N;exact c5 _ _ (by decide) b7.2 b7.1 M.symm (.Ee N b0 c3 c4 (d0.id (A1.trans v)) (λz=>R.ho.pB.elim (λh=>hv (h▸v:(T.v s).a9=aa)) λh=>h.elim q λh=>ag.noConfusion ((show e9=.I 3 from(h▸d0:ba A S e9 ((T.i 3).sub (bJ B)))).symm.trans z)) d3)
 ·subst K
  have N:eK S [] a8 c1 (.a5 0):=am (show c2=.a5 0 from a6) N;have a0:=c.1;rw[q]at a0;cases o with
  |none=>exact g M.symm (.Ic (F c7) N b0 c3 c4 (d4 c6) a0)|some t=>have i:=R.jI t (c.2 t q);have z:=f3 i.1 (nF i.1);exact c5 _ _ (by decide) z.1 z.2 M.symm (.Ii (F c7) N b0 c3 c4 (d4 c6) a0)
 ·subst K
  have N:eK S [] a8 c1 (.a5 0):=am (show c2=.a5 0 from a6) N;refine bx (Ey (d:=B) a7 f0 g7) λi g8=> ?_;have a0:=c.1;rw[q]at a0;rw[f4]at i;have d:=R.ho.a0 t (g8 t f4);have z:=f3 d (nF d);exact c5 _ _ (by decide) z.1 z.2 M.symm (.Ih (F c7) N b0 c3 c4 (d4 c6) a0 i)
end
end
section
open PySem
noncomputable def uT:List Nat:=[0,9,10,11,12,13,14,15,16,20,21]
def Q0 {s:Nat} (a:s=9\/s=20\/s=21) (z:Nat) (h:z=0\/(10<=z/\z<17)\/z=s):z∈uT:=by
 refine h.elim (λh=> ?_) λh=>h.elim (λh=>(by decide:∀z,z<17->10<=z->z∈uT) z h.2 h.1) λh=> ?_
 ·subst h;decide
 ·subst h
  refine a.elim (λe=> ?_) λe=>e.elim (λe=> ?_) λe=> ?_
  ·subst e;decide
  ·subst e;decide
  ·subst e;decide
def Q1 {s:Nat} (a:s=9\/s=20\/s=21):∀z,z=(oe s a).x0\/(oe s a).E z\/z=(oe s a).xs->z∈uT:=Q0 a
def rC {P:fG} {t:T} (h:gj P 8 t):hh P b 24<|t.sub b:=fe 8 t (by exact aI<|aj [] [] [.n 1 (.a u8 W) u8] rfl) h (.inl<|by exact aI<|aj [] [] [.n 1 (.a (.k 24) W)<|.a u8<|.k 16] rfl) rfl
section
variable {w:aM} {j s:Nat} {o Q:List T} {e p L:T}
def PR {o:List T} (j:Nat):kT (j:Int) (hi a<|bj<|j=2) o=jF a (bj<|j=2) (bj<|j=0) o:=by
 delta kT jF
 exact aZ (j=0) (λq=>U (aK<|al ox q)<|U (aK<|decide_eq_true q) rfl) λq=>U (aX λz=>q<|eW z)<|U (aX λz=>q<|of_decide_eq_true z) rfl
theorem QW:∀{j:Nat},j<3->(nx j==63)=bj (j=0)/\(nx j==65)=bj (j=2)/\(nx j=65->j=2)|0,_=>⟨rfl,rfl,λh=>bt h<|by decide⟩|1,_=>⟨rfl,rfl,λh=>bt h<|by decide⟩|2,_=>⟨rfl,rfl,λ_=>rfl⟩|_+3,h=>(oB.mpr (hE 3 _) h).elim
theorem Je:∀l:List Nat,((l.map λi=>[i]).map hC).sum=l.length|[]=>rfl|a::l=>(al (1+·)<|Je l).trans<|l_ 1 _
def TU (a:List ag):(ea c u a).length<=a.length:=aF (bp<|bX _)<|aF (I9 a.length<|dV a.length)<|bp<|(Je _).trans Kk
def LW (n:Nat) (i:kJ w j o e p s Q L) (j3:mH w.nm (hi w.nm<|bj<|j=2) o Q e p L j=.e3 a4) (g2:b2[g0]?=J (.X [af<|ch o e,af p])) (g3:b2[g1]?=J (.X [.av [af p,af a4]])):
  ∃g4 a9,aD (n+42) aa 94 [.ref 8,.aA<|hU j,.ref<|be g0,.av [.Z<|S "holds",.ref<|be g1]] (mk w b2)=J (.ok<|.ad ac,mk g4 a9)/\co [] b2 a9/\nf w g4:=by
 have j4:=i.na;have j5:=i.sG;refine cps λj6 e0=> ?_;obtain⟨b8,-⟩:∃_:s=9\/s=20\/s=21,True:=⟨i.lH,trivial⟩
 have j7:e=.a 0/\a4=ch (jF w.nm (bj<|j=2) (bj<|j=0) o) (.a 0)/\(L.a9=ac\/L=.a 0)/\(j=2->il o=Y/\je Q=Y):=
  wT (C:=λg=>g=.e3 a4->e=.a 0/\a4=ch (jF w.nm (bj<|j=2) (bj<|j=0) o) (.a 0)/\(L.a9=ac\/L=.a 0)/\(j=2->il o=Y/\je Q=Y)) (λ_ h=>jt.noConfusion h) (λ_ _ h=>jt.noConfusion h) (λ_ _ _ h=>jt.noConfusion h) (λ_ _ _ _ _ h=>jt.noConfusion h) (λ_ _ _ _ _ _ h=>jt.noConfusion h)
   (λe7 g q h=>⟨e7,(jt.e3.inj h).symm.trans (al (ch · _)<|PR j),g,λk=>q<|al ox k⟩) j3
 obtain⟨e7,e1,j8,g5⟩:=j7;have j9:=i.wa;have g6:=i.wb
 subst e7
 obtain⟨e8,e2,n3,c2,k0,k1,a1,g7,g8,g9,a7,h0,h1,h2⟩:=Il i.kS j9 g6 i.uL (by exact aI<|aj [_] [] [.n 1 Z<|.k 100,.n 1 (.a (.k 200) W) Z] rfl j4.1) (by exact aI<|aj [_] [] [.n 1 Z<|.k 100,.n 1 (.a (.k 200) W) Z] rfl j5.1);have k2:=i.uL;have k3:w.nm.bf.length+2<ar/\w.nm.aW.length+1<ar:=⟨by have:=i.ay;exact bo<|aj [_,_] [] [.n 1 (.a (.a Z<|.k 10) W) G,.n 1 G<|.a Z u2] rfl this,by have:=i.ak;exact bo<|aj [_,_] [] [.n 1 (.a (.a Z<|.k 10) W) G,.n 1 G<|.a Z W] rfl this⟩;refine ah h0.oZ λe9 k4 k5=> ?_;refine ah h1.oZ λc5 h3 h4=> ?_;have c9:=k5;have d0:=h4;rw[vl]at c9;rw[i.uA,vl]at d0;refine bF (wy (o:=w.nm) (H:=c2) (e:=(T.a 0).sub<|bJ a1) (λx y q=>by cases q) _ e9 [] c9 (λm q=>by cases q) (by have:=i.ht;simp[gC];exact bo<|aj [_] [] [.n 1 Z u7,.n 1 (.k 4090) Z] rfl this)) λes k6 k7 e4 k8=> ?_;refine bF (wy (o:=w.nm) (H:=c2) (e:=L.sub<|bJ a1) (i.ho.t0.2.2.2.2 a1) _ c5 [] d0 (λm q=>by cases q) (by have:=i.ho.bb;simp[gC];exact bo<|aj [_] [] [.n 1 Z u8,.n 1 (.k 4090) Z] rfl this)) λfs f0 k9 h5 l0=> ?_;have l1:es.length<=ar:=by refine U e4.bb ?_;have:=i.ht;simp[ar];exact aI<|aj [_] [] [.n 1 Z u7,.n 1 (.a (.k 1000000) W) Z] rfl this
 have l2:fs.length<=ar:=by refine U h5.bb ?_;have:=i.ho.bb;simp[ar];exact aI<|aj [_] [] [.n 1 Z u8,.n 1 (.a (.k 1000000) W) Z] rfl this
 have f1:k6=.a5 0:=by cases k8;rfl
 subst f1
 have l3:bU f0=0\/f0=.a5 0:=Jl l0 j8;have l4:∀t∈o,bv w.nm t/\t.num<=3000:=λt m=>⟨(i.jI t m).2.2,by have:=nF (i.jI t m).1;exact aI<|aj [_] [] [.n 1 Z u7,.n 1 (.a (.k 3000) W) Z] rfl this⟩;have l5:∀t∈Q,bv w.nm t/\t.num<=3000:=λt m=>⟨i.ho.j2 t m,by have:=nF<|i.ho.a0 t m;exact aI<|aj [_] [] [.n 1 Z u7,.n 1 (.a (.k 3000) W) Z] rfl this⟩;have kpk:=QW i.io;have d1:gj (oe s b8) 8 a4:=(U e1 (have g:=AM (c:=w.nm) (b:=bj<|j=2) (u:=bj<|j=0) (a:=o);Gw b8 (λt m=>i.jI t<|g.1 t m) (by have:=i.ht;exact aI<|aj [_,_] [] [.n 1 Z G,.n 1 G u7,.n 1 (.a u8 W) Z] rfl g.2 this)));have b3:gj (oe s b8) 8 p:=by refine U i.uA ?_;exact i.ho.vr b8
 have c3:gj (oe s b8) 8<|ch o<|.a 0:=Gw b8 i.jI (by have:=i.ht;exact aI<|aj [_] [] [.n 1 Z u7,.n 1 (.a u8 W) Z] rfl this);have l6:bv w.nm a4:=U e1 (have g:=AM (c:=w.nm) (b:=bj<|j=2) (u:=bj<|j=0) (a:=o);Cf i.kS (λt m=>(i.jI t<|g.1 t m).2.2) i.p0);obtain⟨a6,N⟩:∃a6:aM,a6=((w.sH c2).sX [dW,an e8,an e2]):=⟨_,rfl⟩;have B:rH a6 e8 e9 e2 c5:=by refine U N ?_;exact⟨rfl,rfl,k4,h3⟩
 have d3:bj (j=2)=ac->∀t∈o,jH t=ac:=λh=>z0 (g5<|by simpa using h).1
 refine bw (T0 (w:=a6) (A:=a1) (B:=(oe s b8).ey a7) (c:=bj<|j=2) (l:=bj<|j=0) (s:=o) (F:=es) (E:=p) (Q:=c5) (by refine U N ?_;exact i.N) (by refine U N ?_;exact i.jI) (by have:=i.ht;exact aI<|aj [_] [] [.n 1 Z u7,.n 1 (.a (.k 20) W) Z] rfl this) (by refine U N ?_;show c2.length<=90000;exact aI<|aj [_,_] [] [.n 1 Z<|.a G<|.k 2500,.n 1 G<|.k 20000,.n 1 (.a (.k 90000) W) Z] rfl h2 k2) (by refine U N ?_;exact e4) (by refine U N ?_;exact h4) (λh=>by simp at h ⊢;exactλf2=>aj [_] [] [.n 1 Z u0,.n 1 u2 Z] rfl (bp h)<|bp f2.symm) d3 (by
  have:a6.nm=w.nm:=by refine U N ?_;rfl
  refine U this<|am e1 ?_
  exact DJ (d1.ey a7)<|b3.ey a7)) λks b1=> ?_
 have b0:a6.nm=w.nm/\a6.H=c2:=by refine U N ?_;exact⟨rfl,rfl⟩
 rw[b0.1, <-e1]at b1
 have b9:∀(E:Bool) (a3:bh),qf a6 c5 (bj<|j=0) (bj<|j=2) es E a3 (eS w.nm (bj<|j=2) o) ks->∀b2,∃F,aD (n+41) aa (hU j) [.ref 8] (mk ((w.sH c2).sX [dW,an e8,an e2]) b2)=J (.ok<|.ad E,mk (a6.sH a3)<|b2++F):=λE a3 b1 b2=>by
  have g:kc (nx j) a6 e2 e9 c5<|.ok E a3:=by
   refine .I5 (es:=es) (fs:=fs) (t:=f0) (c:=eS w.nm (bj<|j=2) o) (ks:=ks) (by refine U b0.2 ?_;exact k7) l1 (by refine U b0.2 ?_;exact k9) l2 l3 (λq=> ?_) ?_ ?_
   ·refine cps λj6 e0=> ?_;refine bx (Ew (d:=a1) i.kS e4 l4) λz _=> ?_;refine bx (Ey (d:=a1) i.kS h5 l5) λc0 _=> ?_;refine bx (g5<|kpk.2.2 q) λc6 e5=> ?_;rw[c6]at z;rw[e5]at c0;exact e0<|(U b0.1<|U b0.2 ⟨z,c0⟩)
   ·exact U b0.2<|h3.a2<|ui _
   ·exact U kpk.1<|U kpk.2.1 b1
  have:=If (n+29) (i:=b2) B (by refine U N ?_;exact k3) g;exact am N this
 have c1:∀(E:Bool) (a3:bh),qf a6 c5 (bj<|j=0) (bj<|j=2) es E a3 (eS w.nm (bj<|j=2) o) ks->nf w (a6.sH a3):=λE a3 b1=>by have g:=b1.U1;have z:=zV (H:=a6.H) (a:=ea (eS w.nm (bj<|j=2) o) (bj<|j=0) es);rw[b0.2]at z;have K:(ea (eS w.nm (bj<|j=2) o) (bj<|j=0) es).length<=es.length:=TU es;have I:=e4.bb;rw[bX]at I;have:=i.ht;rw[b0.2]at g;exact⟨by refine U N ?_;rfl,by refine U N ?_;exact i.mL,by show cN a6.nm;refine U b0.1 ?_;exact i.N,by show cP 3 w.nm a6.nm;refine U b0.1 ?_;exact(cP.b1 _).a2 (by exact aI<|aj [] [] [.n 1 (.a u3 W) u0] rfl),by show a3.length<=_;exact aI<|aj [_,_,_,_,_,_,_] [] [.n 1 Z<|.a G<|.k 2500,.n 1 v2 v3,.n 1 v3<|.a Z<|.m 2 v4,.n 2 v4 v5,.n 2 v5<|.v 6,.n 2 (.v 6) u7,.n 1 (.a (.a G<|.k 2600) W) v2] rfl h2 (bp g) (bp z) K (bp I) this,by refine U N ?_;exact .inr<|dn _ _ rfl⟩
 have M:=Ru (Q:=w.nm) (Q1 b8) 24 (d:=30) (by exact aI<|aj [] [] [.n 1 (.a (.k 24) W)<|.k 24] rfl) (by exact aI<|aj [] [] [.n 1 (.a (.k 30) W)<|.a (.k 24) W] rfl) (ep.b_ p) (ep.b_ a4) (DJ b3 d1) et.id g6 l6 (λx t q=>by exact aq q);have h6:uT.Nodup:=by decide
 have h7:uT.length<=1000:=by decide
 rcases b1 with⟨a3,f3,b1⟩|⟨a8,a3,h8,h9,d4,b1⟩
 ·rcases M with⟨_,i0,m⟩|⟨I,i0,m,_⟩
  ·exact ah (LY (w:=w) (e:=b2) (n+7) 30 (C:=a6.sH a3) h6 h7 g2 g3 i.xs g7 g8 g9 (b9 aa a3 b1) m) λa9 z K=>e0<|dD _ a9 z K<|c1 _ _ b1
  ·exfalso
   obtain⟨g,f4⟩:=xj (f:=a1) (D:=λ_=>True) λx y _ _ e=>a7 x y e;refine f3 (λm=>I<|g m) ?_;have V:∀B:T,(B.sub<|bJ a1).sub (λm=>I<|g m)=B.sub I:=λB=>cJ (ez _ _ _) (yk λn _=>by show I (g<|a1 n)=_;exact U (f4 n trivial) rfl);rw[V,V];exact m.lW.symm
 ·rcases M with⟨f3,_⟩|⟨I,i0,m,c7,i1,l7,l8⟩
  ·exfalso
   refine f3 (au (bJ a1) a8) ?_;refine am (ez _ _ _)<|am (ez _ _ _) ?_;exact h8.lW.symm
  ·have l9:au mM I=I:=rfl;have c7:=l9▸c7;refine fq (U7 (A:=p) (R:=a4) (b:=a1) (D:=λ_=>True) (λ_ _=>trivial) (λx y _ _ e=>a7 x y e) m h8) λi2 d5 V=> ?_;have V:=λB=>V B λ_ _=>trivial;have m0:=i1 _ _<|ep.b_<|ch o<|.a 0;have m1:=i1 _ _<|ep.b_ p;have i3:=(rC (b:=I) c3).a0 c7;have i4:=(rC (b:=I) b3).a0 c7;have e6:=(rC (b:=I) c3).num c7;have i5:=(rC (b:=I) b3).num c7;have d6:=(rC (b:=a8)<|c3.ey a7).num h9;have f5:=(rC (b:=a8)<|b3.ey a7).num h9
   have d7:∀{c:ag} {t:T},bK w.nm c2 c t->bK w.nm a3 c (t.sub a8):=λb5=>by rw[b0.2]at d4;exact d4.di _ _<|b5.a2<|ui _
   have m2:=d7 h0;have m3:=d7 h1;refine ah m2.oZ λn4 f6 m4=> ?_;refine ah m3.oZ λn5 f7 m5=> ?_;obtain⟨c8,c4⟩:∃F,F=dX [] (((ch o<|.a 0).sub<|bJ a1).sub a8):=⟨_,rfl⟩;obtain⟨b4,b6⟩:∃F,F=dX c8 ((p.sub<|bJ a1).sub a8):=⟨_,rfl⟩
   have m6:c8.length<=2000:=by refine ah (wF (((ch o<|.a 0).sub<|bJ a1).sub a8) []) λF e b7=> ?_;refine U c4<|U e ?_;simp;exact aI<|aj [_,_] [] [.n 1 Z<|.m 64<|.k 24,.n 1 G<|.a Z W,.n 1 (.a (.k 2000) W) G] rfl d6 b7
   have i6:=sY (j:=w.nm) (H:=a3) (d:=[]) m4.di (by exact aI<|aj [_] [] [.n 1 Z<|.m 64<|.k 24,.n 1 (.a (.k 3000) W) Z] rfl d6) (by simp);have i7:=sY (j:=w.nm) (H:=a3) (d:=c8) m5.di (by exact aI<|aj [_] [] [.n 1 Z<|.m 64<|.k 24,.n 1 (.a (.k 3000) W) Z] rfl f5) (by exact aI<|aj [_] [] [.n 1 Z<|.k 2000,.n 1 (.a (.k 3000) W) Z] rfl m6);rw[<-c4]at i6;rw[<-b6]at i7;have d8:∀n,(((ch o<|.a 0).sub<|bJ a1).sub a8).has n->n∈c8:=λn q=>by refine U c4 ?_;exact uc q
   have d9:∀n,(((ch o<|.a 0).sub<|bJ a1).sub a8).has n->n∈b4:=λn q=>by refine U b6 ?_;exact zG<|d8 n q
   have f8:∀n,((p.sub<|bJ a1).sub a8).has n->n∈b4:=λn q=>by refine U b6 ?_;exact uc q
   have i8:(((ch o<|.a 0).sub<|bJ a1).sub a8).sub (ey c8)=(((ch o<|.a 0).sub<|bJ a1).sub a8).sub (ey b4):=by refine U b6 ?_;exact(BB d8).symm
   obtain⟨g,f4⟩:=xj (f:=λa=>b4.idxOf a) (D:=λa=>a∈b4) λx y f9 m7 e=>Ge f9 m7 e;have i9:∀B:T,(∀n,B.has n->n∈b4)->(B.sub<|ey b4).sub (bJ g)=B:=λB h=>BW (f:=λa=>b4.idxOf a) λx f9=>f4 x<|h x f9;refine bS (Bf (l:=(ch o<|.a 0).sub I) (r:=(((ch o<|.a 0).sub<|bJ a1).sub a8).sub<|ey c8) (s:=au i2<|ey b4) (n:=au (bJ g) d5) (by exact U i8<|am (ez _ _ _)<|am ((V _).1) rfl) (by exact U i8<|am (ez _ _ _)<|U (i9 _ d9)<|am ((V _).2) rfl)<|rE.b_ _ _) λm8 m9 j0 n0=> ?_;refine bS (Bf (l:=p.sub I) (r:=((p.sub<|bJ a1).sub a8).sub<|ey b4) (s:=au i2<|ey b4) (n:=au (bJ g) d5) (by exact am (ez _ _ _)<|am ((V _).1) rfl) (by exact am (ez _ _ _)<|U (i9 _ f8)<|am ((V _).2) rfl) n0) λn1 n2 j1 n6=> ?_;have c0:=j0.lA;have j2:=j1.lA;have c6:=ym<|(ch o<|.a 0).sub I;have e5:=ym<|p.sub I;simp at c0;refine ah (LZ (w:=w) (e:=b2) (n+7) 30 (r:=a6.sH a3) h6 h7 g2 g3 i.xs g7 g8 g9 (b9 ac a3 b1) l7 (m0.o7<|by exact aI<|aj [_] [] [.n 1 Z<|.k 24,.n 1 (.a (.k 30) W) Z] rfl i3) (m1.o7<|by exact aI<|aj [_] [] [.n 1 Z<|.k 24,.n 1 (.a (.k 30) W) Z] rfl i4) (by exact aI<|aj [_] [] [.n 1 Z<|.k 24,.n 1 (.a (.k 30) W) Z] rfl i3) (by exact aI<|aj [_] [] [.n 1 Z<|.k 24,.n 1 (.a (.k 30) W) Z] rfl i4) f6 f7 (by show db a6.nm a3 _ _ _ _ _ _ _;refine U b0.1 ?_;exact i6) (by show db a6.nm a3 _ _ _ _ _ _ _;refine U b0.1 ?_;exact i7) j0 j1 (by exact aI<|aj [_,_,_] [] [.n 2 Z<|.m 64<|.k 24,.n 1 G<|.a (.m 2 Z) W,.n 1 v2 G,.n 1 (.a (.k 1000000) W) v2] rfl e6 c6 c0.1) (by exact aI<|aj [_,_,_] [] [.n 2 Z<|.m 64<|.k 24,.n 1 G<|.a (.m 2 Z) W,.n 1 v2 G,.n 1 (.a (.k 1000000) W) v2] rfl e6 c6 c0.2) (by exact aI<|aj [_,_,_,_,_,_] [] [.n 2 Z<|.m 64<|.k 24,.n 2 G<|.m 64<|.k 24,.n 1 v2<|.a v3 v4,.n 1 v5<|.a (.m 2 Z) W,.n 1 v4<|.a (.m 2 G) W,.n 1 v3 v5,.n 1 (.a (.k 1000000) W) v2] rfl e6 i5 j2.1 c6 e5 c0.1)<|by exact aI<|aj [_,_,_,_,_,_] [] [.n 2 Z<|.m 64<|.k 24,.n 2 G<|.m 64<|.k 24,.n 1 v2<|.a v3 v4,.n 1 v5<|.a (.m 2 Z) W,.n 1 v4<|.a (.m 2 G) W,.n 1 v3 v5,.n 1 (.a (.k 1000000) W) v2] rfl e6 i5 j2.2 c6 e5 c0.2) λa9 z K=> ?_;exact e0<|dD _ a9 z K<|c1 _ _ b1
end
end
section
open PySem
def Fh:List cA:=[.aN 7<|.X [],.aN 8<|.au .Eq (kO 8)<|.W<|.I 7,.for 9 1 [kO 8] wX]++(Fj++([.aN 12<|kO 6,.aN 13<|.av [.W<|.Z<|S "v",.W<|.I 9]]++[.aQ (.au .Gt (.loc 12)<|.W<|.I 1) Ak []]))
structure Dn (w:aM) (τ:List O) (ρ:ap) (j:Nat) (ts:List T) (e asked:T):Prop where
 jI:∀t∈ts,fV w.nm t
 ht:ts.length<=7
 o_:jZ w.nm e
 L0:wl w.nm asked
 Gc:τ[j]?=J (.X<|ts.map af)
 fa:ρ 7=J (.ref<|be j)
 F7:ρ 11=J (af e)
 F8:ρ 13=J (af asked)
def NL (n:Nat) {g:aM} {H:List O} {a4:ap} {x:Nat} (F:dS 190 g) (c6:hL g.nm) (c7:a4 2=J (.ref 1)) (f7:a4 3=J (.ref 2)) (f8:a4 6=J (.I x)):
  ∃(u:ap) (N:aM) (y:List O) (B:Nat) (a5:List T) (h f:T),bG (aD (n+10)) Fh aa a4 (mk g H)=J (.ok .a1 u (mk N y))/\eF 190 g N/\Dn N y u B a5 h f/\co [] H y/\∀i,i<7->u i=a4 i:=by
 refine cps λf9 c0=> ?_;refine dx (hV (w:=g) (n+9) 8 (by decide) (by decide) F.1 F.2.1) λv c8 h4 c9 h5 g0=> ?_;have d0:dS 190 c8:=c9.c8 (j:=0) (by refine(U (eb _) ?_);exact F);refine dx (hV (w:=c8) (n+9) 8 (by decide) (by decide) d0.1 d0.2.1) λm e8 a6 d1 h6 g1=> ?_;have d2:dS 190 e8:=d1.c8 (j:=0) (by refine(U (eb _) ?_);exact d0);obtain⟨c,g2⟩:∃c,ex .Eq (.I v) (.I 7) (mk c8 (H++[.X []]))=J c:=⟨_,rfl⟩;obtain⟨L,C⟩:∃R,R=aB (aB a4 7 (.ref (be H.length))) 8 (.ad c):=⟨_,rfl⟩;have c1:∀i,i<7->L i=a4 i:=λi A=>by exact U C (U (gW (dQ (tx A))) (U (gW (dQ A)) rfl))
 have a8:nj x H.length c L:=⟨(c1 _ (by decide)).trans c7,(c1 _ (by decide)).trans f7,(c1 _ (by decide)).trans f8,by refine(U C ?_);rfl,by refine(U C ?_);rfl⟩;obtain⟨c2,a9⟩:∃c2:List V,c2=(ic m).map λi=>.I (i:Nat):=⟨_,rfl⟩;have P:c2.length=m:=by exact U a9 (U (bX _) (U Kk rfl))
 have e9:=xZ aa m (aF (ky a6) (by decide));rw[<-a9]at e9;refine Dq (QH (j:=H.length) (n+5) (o:=x) (c:=c) c2 e8 (H++[.X []]) L [] (bB (d2.1) (d2.2.1) (by have:=d2.2.2;exact⟨bo (aj [_,_,_] [] [.n 23 (.a Z W) u8,.n 23 G Z,.n 1 (.a (.a v2 (.k 190)) W) (.k 900000),.n 1 (.k 900000) (.a v2 (.r G 23))] rfl a6 (bp P) this.1),bo (aj [_,_,_] [] [.n 23 (.a Z W) u8,.n 23 G Z,.n 1 (.a (.a v2 (.k 190)) W) (.k 900000),.n 1 (.k 900000) (.a v2 (.r G 23))] rfl a6 (bp P) this.2)⟩)) (c6.a2 (c9.trans d1).dN) (λt q=>nomatch q) (by refine(U P (U VI (U (eb _) ?_)));exact aF (ky a6) (by decide)) dJ a8) λb0 d3 l a5 d4 f0 c3 g3 g4 g5 d5=> ?_;have Q:=(c9.trans d1).trans f0;rw[P]at f0 Q c3;have c4:dS 20 d3:=Q.c8 (j:=0+0+m*23) (bB (F.1) (F.2.1) (by have:=F.2.2;exact⟨bo (aj [_,_] [] [.n 23 (.a Z W) u8,.n 1 (.a (.a G (.k 190)) W) (.k 900000),.n 1 (.k 900000) (.a G (.a (.a (.a u0 u0) (.r Z 23)) (.k 20)))] rfl a6 this.1),bo (aj [_,_] [] [.n 23 (.a Z W) u8,.n 1 (.a (.a G (.k 190)) W) (.k 900000),.n 1 (.k 900000) (.a G (.a (.a (.a u0 u0) (.r Z 23)) (.k 20)))] rfl a6 this.2)⟩));have c3:a5.length=m:=c3.trans (eb _);have b1:a5.length<=7:=by refine(U c3 ?_);exact vT a6
 refine bF (Q7 (b:=d3) (n+9) (bB (c4.1) (c4.2.1) (by have:=c4.2.2;exact⟨bo (aj [_] [] [.n 1 (.a (.a Z (.k 20)) W) (.k 900000),.n 1 (.k 900000) (.a Z W)] rfl this.1),bo (aj [_] [] [.n 1 (.a (.a Z (.k 20)) W) (.k 900000),.n 1 (.k 900000) (.a Z W)] rfl this.2)⟩)) (c6.a2 Q.dN)) λh d6 d7 g6 d8=> ?_;refine bF (d8 l b0 ((d5 2 (by decide)).trans a8.cw) ((d5 3 (by decide)).trans a8.cv)) λM Y d8 g7 g8=> ?_;have d9:=Q.trans d7;have e0:dS 19 d6:=d7.c8 (j:=1) c4;refine dx (hV (w:=d6) (n+9) 6 (by decide) (by decide) e0.1 e0.2.1) λa0 a3 f1 c5 h7 g9=> ?_;have b2:dS 19 a3:=c5.c8 (j:=0) (by refine(U (eb _) ?_);exact e0);have b3:=d9.trans c5;have f2:∀i,i<9->Y i=L i:=λi A=>(g8 i (dQ (iF A (by decide)))).trans (d5 i A);obtain⟨p,E⟩:∃R,R=aB (aB Y 12 (.I a0)) 13 (af (.v 9)):=⟨_,rfl⟩;have f3:∀i,i<12->p i=Y i:=λi A=>by exact U E (U (gW (dQ (tx A))) (U (gW (dQ A)) rfl))
 have b4:∀i,i<9->p i=L i:=λi A=>(f3 i (iF A (by decide))).trans (f2 i A);have f4:nj x H.length c p:=a8.of b4;have b5:p 11=J (af h):=(f3 11 (by decide)).trans g7;have a7:p 12=J (.I a0):=by refine(U E ?_);rfl
 have b6:p 13=J (af (.v 9)):=by refine(U E ?_);rfl
 have e1:=d7.trans c5;have b7:∀t∈a5,fV a3.nm t:=λt q=>(g3 t q).a2 e1.dN;have b8:jZ a3.nm h:=g6.a2 c5.dN
 have e2:bG (aD (n+10)) [.aN 7 (.X []),.aN 8 (.au .Eq (kO 8) (.W (.I 7))),.for 9 1 [kO 8] wX] aa a4 (mk g H)=J (.ok .a1 b0 (mk d3 l)):=by have d4:=C▸d4;exact ia 255 λd=>d (lS (a:=[]) rfl) c7 (g0 _) g2 c7 (g1 _) e9 d4
 have e3:bG (aD (n+10)) [.aN 12 (kO 6),.aN 13 (.av [.W (.Z (S "v")),.W (.I 9)])] aa Y (mk d6 (l++M))=J (.ok .a1 p (mk a3 (l++M))):=(U E (ia 3 λd=>d ((f2 2 (by decide)).trans a8.cw) (g9 _)));have f5:(l++M)[H.length]?=J (.X (a5.map af)):=cG g4;have h0:co [] H (l++M):=(g5.trans (co.c4 _ l M)).gS λB m=>by refine(U (dk.mp m) ?_);exact bE _
 obtain⟨e4,h1,e5,f,h2,e6,h3,b9,f6,e7⟩:∃(u:ap) (N:aM) (y:List O) (f:T),bG (aD (n+10)) [.aQ (.au .Gt (.loc 12) (.W (.I 1))) Ak []] aa p (mk a3 (l++M))=J (.ok .a1 u (mk N y))/\eF 3 a3 N/\wl N.nm f/\u 13=J (af f)/\co [] (l++M) y/\∀i,i<13->u i=p i:=by
  refine cps λf9 c0=> ?_;refine aZ ((1:Int)<a0) (λq=> ?_) (λq=> ?_)
  ·exact oN (L8 n (a:=a3) (p:=l++M) (x:=p) (H:=x) (s:=c) (y:=a5) (h:=h) (g:=H.length) (v:=a0) (bB (b2.1) (b2.2.1) (by have:=b2.2.2;exact⟨bo (aj [_] [] [.n 1 (.a (.a Z (.k 19)) W) (.k 900000),.n 1 (.k 900000) (.a Z u3)] rfl this.1),bo (aj [_] [] [.n 1 (.a (.a Z (.k 19)) W) (.k 900000),.n 1 (.k 900000) (.a Z u3)] rfl this.2)⟩)) (c6.a2 b3.dN) b7 b1 b8 f5 f4 b5 a7 b6) λu N y f z D a b K o=>c0 (nd u N y f (yi (B:=mk a3 (l++M)) (by exact iV 3 λd=>d a7 (F6 q)) z) D a b K o)
  ·exact c0 (nd p a3 (l++M) (.v 9) (yh (by exact iV 3 λd=>d a7 (F5 q))) ⟨rfl,rfl,rfl,b2.1,b2.2.1,(cP.b1 _).a2 (cr _)⟩ (.inl rfl) b6 (co.b1 _ _) (λ_ _=>rfl))
 refine c0 ?_;exact⟨e4,h1,e5,H.length,a5,h,f,om e2 (om d8 (om e3 h2)),(b3.trans e6).a2 (by exact aI (aj [_] [] [.n 23 (.a Z W) u8,.n 1 (.a (.k 190) W) (.a (.a (.a (.a (.a u0 u0) (.r Z 23)) W) u0) u3)] rfl a6)),⟨λt q=>(b7 t q).a2 e6.dN,b1,b8.a2 e6.dN,h3,f6.d6 f5 (λm=>nomatch m),(e7 7 (by decide)).trans f4.fa,(e7 11 (by decide)).trans b5,b9⟩,h0.trans f6,λi A=>(e7 i (iF A (by decide))).trans ((b4 i (iF A (by decide))).trans (c1 i A))⟩
end
section
open PySem
noncomputable def LU:a_:=.bi (.W<|.aA 94) [.loc 4,.ao (.loc 5)<|.loc 6,.X [.bi (.W<|.aA 95) [.loc 7,.loc 11],.loc 13],.loc 15]
def Al:List cA:=[.aN 15 E6,.aQ (.gd LU) [.aO<|.W<|.ad aa] []]
structure tY (k:Nat) (w:aM):Prop where
 F:dS (k*200) w
 kS:hL w.nm
 xs:w.xs=[dW]\/∃a b,w.xs=[dW,a,b]
 uL:w.H.length+k*2600<=20000
structure wu (ρ:ap):Prop where
 cw:ρ 2=J (.ref 1)
 cv:ρ 3=J (.ref 2)
 ce:ρ 4=J (.ref 8)
 bA:ρ 5=J (.ref 16)
def QL (n:Nat) {c:aM} {B:List O} {M:ap} {g u:Nat} {N:List T} {d f:T} (F:dS 10 c) (a2:hL c.nm) (a9:c.xs=[dW]\/∃a b,c.xs=[dW,a,b]) (b0:c.H.length<=20000) (a3:g<3) (D:Dn c B M u N d f) (L:wu M) (a5:M 6=J (.I g)):
  ∃(E:ap) (Q:aM) (p:List O),bG (aD<|n+42) Al aa M (mk c B)=J (.ok .a1 E<|mk Q p)/\co [] B p/\nf c Q/\∀i,i<7->E i=M i:=by
 refine eY (L7 D.L0) λs h Y b1 a6 P=> ?_;have R:kJ c g N d f s h Y:=⟨F.2.1,a2,F.1,by have:=F.2.2;exact bo<|aj [_] [] [.n 1 (.a (.a Z<|.k 10) W)<|.k 900000,.n 1 (.k 1000000)<|.a Z<|.k 10] rfl this.1,by have:=F.2.2;exact bo<|aj [_] [] [.n 1 (.a (.a Z<|.k 10) W)<|.k 900000,.n 1 (.k 1000000)<|.a Z<|.k 10] rfl this.2,a9,b0,a3,D.jI,D.ht,D.o_,b1,a6,P⟩;have b2:no f h Y:=by refine U a6 ?_;exact DQ P.t0.2.2.1 P.t0.2.2.2.1
 have b3:=R.sG;have A:=E7 (n+32) (g:=g) (c:=h) (f:=f) (o:=Y) F.2.1 a2 F.sm D.Gc D.jI (by have:=D.ht;exact aI<|aj [_] [] [.n 1 Z u7,.n 1 (.a (.k 20) W) Z] rfl this) D.o_ b2 (by have:=P.bb;exact aI<|aj [_] [] [.n 1 Z u8,.n 1 (.a (.k 20) W) Z] rfl this) (λt m=>⟨by have:=P.a0 t m;exact aI<|aj [_] [] [.n 1 Z u3,.n 1 (.a (.k 28) W) Z] rfl this,HD a2<|P.j2 t m⟩) (by exact aI<|aj [_] [] [.n 1 Z<|.k 12,.n 1 (.a (.k 28) W) Z] rfl b3.2) (by have:=P.t0.1;exact aI<|aj [_] [] [.n 1 Z u0,.n 1 (.a (.k 28) W) Z] rfl<|bp this)
 have a7:∀(r:V) (H:aw) (C:List O),aD (n+42) aa 100 [.ref 2,.ref<|be u,af d,af f,.I g] (mk c B)=J (.ok r,mk (c.sN H)<|B++C)->
   (∀(l:List O) (S:Nat),(B++C++l)[S]?=J (.X [af<|ch N d,af f])->∃a0 p,aD (n+42) aa 94 [.ref 8,.aA<|hU g,.ref<|be S,r] (mk (c.sN H)<|B++C++l)=J (.ok<|.ad ac,mk a0 p)/\co [] (B++C++l) p/\nf c a0)->
   ∃(E:ap) (Q:aM) (p:List O),bG (aD<|n+42) Al aa M (mk c B)=J (.ok .a1 E<|mk Q p)/\co [] B p/\nf c Q/\∀i,i<7->E i=M i:=by
  intro r H C z y
  refine bw (x2 (w:=c.sN H) (d:=B++C) (n+41) (j:=u) (a:=N) (e:=d) (cG D.Gc)<|aF D.ht<|by decide) λo b4=> ?_;refine bF (y ([o]++[.X [af<|ch N d,af f]]) (B++C++[o]).length<|by refine am (bD _ _ _) ?_;exact dJ) λa0 p a8 K b5=> ?_;rw[<-bD<|B++C]at a8 K;refine(zr _ a0 p (?_) ((((co.c4 _ B C).trans<|co.c4 _ _ [o]).trans<|co.c4 _ _ _).trans K) b5<|λi b6=>gW (x:=15) (v:=r)<|dQ<|iF b6<|by decide)
  exact ia 98303 λq=>q L.cv D.fa D.F7 D.F8 a5 z L.ce L.bA a5 ((by rcases G6 a3 with rfl|rfl|rfl<;>rfl)) D.fa D.F7 b4 D.F8 (lS (a:=[af<|ch N d,af f]) rfl) a8
 cases o:mH c.nm (hi c.nm<|bj<|g=2) N h d f Y g with
 |a4 t q=>rw[o]at A;exact bw A λC z=>a7 _ q C z λl S y=>LV n R o y
 |e3 K=>rw[o]at A;refine bS A λC q z b7=> ?_;refine a7 _ c.nm C z λl S y=> ?_;have:=LW n (b2:=B++C++l) (g0:=S) (g1:=B.length+q) R o y (by refine U (bD _ _ _)<|U (qy rfl) ?_;exact cG b7);exact U (oq _ _) this
def Fi:List cA:=Fh++Al
def S4 (n k:Nat) {c:aM} {t:List O} {g:ap} {d:Nat} (b:tY (k+1) c) (Q:d<3) (L:wu g) (C:g 6=J (.I d)):
  ∃(h:ap) (E:aM) (l:List O),bG (aD<|n+42) Fi aa g (mk c t)=J (.ok .a1 h<|mk E l)/\co [] t l/\tY k E/\wu h:=by
 have f:=b.F.2.2;refine cps λa0 R=> ?_;obtain⟨u,F,x,q,a2,e,A,z,D,S,K,o⟩:=NL (n+32) (g:=c) (H:=t) (a4:=g) (x:=d) (bB (b.F.1) (b.F.2.1)<|by exact⟨bo<|aj [_,_] [] [.n 1 (.a (.a Z<|.r (.a G W) 200) W)<|.k 900000,.n 1 (.k 900000)<|.a Z<|.k 190] rfl f.1,bo<|aj [_,_] [] [.n 1 (.a (.a Z<|.r (.a G W) 200) W)<|.k 900000,.n 1 (.k 900000)<|.a Z<|.k 190] rfl f.2⟩) b.kS L.cw L.cv C;have T:dS 10 F:=D.c8 (j:=190) (bB (b.F.1) (b.F.2.1)<|by exact⟨bo<|aj [_,_] [] [.n 1 (.a (.a Z<|.r (.a G W) 200) W)<|.k 900000,.n 1 (.k 900000)<|.a Z<|.a (.k 190)<|.k 10] rfl f.1,bo<|aj [_,_] [] [.n 1 (.a (.a Z<|.r (.a G W) 200) W)<|.k 900000,.n 1 (.k 900000)<|.a Z<|.a (.k 190)<|.k 10] rfl f.2⟩);have H:=b.uL;refine Dp (QL n (c:=F) (B:=x) (M:=u) (g:=d) T (b.kS.a2 D.dN) (by refine U D.xs ?_;exact b.xs) (by refine U D.ns ?_;exact aI<|aj [_,_] [] [.n 1 (.a Z<|.r (.a G W) 2600)<|.k 20000,.n 1 (.a (.k 20000) W) Z] rfl H) Q S ⟨by refine U (o 2<|by exact bo<|aj [] [] [.n 1 u7 u2] rfl) ?_;exact L.cw,by refine U (o 3<|by exact bo<|aj [] [] [.n 1 u7 u3] rfl) ?_;exact L.cv,by refine U (o 4<|by exact bo<|aj [] [] [.n 1 u7<|.k 4] rfl) ?_;exact L.ce,by refine U (o 5<|by exact bo<|aj [] [] [.n 1 u7<|.k 5] rfl) ?_;exact L.bA⟩<|by refine cJ (o 6<|by exact bo<|aj [] [] [.n 1 u7<|.k 6] rfl) ?_;exact C) λm V B y X p Y=> ?_;have s:∀i,i<7->m i=g i:=λi M=>by exact cJ (Y i M)<|o i M
 have N:=D.dN.trans p.dN;have P:=N.bb;refine R ?_;refine zr m V B (?_) (K.trans X) ⟨(mu p.mL p.ok (by exact bo<|aj [_,_,_] [] [.n 1 (.a (.a Z<|.r (.a G W) 200) W)<|.k 900000,.n 1 v2<|.a Z<|.a (.k 190) u3,.n 1 (.k 900000)<|.a v2<|.r G 200] rfl f.1 P.2.1)<|by exact bo<|aj [_,_,_] [] [.n 1 (.a (.a Z<|.r (.a G W) 200) W)<|.k 900000,.n 1 v2<|.a Z<|.a (.k 190) u3,.n 1 (.k 900000)<|.a v2<|.r G 200] rfl f.2 P.2.2.2),b.kS.a2 N,p.xs,by have:=p.ns;rw[D.ns]at this;exact aI<|aj [_,_,_] [] [.n 1 (.a Z<|.r (.a G W) 2600)<|.k 20000,.n 1 v2<|.a Z<|.k 2600,.n 1 (.a (.k 20000) W)<|.a v2<|.r G 2600] rfl H this⟩ ⟨by refine U (s 2<|by exact bo<|aj [] [] [.n 1 u7 u2] rfl) ?_;exact L.cw,by refine U (s 3<|by exact bo<|aj [] [] [.n 1 u7 u3] rfl) ?_;exact L.cv,by refine U (s 4<|by exact bo<|aj [] [] [.n 1 u7<|.k 4] rfl) ?_;exact L.ce,by refine U (s 5<|by exact bo<|aj [] [] [.n 1 u7<|.k 5] rfl) ?_;exact L.bA⟩;exact om z y
def S5 (n:Nat) {h:List Nat} (j:∀k∈h,k<3):∀(c f:List Nat) (a:aM) (d:List O) (b:ap),h=f++c->d[t]?=J (.X<|h.map cc)->tY c.length a->wu b->
  ∃(l:ap) (u:aM) (o:List O),dZ (aD<|n+42) aa 6 Fi (.b5 (be t) f.length) b (mk a d)=J (.ok .a1 l<|mk u o):=by
 intro c
 induction c with
 |nil=>
  intro f a d b e g I L
  exact tQ b a d<|hR<|ix (cq g)<|mK e
 |cons k c v=>
  intro f a d b e g I L
  have x:∀{i:Nat},i<6->aB b 6 (cc k) i=b i:=λA=>gW<|dQ A;refine Dp (S4 n c.length (c:=a) (t:=d) (g:=aB b 6<|cc k) (d:=k) I (j k<|nC e) ⟨L.cw,L.cv,L.ce,L.bA⟩ rfl) λp B q z K C D=> ?_;refine oL (v (f++[k]) B q p (by refine U e<|U (bD _ _ _) ?_;rfl) (K.d6 g<|λm=>nomatch m) C D) λr E s y=> ?_;rw[d_]at y;exact tQ r E s<|(FU (fA (cq g)<|eN e) z).trans y
end
section
open PySem
def Qq (l:List Int):hs (l.map .I)=J l:=by
 induction l with
 |nil=>rfl|cons a l b=>show(hs<|l.map .I).map (a::·)=_;rw[b];rfl
def RD (z m:Int) (h:0<m):∃p:Nat,(p:Int)<m/\hO .Mod (.I z) (.I m)=J (.I p):=by have a:=Int.emod_nonneg z (b:=m) (by exactλd=>aj [] [_] [.z 1 (.a (.k 0)<|.k 1)<|.v 0,.z 1 (.v 0)<|.k 0] rfl h<|gL d);have c:=Int.emod_lt_of_pos z (b:=m) h;exact ax ((z %m).toNat) (U (J9 a) c)<|by exact U (Eh h)<|U (J9 a) rfl
def Uj (z:Int):∃p s:Nat,s<2147483647/\hO .Mod (.I z) (.I 100003)=J (.I p)/\hO .Mult (.I p) (.I 7)=J (.I s):=ah (RD z 100003<|by exact pJ.mp<|aj [] [] [.z 1 (.k 100003)<|.k 0] rfl) λp c d=>have b:p<100003:=(by exact bo<|aj [_] [] [.z 1 (.a (.e Z)<|.k 1)<|.k 100003,.n 1 (.k 100003) Z] rfl c);dD p (p*7) (by exact bo<|aj [_] [] [.z 7 (.a (.e Z)<|.k 1)<|.k 100003,.n 1 (.k 2147483647)<|.r Z 7] rfl c) d (by exact U (uh (qQ<|iF b<|by decide)<|by decide)<|U (Vo _ _) rfl)
def JR (l:List Int) (s:Nat):(yD l s).nm=lM:=by simp only[yD]
def XO (l:List Int) (x:l.length<=63):∃F,aD 220 aa 102 [.df l] []=J (.ok<|.ad ac,F):=by
 have z:pv (λl i=>l.take i) (.df l) (.I 63) []=J (.ok<|.ref 0,[.X<|l.map .I]):=by have:(l.map V.I).take 63=l.map .I:=CD (by refine U (bX _) ?_;exact x);show(if((l.map V.I).take 63).length<=ar then iJ (.X<|(l.map V.I).take 63) []else Y)=_;exact(U this<|aK<|by refine U (bX _) ?_;exact aF x<|by decide)
 have A:e_ aa .sum [.ref 0] [.X<|l.map .I]=J (.ok<|.I l.sum,[.X<|l.map .I]):=have:([.X<|l.map V.I]:ae)[0]?=J (.X<|l.map .I):=rfl;cJ (aX (t:=(Y:R V)) Ve) (U (Qq l) rfl);refine cps λM B=> ?_;refine bF (Uj l.sum) λp s H C D=> ?_;have K:nW<|yD l s:=⟨cr _,H⟩;refine dx (hV (w:=yD l s) 218 2 (by decide) (by decide) K<|by refine U (JR _ _) ?_;exact PV _ (by decide)<|D4 _ (by decide) ⟨.nil,.nil,λp m=>(nomatch m),λp m=>nomatch m⟩) λv f N g L E=> ?_;have j:=RN;have o:f.nm=lM:=by exact cJ L<|JR _ _
 have R:tY 3 f:=⟨(mu g.mL g.ok (by refine U o ?_;exact bo<|aj [_] [] [.n 1 (.a Z W)<|.k 100,.n 1 (.k 900000)<|.a Z<|.m 3<|.k 200] rfl j.1)<|by refine U o ?_;exact bo<|aj [_] [] [.n 1 (.a Z W)<|.k 100,.n 1 (.k 900000)<|.a Z<|.m 3<|.k 200] rfl j.2),by refine U o ?_;exact⟨(by kernel_rfl),RM⟩,.inl (by refine cJ g.xs ?_;rfl),by refine U g.ns ?_;exact(by decide:0+3*2600<=20000)⟩;have c:∀i:List Nat,(∀k∈i,k<3)->tY i.length f->_:=λi h d=>S5 177 (t:=0) h i [] f [.X<|i.map cc] (aB (aB (aB (aB (aB (aB (λ_=>Y) 0<|.df l) 1<|.ref 0) 2<|.ref 1) 3<|.ref 2) 4<|.ref 8) 5<|.ref 16) rfl rfl d ⟨rfl,rfl,rfl,rfl⟩;refine aZ ((v:Int)=1) (λq=> ?_)<|λq=> ?_
 ·obtain⟨r,u,e,y⟩:=c [0,1,2] (by decide) R;exact B ⟨mk u e,by exact aL Fw rfl 706930 λb=>b z A C D (EA 216 _ _) (EB 216 _ _ _) (E []) (gH q) (lS (w:=f) (c:=[]) (a:=[0,1,2].map cc) rfl) y⟩
 ·obtain⟨r,u,e,y⟩:=c [2] (by decide) ⟨(bB (R.F.1) (R.F.2.1)<|by refine U o ?_;exact(by exact⟨bo<|aj [_] [] [.n 1 (.a Z W)<|.k 100,.n 1 (.k 900000)<|.a Z<|.k 200] rfl j.1,bo<|aj [_] [] [.n 1 (.a Z W)<|.k 100,.n 1 (.k 900000)<|.a Z<|.k 200] rfl j.2⟩:lM.bf.length+200<900000/\lM.aW.length+200<900000)),R.kS,R.xs,by refine U g.ns ?_;exact(by decide:0+1*2600<=20000)⟩;exact B ⟨mk u e,by exact aL Fw rfl 706930 λb=>b z A C D (EA 216 _ _) (EB 216 _ _ _) (E []) (dt q) (lS (w:=f) (c:=[]) (a:=[2].map cc) rfl) y⟩
end
end
end Mine.Internal
theorem PySem.Challenge.cw_no0192_01_holds : PySem.Challenge.rw_no0192_01.Holds :=
  Mine.Internal.XN fun l h=>by have:=Mine.Internal.XO l h;rw[Mine.Internal.Eo] at this;exact this
