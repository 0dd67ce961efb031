import PyProof.Rows.All
import KE.KBytesCut
import KE.KRevSl
import KE.KItem
import ObjForm.ListNI
import Lean
import PySem.Challenge.RW_nu0106_01
set_option Elab.async false
set_option linter.all false
set_option maxRecDepth 100000
set_option maxHeartbeats 4000000
set_option genSizeOf false
namespace Mine
noncomputable section
noncomputable def B:=@rfl
noncomputable def G:=@congrArg
noncomputable def am:=@if_neg
noncomputable def an:=@if_pos
noncomputable def av:=@of_decide_eq_true
noncomputable def bd:=@decide_eq_true
noncomputable def cd:=@decide_eq_false
noncomputable def gs:=@beq_self_eq_true
noncomputable def hl:=@congrFun
noncomputable def jr:=@and_congr_right
open Option renaming some->D,map->cx,none->dv,casesOn->eh,bind->kt
open Nat renaming le_trans->aa,le_add_left->af,le_of_eq->ao,lt_of_lt_of_le->ar,le_add_right->ax,lt_of_le_of_lt->bb,add_le_add_left->bc,add_assoc->bf,le_refl->bg,add_comm->bh,le_of_lt->bl,mul_comm->bs,zero_add->bt,succ_pos->bu,add_le_add_right->bv,succ_le_succ->bw,mul_le_mul_left->bx,zero_le->cc,lt_trans->ce,add_lt_add_left->ci,le_of_lt_succ->ck,lt_or_ge->cm,beq->cn,mul_le_mul_right->cr,add_le_add->cu,mod_lt->cv,succ_mul->cw,lt_add_of_pos_right->cz,ne_of_gt->c_,eq_of_beq_eq_true->da,le_of_ble_eq_true->di,add_sub_cancel'->ds,blt->dt,add_right_comm->dw,le_succ->ea,div_add_mod->ec,succ_add->ed,sub_le->el,div_lt_of_lt_mul->er,ne_of_lt->et,add_sub_cancel_left->e_,mod_eq_of_lt->fi,mul_assoc->fo,one_pos->fp,ble->fr,lt_succ_self->fz,le_of_succ_le->f_,lt_or_eq_of_le->ga,succ_ne_zero->gj,sub_self->gk,mul_succ->gz,le_of_not_lt->g_,div_le_div_right->ha,sub_pos_of_lt->hb,succ_lt_succ->hc,min_eq_left->hh,min_le_left->hi,and_two_pow_sub_one_eq_mod->hn,mul_div_cancel->ho,mul_le_mul->hp,lt_of_sub_pos->hy,mul_add->iv,pow_add->iw,div_div_eq_div_mul->ix,pow_succ->iy,div_one->iz,add_lt_add_right->i_,lt_succ_of_le->ja,one_mul->ju,two_pow_add_eq_or_of_lt->ka,mul_add_div->kb,div_eq_of_lt->kc,exists_eq_add_of_le->kd,le_sub_of_add_le->ke,one_ne_zero->kf,zero_mul->kg,eq_zero_or_pos->ki,lt_of_le_of_ne->ku,lt_irrefl->kv,min_le_right->lh,mul_add_mod->mf,le_sub_of_add_le'->mg,sub_sub->mh,sub_lt->mi,le_antisymm->mj,mul_lt_mul_of_pos_right->ml,casesOn->mu,not_lt_zero->mx,add_sub_assoc->nq,sub_add_cancel->nv,pow_pos->nw,ble_eq_true_of_le->nx,eq_of_mul_eq_mul_right->ny,mul_pos->oa,lt_succ_of_lt->oc,exists_eq_succ_of_ne_zero->od,add_mul->of,ne_of_beq_eq_false->oi,lt_of_succ_lt_succ->op,mul_zero->pl,succ_ne_self->pv,le_succ_of_le->qe,shiftLeft_eq->qg,two_pow_pos->qh,add_zero->qi,zero_div->qj,pow_zero->qk,pow_le_pow_right->ql,add_left_cancel->qm,lt_of_add_lt_add_left->qn,le_of_add_le_add_right->qo,sub_add_eq->qp,sub_le_of_le_add->qq,div_le_self->qr,add_sub_add_left->qs,and_mod_two_pow->qt,and_le_right->qu,and_one_is_mod->qv,lt_of_add_lt_add_right->qw,le_of_sub_eq_zero->qx,add_sub_cancel->qy,mul_div_le->qz,max_eq_right->qE,lt_of_succ_lt->qF,add_le_add_iff_right->qG,sub_le_sub_right->qI,zero_max->qK,sub_eq_zero_of_le->qR,testBit_mul_two_pow->rz,sub_lt_left_of_lt_add->rA,lt_add_of_pos_left->rC,add_right_cancel->rE,le_of_add_le_add_left->rF,not_succ_le_self->rG,le_div_iff_mul_le->rH,le_mul_of_pos_right->rJ,sub_lt_right_of_lt_add->rK
open PySem renaming Value->ab,Expr->ag,wpAny_bind->ah,Shared->ai,Str->aj,Addr->al,wpAny->ap,model->aq,wpAny_pure->as,Sem->au,call->aw,Heap->ba,Stmt->be,Around->bj,Pos->bp,wpAny_of_eq->bq,eval->bz,bm_if_false->ca,mainGlobals->cb,sizeLine_eq->ch,Env->cj,World->co,wpAny_field->cq,Result->cs,Tok->ct,Scope->cy,Code->db,Flow->dc,backTo->dd,OsState->de,starEach->dj,wpAny_specialOf->dp,NameKind->dr,execs->du,wpAny_holding->dz,spliced->ef,wpAny_newObj_type->ej,typeLookup_type->em,builtinLookup_eq_fast->en,callEnvC->ep,Model->es,rawInt->ev,getMethod->ez,wpAny_rule->fa,noteFrame->fb,assign->fc,table->fd,builtinsNs->ff,typeLookup->fk,wpAny_load->fw,binaryOp->gb,wpAny_ite->gc,entryFor->gd,assignEach->gf,holding->gm,pyIter->gn,relabel->gp,pyNext->gq,sizeLine->gr,CmpOp->gt,typeOf->gw,standAt->hd,treeTable->hf,callWith->hq,setFlight->hr,intKind->hs,clipAt->hv,wpAny_call_entry->hx,swappedStores->hz,codeAny->h_,theTreesLotGoes->ia,seqIndex?->ic,truthy->ig,compareOp->ih,wpAny_attempt->ii,wpAny_isInstance->ik,getMethod_builtin->im,checkBuiltinCall->ip,ExceptHandler->it,Program->jc,callerA->jd,DictEntry->jf,valueAt->jh,wpAny_callSpecial?_slot->jj,wpAny_typeOf->jk,wpAny_seqItems->jo,isSubtype->jp,wpAny_mkText->jv,FuncData->jx,handleBy->jy,newFunctionEnv->kk,letOwnedTupleGo->km,wpAny_execs_nil->kn,importedModules->ko,recursionLimit->kw,sysModules->kx,bootBuiltins->ky,evalEach->k_,lastMarks->lg,entryFor_of_tree->li,wpAny_setField->ll,isSubtype_type->lp,assignInOrder->ls,cellsFrom->lw,wpAny_standAt->mm,passOn->mo,foldedSetIterable->mp,wpAny_mkInt->mv,typeIs_int->mw,eval_Subscript->m_,wpAny_throw->nb,isSubtype_stop->nc,plainId_quiet->nd,bm_if_true->ne,wpAny_bindName->nm,wpAny_loadPart->np,excMatches->nt,wpAny_comp_letGo->oj,wpAny_askSetting->ol,runOwn->om,behindInMarks->ot,wpAny_mkBytes->ow,wpAny_updateSeq->pb,slot_list_append->pg,wpAny_assign_Name->pi,arm_execs_cons->pj,wpAny_dropValue->pk,arm_exec_Assign->pm,assign_Subscript->pn,wpAny_lookBehind->pp,plainObj_exec_Assign_Attribute->pr,assign_Attribute->ps,strLen_append->pw,Comprehension->px,comprehension->qM,leftWithCleanup_false_of_bare->qN,wpAt_of_wpAny->rn
open Eq renaming trans->ae,symm->az
open Option.some renaming inj->ak
open Pure renaming pure->ay
open List renaming length_map->a_,replicate->bi,length_append->bm,mem_cons_self->bn,mem_cons_of_mem->br,range->b_,append_assoc->cp,append_nil->dh,getElem?_eq_getElem->d_,range'->eb,rec->ee,length_take->ek,length_set->eu,getElem?_map->ew,not_mem_nil->fe,map_append->fg,size_toArray->fh,map_map->fj,length_range->fl,casesOn->fn,getD_eq_getElem?_getD->fq,getElem?_append_left->fu,map_cons->ge,getElem?_append_right->gg,getElem?_concat_length->gl,mem_of_getElem?->gy,mem_of_mem_take->he,getElem?_set_self->hk,length_drop->hw,length_cons->il,set_set->io,getElem?_eq_none->ir,getElem?_set_ne->jg,length_reverse->jl,getElem_mem->kh,mem_of_mem_drop->kl,contains_cons->lf,map_congr_left->ln,range_eq_range'->lq,lookup_cons->lu,take_append_drop->ly,any_cons->my,forIn_cons->nk,lookup->nl,mem_append_right->nz,mem_append_left->n_,take_length->ob,set_append_right->oe,nodup_nil->og,pairwise_singleton->oh,flatten->oo,find?_cons->or,length_replicate->pc,map_id'->pd,getElem_map->pe,reverse_cons->pt,eq_of_mem_replicate->qH,mem_singleton_self->qJ,append_toArray->qP,range_succ_eq_map->qW,take_of_length_le->qZ,dropLast_eq_take->q_,set_getElem_self->re,contains_eq_any_beq->rf,filterMap_cons->rk,getElem?_of_mem->rl,getElem?_take_of_lt->rm,mem_of_mem_erase->ry,concat_eq_append->rD,set_append_left->rI
open Exists renaming elim->bk
open PySem.W renaming Looks->bo,typeIs_bytes->dg,Frag->dm,findIn->dn,topStub->fs,SharedT->ft,boot_heap->gh,keepIn->hg,emptyDict->hm,segRunT->ib,instObj->is,noRoadLSs->jz,layAllW->j_,staticsOk->kp,namesBound->kq,gensDone->kr,laidKept->ks,readsOut->mc,looks_findIn->nr
open PySem.Heap renaming SameBut->cf,get?_push_of_some->cg,get?_push_size->cl,lt_size->eg,get?_update_self->fy,get?_update_other->gv,ExtBut->jn,size_push->ox,get?_none_of_le->pu
open Array renaming length_toList->df,size_append->la,toList_append->lb,getElem?_eq_none->pa,getElem?_setIfInBounds_ne->rd
open PySem.Builtin renaming bitNot->dk,bitAnd->je,bitOr->ms
open Ne renaming symm->dq
open Int renaming natCast_nonneg->dx,ofNat->fx,lt_of_le_of_lt->ht,le_trans->hu,toNat_of_nonneg->le,natCast_add->lm,ofNat_sub->me,toNat_natCast->na,add_comm->oz,add_sub_cancel->o_,ofNat_fdiv->qb,natCast_pow->qc,ofNat_inj->qd
open Bool renaming casesOn->dy,not_eq_true'->eo,false_ne_true->ey,or_true->iu,and_false->jw,true_and->md,false_eq_true->mn,or_false->ng,false_and->qf
open LawfulBEq renaming eq_of_beq->ei
open PySem.W.Looks renaming ld->eq,of_pure->hj,andThen->lx
open PyProof.Rows renaming subscriptTail->ex,wpAny_release'->jb,slot_tuple_getitem->mz
open Nat.succ renaming inj->fm
open Int.ofNat renaming inj->fv
open PySem.W.WData renaming int->gi
open PySem.Heap.SameBut renaming update->gu
open PySem.Value.ref renaming inj->gx
open PySem.Str renaming ofString->ie
open Prod renaming fst->ij
open PySem.Value renaming ref->iq,bool->kz,none->lr,type->nf,casesOn->nu
open PySem.W.FB renaming slot_bytes_getitem->ji,entry_bytes_getitem->ou,args_bytes_getitem_2->ov
open PySem.Obj renaming data_mapFields->jm,isFreed_of_fields->lj,mapFields->ni,putName->no
open PySem.F renaming bm_sub->jq,slot_dict_pop->nh,excBase_ValueError->ns,plainAttrs_list->pf,slot_dict_get->ph,slot_int_rmul->qQ,slot_tuple_iterator_next->qU,slot_range_iterator_next->qV,type_dict_get->ra,args_dict_pop_3->rb,entry_dict_pop->rc,slot_list_extend->ri,type_list_append->rj,type_dict_pop->ro
open ForInStep renaming yield->js
open PySem.NameKind renaming cell->jt,free->lt
open PySem.Sem renaming wp_mono->kj
open And renaming intro->lc
open PySem.PyData renaming keyHash->lv
open PySem.W.Fast renaming tw10110043849684766642->lz,tw14364793385576792824->l_,te10110043849684766642->ma,te14364793385576792824->mb,te8326940854005059898->pz,te17119622794617984870->p_,tw8326940854005059898->rr,tw17119622794617984870->rs
open PySem.ExcName renaming means->mq
open PySem.Builtin.Range renaming rangeSize->mr,small->qO,rangeFitsLong->rB
open False renaming elim->nj
open PySem.Builtin.Bytes renaming write->nn,exported->po,sliced->qT,ownRelease->qX,buffer?->qY,checkResize->rg
open Prod.mk renaming injEq->on
open UInt8 renaming toNat_ofNat'->oq
open PySem.W.KBw renaming IsBytesIter->oy
open PySem.Code renaming quiet_builtin->pq
open PySem.Data renaming casesOn->py
open PySem.W.WShape renaming has->qa
open PySem.Keeper renaming boundFrame->qL
open PySem.Builtin.Slice renaming slicePlaces->qS
open PySem.Around renaming under_plainId->rh
open PySem.Env renaming blockKind->rp
open PySem.FuncBody renaming casesOn->rq
open PySem.W.OpenRow renaming partSaid->rt,wellSaid->ru
open Classical renaming byContradiction->rv,choose_spec->rx
open PySem
section
open PySem.W PyProof.Rows PySem.Calls

end
universe u v w z
@[elab_as_elim] theorem J{a0:Sort u}{b g:a0}{a1:a0->Prop}(a:g=b)(f:a1 b):a1 g:=a▸f
@[elab_as_elim] theorem sa{a0:Sort u}{b g:a0}{a1:a0->Prop}(a:b=g)(f:a1 b):a1 g:=a▸f
@[elab_as_elim] theorem A3{a1:Nat->Prop}(f:a1 0)(l:∀t,a1 t->a1 (t+1))(t:Nat):a1 t:=Nat.rec f l t
@[elab_as_elim] theorem uP{a0:Type u}{a1:List a0->Prop}(f:a1 [])(l:∀b w,a1 w->a1 (b::w))(w:List a0):a1 w:=ee f l w
@[elab_as_elim] theorem Ef{a1:Nat->Prop}(b:a1 0)(g:a1 1){N:Nat}(a:N<2):a1 N:=(ga<|ck a).elim (λa=>Nat.lt_one_iff.mp a▸b) λe=>e▸g
@[elab_as_elim] theorem Ca{a1:Nat->Prop}(b:a1 0)(g:a1 1)(h:a1 2){N:Nat}(a:N<3):a1 N:=(ga<|ck a).elim (Ef b g) λe=>e▸h
@[elab_as_elim] theorem Eg{a1:Nat->Prop}(b:a1 0)(g:a1 1)(h:a1 2)(f:a1 3){N:Nat}(a:N<4):a1 N:=(ga<|ck a).elim (Ca b g h) λe=>e▸f
@[elab_as_elim] theorem Eh{a1:Nat->Prop}(b:a1 0)(g:a1 1)(h:a1 2)(f:a1 3)(M:a1 4){N:Nat}(a:N<5):a1 N:=(ga<|ck a).elim (Eg b g h f) λe=>e▸M
theorem sz(a:fr t A=true):t<=A:=di a
theorem yd(a:cn t A=false):t≠A:=oi a
theorem sq{a0:Type u}{b:a0}{a1:Prop}(a:none=D b):a1:=by cases a
theorem va{a0:Type u}{b:a0}{a1:Prop}(a:D b=none):a1:=by cases a
theorem tC{a1:Prop}(a:false=true):a1:=Bool.noConfusion a
theorem A4{a1:Prop}(a:true=false):a1:=Bool.noConfusion a
theorem Ei{a0:Type u}{b:a0}{w:List a0}{a1:Prop}(a:[]=b::w):a1:=by cases a
theorem Cb{a0:Type u}{b:a0}{w:List a0}{a1:Prop}(a:b::w=[]):a1:=by cases a
theorem IK{a0:Type u}{b g:a0}{a1:Prop}(a:D b=D g)(i:b=g->a1):a1:=i<|ak a
theorem Ej{a0:Type u}{b1:Type v}{b g:a0}{h N:b1}{a1:Prop}(a:(b,h)=(g,N))(i:b=g->h=N->a1):a1:=i (Prod.mk.inj a).1 (Prod.mk.inj a).2
theorem Ac{a0:Type u}{b1:Type v}{b g:a0}{h N:b1}{a1:Prop}(a:D (b,h)=D (g,N))(i:b=g->h=N->a1):a1:=Ej (ak a) i
theorem ye{b:Prop}(a:s/\m/\q)(i:s->m->q->b):b:=i a.1 a.2.1 a.2.2
theorem tG(a:s)(S:m)(b:q):s/\m/\q:=⟨a,S,b⟩
theorem Cc{b:Prop}(a:s/\m/\q/\l)(i:s->m->q->l->b):b:=i a.1 a.2.1 a.2.2.1 a.2.2.2
theorem vS(a:s)(S:m)(b:q)(c:l):s/\m/\q/\l:=⟨a,S,b,c⟩
theorem Ek{b:Prop}(a:s/\m/\q/\l/\n)(i:s->m->q->l->n->b):b:=i a.1 a.2.1 a.2.2.1 a.2.2.2.1 a.2.2.2.2
theorem El(a:s)(S:m)(b:q)(c:l)(d:n):s/\m/\q/\l/\n:=⟨a,S,b,c,d⟩
theorem sh{a0:Sort u}{s m:a0->Prop}{c:Prop}(a:∃b,s b/\m b)(i:∀b,s b->m b->c):c:=a.elim λb a=>i b a.1 a.2
theorem sn{a0:Sort u}{s m:a0->Prop}(b:a0)(a:s b)(S:m b):∃b,s b/\m b:=⟨b,a,S⟩
theorem tp{a0:Sort u}{s m q:a0->Prop}{c:Prop}(a:∃b,s b/\m b/\q b)(i:∀b,s b->m b->q b->c):c:=a.elim λb a=>i b a.1 a.2.1 a.2.2
theorem tv{a0:Sort u}{s m q:a0->Prop}(b:a0)(a:s b)(S:m b)(c:q b):∃b,s b/\m b/\q b:=⟨b,a,S,c⟩
theorem wo{a0:Sort u}{s m q l:a0->Prop}{c:Prop}(a:∃b,s b/\m b/\q b/\l b)(i:∀b,s b->m b->q b->l b->c):c:=a.elim λb a=>i b a.1 a.2.1 a.2.2.1 a.2.2.2
theorem zn{a0:Sort u}{s m q l:a0->Prop}(b:a0)(a:s b)(S:m b)(c:q b)(d:l b):∃b,s b/\m b/\q b/\l b:=⟨b,a,S,c,d⟩
theorem zo{a0:Sort u}{s m q l n:a0->Prop}{c:Prop}(a:∃b,s b/\m b/\q b/\l b/\n b)(i:∀b,s b->m b->q b->l b->n b->c):c:=a.elim λb a=>i b a.1 a.2.1 a.2.2.1 a.2.2.2.1 a.2.2.2.2
theorem A5{a0:Sort u}{s m q l n:a0->Prop}(b:a0)(a:s b)(S:m b)(c:q b)(d:l b)(e:n b):∃b,s b/\m b/\q b/\l b/\n b:=⟨b,a,S,c,d,e⟩
theorem IL{a0:Sort u}{s m q l n c:a0->Prop}{d:Prop}(a:∃b,s b/\m b/\q b/\l b/\n b/\c b)(i:∀b,s b->m b->q b->l b->n b->c b->d):d:=a.elim λb a=>i b a.1 a.2.1 a.2.2.1 a.2.2.2.1 a.2.2.2.2.1 a.2.2.2.2.2
theorem IM{a0:Sort u}{s m q l n c:a0->Prop}(b:a0)(a:s b)(S:m b)(d:q b)(e:l b)(f:n b)(g:c b):∃b,s b/\m b/\q b/\l b/\n b/\c b:=⟨b,a,S,d,e,f,g⟩
theorem vT{a0:Sort u}{b1:Sort v}{s:a0->b1->Prop}{c:Prop}(a:∃b g,s b g)(i:∀b g,s b g->c):c:=a.elim λb a=>a.elim λg a=>i b g a
theorem vK{a0:Sort u}{b1:Sort v}{s:a0->b1->Prop}(b:a0)(g:b1)(a:s b g):∃b g,s b g:=⟨b,g,a⟩
theorem tP{a0:Sort u}{b1:Sort v}{s m:a0->b1->Prop}{c:Prop}(a:∃b g,s b g/\m b g)(i:∀b g,s b g->m b g->c):c:=a.elim λb a=>a.elim λg a=>i b g a.1 a.2
theorem uw{a0:Sort u}{b1:Sort v}{s m:a0->b1->Prop}(b:a0)(g:b1)(a:s b g)(S:m b g):∃b g,s b g/\m b g:=⟨b,g,a,S⟩
theorem ul{a0:Sort u}{b1:Sort v}{s m q:a0->b1->Prop}{c:Prop}(a:∃b g,s b g/\m b g/\q b g)(i:∀b g,s b g->m b g->q b g->c):c:=a.elim λb a=>a.elim λg a=>i b g a.1 a.2.1 a.2.2
theorem uQ{a0:Sort u}{b1:Sort v}{s m q:a0->b1->Prop}(b:a0)(g:b1)(a:s b g)(S:m b g)(c:q b g):∃b g,s b g/\m b g/\q b g:=⟨b,g,a,S,c⟩
theorem wp{a0:Sort u}{b1:Sort v}{s m q l:a0->b1->Prop}{c:Prop}(a:∃b g,s b g/\m b g/\q b g/\l b g)(i:∀b g,s b g->m b g->q b g->l b g->c):c:=a.elim λb a=>a.elim λg a=>i b g a.1 a.2.1 a.2.2.1 a.2.2.2
theorem yf{a0:Sort u}{b1:Sort v}{s m q l:a0->b1->Prop}(b:a0)(g:b1)(a:s b g)(S:m b g)(c:q b g)(d:l b g):∃b g,s b g/\m b g/\q b g/\l b g:=⟨b,g,a,S,c,d⟩
theorem zp{a0:Sort u}{b1:Sort v}{a9:Sort w}{s m:a0->b1->a9->Prop}{c:Prop}(a:∃b g h,s b g h/\m b g h)(i:∀b g h,s b g h->m b g h->c):c:=a.elim λb a=>a.elim λg a=>a.elim λh a=>i b g h a.1 a.2
theorem zq{a0:Sort u}{b1:Sort v}{a9:Sort w}{s m:a0->b1->a9->Prop}(b:a0)(g:b1)(h:a9)(a:s b g h)(S:m b g h):∃b g h,s b g h/\m b g h:=⟨b,g,h,a,S⟩
theorem zr{a0:Sort u}{b1:Sort v}{a9:Sort w}{s m q:a0->b1->a9->Prop}{c:Prop}(a:∃b g h,s b g h/\m b g h/\q b g h)(i:∀b g h,s b g h->m b g h->q b g h->c):c:=a.elim λb a=>a.elim λg a=>a.elim λh a=>i b g h a.1 a.2.1 a.2.2
theorem A6{a0:Sort u}{b1:Sort v}{a9:Sort w}{s m q:a0->b1->a9->Prop}(b:a0)(g:b1)(h:a9)(a:s b g h)(S:m b g h)(c:q b g h):∃b g h,s b g h/\m b g h/\q b g h:=⟨b,g,h,a,S,c⟩
theorem wq{a0:Sort u}{b1:Sort v}{a9:Sort w}{s m q l:a0->b1->a9->Prop}{c:Prop}(a:∃b g h,s b g h/\m b g h/\q b g h/\l b g h)(i:∀b g h,s b g h->m b g h->q b g h->l b g h->c):c:=a.elim λb a=>a.elim λg a=>a.elim λh a=>i b g h a.1 a.2.1 a.2.2.1 a.2.2.2
theorem xk{a0:Sort u}{b1:Sort v}{a9:Sort w}{s m q l:a0->b1->a9->Prop}(b:a0)(g:b1)(h:a9)(a:s b g h)(S:m b g h)(c:q b g h)(d:l b g h):∃b g h,s b g h/\m b g h/\q b g h/\l b g h:=⟨b,g,h,a,S,c,d⟩
theorem Em{a0:Sort u}{b1:Sort v}{a9:Sort w}{a3:Sort z}{s:a0->b1->a9->a3->Prop}{c:Prop}(a:∃b g h N,s b g h N)(i:∀b g h N,s b g h N->c):c:=a.elim λb a=>a.elim λg a=>a.elim λh a=>a.elim λN a=>i b g h N a
theorem IN{a0:Sort u}{b1:Sort v}{a9:Sort w}{a3:Sort z}{s:a0->b1->a9->a3->Prop}(b:a0)(g:b1)(h:a9)(N:a3)(a:s b g h N):∃b g h N,s b g h N:=⟨b,g,h,N,a⟩
theorem Ad{a0:Sort u}{b1:Sort v}{a9:Sort w}{a3:Sort z}{s m q:a0->b1->a9->a3->Prop}{c:Prop}(a:∃b g h N,s b g h N/\m b g h N/\q b g h N)(i:∀b g h N,s b g h N->m b g h N->q b g h N->c):c:=a.elim λb a=>a.elim λg a=>a.elim λh a=>a.elim λN a=>i b g h N a.1 a.2.1 a.2.2
theorem IP{a0:Sort u}{b1:Sort v}{a9:Sort w}{a3:Sort z}{s m q:a0->b1->a9->a3->Prop}(b:a0)(g:b1)(h:a9)(N:a3)(a:s b g h N)(S:m b g h N)(c:q b g h N):∃b g h N,s b g h N/\m b g h N/\q b g h N:=⟨b,g,h,N,a,S,c⟩
section
open PySem.W PyProof.Rows PySem.Calls
noncomputable def yg:List String:=Builtin.Bytes.decodersThatHold++["bytearray.__contains__","bytearray.__mod__","bytearray.__rmod__","_struct.pack_into.held","bytearray.find.held"]
set_option backward.match.sparseCases false in
def xl:db->Bool
 |.builtin o _=>yg.contains o
 |_=>false
def Cd(a:Ctx):Prop:=xl a.code=false/\∀c∈a.below,xl c.1=false
def rY{a0:Type}(d:es)(y:bj)(n:au a0)(a4:a0->ai->Prop)(a2:ab->ai->Prop)(l:ai):Prop:=∀a s,a.In y->Cd a->Sem.wp d a n (λb _ Y=>a4 b Y) (λe _ Y=>a2 e Y) s l
def sV(d:es)(y:bj)(h:db)(P:cs->ai->Prop)(l:ai):Prop:=∀a s,a.code=h->a.Below y->Cd a->wpCode d a P s l
section
variable{a0:Type} {d:es} {y:bj} {a2:ab->ai->Prop} {l:ai}
theorem toI{n:au a0}{a4:a0->ai->Prop}(a:ap d y n a4 a2 l):rY d y n a4 a2 l:=λb s r _=>a b s r
theorem toIc(a:h_ d y h P l):sV d y h P l:=λb s r g _=>a b s r g
namespace rY
theorem sF{b:a0}{a4:a0->ai->Prop}(a:a4 b l):rY d y (ay b) a4 a2 l:=λ_ _ _ _=>a
theorem tr(a:rY d y n a4 a2 l)(f:∀b l,a4 b l->g b l)(i:∀e l,a2 e l->j e l):rY d y n g j l:=λc s r h=>kj d c n (λb _ l=>f b l) (λe _ l=>i e l) s l<|a c s r h
theorem uE{n:au a0}{a4 e:a0->ai->Prop}(a:rY d y n a4 a2 l)(f:∀b l,a4 b l->e b l):rY d y n e a2 l:=a.tr f λ_ _ c=>c
theorem sf{A:au a0}{u:a0->au b1}{a4:b1->ai->Prop}(a:rY d y A (λb Y=>rY d y (u b) a4 a2 Y) a2 l):rY d y (A>>=u) a4 a2 l:=λc s r h=>by
 exact J (Sem.wp_bind' ..)<|kj d c A (λb M Y a3=>a3 c M r h) (λ_ _ _ a3=>a3) s l<|a c s r h
theorem wr{A:au a0}{u:a0->au b1}{b':a0->ai->Prop}{a4:b1->ai->Prop}(a:rY d y A b' a2 l)(i:∀b Y,b' b Y->rY d y (u b) a4 a2 Y):rY d y (A>>=u) a4 a2 l:=sf<|a.uE i
theorem wG{A:au a0}{a4:a0->ai->Prop}(a:rY d y A a4 (λe Y=>rY d y (i e) (λ_ c=>a2 e c) a2 Y) l):rY d y (A.onRaise i) a4 a2 l:=λb s r h=>by
 exact J (Sem.wp_onRaise ..)<|kj d b A (λ_ _ _ a3=>a3) (λe M Y a3=>a3 b M r h) s l<|a b s r h
theorem En{A:au a0}{a4:Except ab a0->ai->Prop}(a:rY d y A (λb=>a4<|.ok b) (λe=>a4<|.error e) l):rY d y A.attempt a4 a2 l:=λc s r h=>by
 exact J (Sem.wp_attempt ..)<|a c s r h
theorem tD{A:au a0}{a4:a0->ai->Prop}(a:rY d y A a4 a2 l):rY d y (gm V A) a4 a2 l:=λb s r h=>by
 rw[Sem.wp_holding];exact a b s r h
theorem tz{u:Unit->au a0}{a4:a0->ai->Prop}(a:rY d y (u ()) a4 a2 l):rY d y (hd b6>>=u) a4 a2 l:=sf<|toI<|mm a
theorem IQ(a:rY d y A a4 a2 l):rY d y (operate c A) a4 a2 l:=λb s r h=>by
 rw[Sem.wp_operate];exact a b s r h
theorem IR{n:au a0}{b:a0}{a4:a0->ai->Prop}(e:n=ay b)(a:a4 b l):rY d y n a4 a2 l:=by subst e;exact sF a
theorem Ce{h:Prop}[Decidable h]{b g:au a0}{a4:a0->ai->Prop}(S:h->rY d y b a4 a2 l)(a:¬h->rY d y g a4 a2 l):rY d y (if h then b else g) a4 a2 l:=by
 split
 ·exact S ‹_›
 ·exact a ‹_›
theorem Cf{h:db}{a:Option ab}{a4:dc->ai->Prop}(f:sV d (y.mark a) h (λq Y=>match q with|.ok u=>a4 u Y|.error e=>a2 e Y) l)(a8:xl h=false)(g:a≠D byPass:=by intro c;cases c):rY d y (PySem.run h a) a4 a2 l:=λj s r i=>by
  refine J (Sem.wp_run ..)<|f _ s B (r.enter h a s g) ⟨a8,λc b=>?_⟩;rcases List.mem_cons.mp b with rfl|b
  ·exact i.1
  ·exact i.2 c b
theorem IS{h:db}{a4:ab->ai->Prop}(b:sV d y h (λq Y=>match q with|.ok (.ret k)=>a4 k Y|.ok _=>False|.error e=>a2 e Y) l)(a8:xl h=false):rY d y (runValue h) a4 a2 l:=λf s r i=>by
  refine J (Sem.wp_runValue ..)<|b _ s B (r.enter h none s<|by intro c;exact sq c) ⟨a8,λc a=>?_⟩;rcases List.mem_cons.mp a with rfl|a
  ·exact i.1
  ·exact i.2 c a
theorem yE{u:ab}{b6:List ab}{a:List (aj×ab)}{a4:ab->ai->Prop}(b:sV d y (.call u ⟨b6,a⟩) (λq Y=>match q with|.ok (.ret k)=>a4 k Y|.ok _=>False|.error e=>a2 e Y) l):rY d y (aw u b6 a) a4 a2 l:=IS b B
end rY
theorem sV.aQ(a:sV d y h P l)(b:∀q l,P q l->c q l):sV d y h c l:=λe s f r i=>wpCode_mono b<|a e s f r i
abbrev A7(d:es)(y:bj)(P:cs->ai->Prop)(b:Fin)(Y:ai):Prop:=match b with
 |.done u=>P (.ok u) Y
 |.again a=>a.quiet=true/\xl a=false/\sV d y a P Y
theorem sV.cI(a:rY d (y.under h) (d.den h) (A7 d y P) (λe Y=>P (.error e) Y) l):sV d y h P l:=λb s c r i=>by
 rw[wpCode_iff_wp];refine J c ?_;refine kj d b _ (λg M Y a3=>?_) (λ_ _ _ a3=>a3) s l<|a b s (sa c r.in) i;cases g with
 |done u=>exact a3
 |again f=>exact⟨a3.1,a3.2.2 (b.goto f) M B (r.goto f) ⟨a3.2.1,i.2⟩⟩
theorem sV.hY{h:db}{P:cs->ai->Prop}(g:h.quiet=true)(a8:xl h=false)(b1:Nat->ai->Prop) (i:∀t l,b1 t l->rY d (y.under h) (d.den h) (λb Y=>match b with|.done u=>P (.ok u) Y|.again c=>c=h/\∃A,A<t/\b1 A Y) (λe Y=>P (.error e) Y) l) (t:Nat)(a:b1 t l):sV d y h P l:=by
 induction t using Nat.strongRecOn generalizing l with
 |ind t j=>
  refine sV.cI<|(i t l a).uE λb Y f=>?_;cases b with
  |done u=>exact f
  |again c=>obtain⟨rfl,A,k,m⟩:=f;exact tG g a8<|j A k m
end
section
namespace I
theorem Eo{u:Unit->au a0}{a4:a0->ai->Prop}(a:rY d y (u ()) a4 a2 l):rY d y (release V b>>=u) a4 a2 l:=.sf<|toI<|jb a
theorem zs(a:a4 [] l):rY d y (ef []) a4 a2 l:=.sF a
theorem yF(a:rY d y c (λk b=>rY d y (ef O) (λV e=>a4 (k::V) e) a2 b) a2 l):rY d y (ef<|(false,c)::O) a4 a2 l:=by
 rw[ef];refine a.wr λk b f=>?_;simp only[mn,if_false];exact .sf<|.sF<|rY.tD f|>.wr λV e g=>.sF g
theorem A8(a:rY d y (bz (.Name c s) o) (λu b=>rY d y (hq b6 u [] (dd b6<|dj e o) []) a4 a2 b) a2 l):rY d y (bz (.Call (.Name c s) e [] b6) o) a4 a2 l:=.sf a
theorem Ae(a:rY d y (ef<|(false,c)::O) (λV Y=>a4 ⟨V,[]⟩ Y) a2 l):rY d y (evalArgs u true ((false,c)::O) []) a4 a2 l:=a.wr λV Y a3=>.sf<|.sF<|.tD<|.sf<|.sF<|.sf<|.sF<|.sF a3
theorem Cg(a:a4 ⟨[],[]⟩ l):rY d y (evalArgs u true [] []) a4 a2 l:=.sf<|zs<|.sf<|.sF<|.tD<|.sf<|.sF<|.sf<|.sF<|.sF a
theorem xG{a1:ba->Prop}(o:k.any (·.1)=false) (p:∀a,a1 a->∃i,(i=Keeper.frame\/i=Keeper.machine\/i=qL)/\bo d a (keeperOf u) i) (a:rY d y (evalArgs u true k []) (λb c=>a1 c.heap/\rY d y (aw u (g++b.pos) b.kw) a4 a2 c) a2 l):rY d y (hq b6 u g k []) a4 a2 l:=by
 refine(rY.tD a).wr λb c f=>.tz<|sh (p _ f.1) λi t U=>?_;have e:(k.any (·.1)||([]:List (Option aj×au ab)).any (·.1.isNone))=false:=by refine J o ?_;rfl
 rw[e];refine .sf<|toI<|U.here ?_;have j:∀{n:au ab},rY d y n a4 a2 c->rY d y (n>>=λq=>gm [q] point>>=λ_=>ay q) a4 a2 c:=λv=>v.wr λq A w=>.sf<|.tD<|toI<|wpAny_point<|.sF w;have m x:rY d y (callMarked x u (g++b.pos) b.kw) a4 a2 c:=by
  unfold callMarked;intro z s r h;rw[Sem.wp_keep];exact f.2 z s r h
 rcases t with rfl|rfl|rfl
 ·exact .Ce (λ_=>j f.2) λ_=>j<|m _
 ·exact j f.2
 ·exact .Ce (λ_=>j f.2) λ_=>j<|m _
end I
end
section
variable{d:es} {y:bj} {a2:ab->ai->Prop} {l:ai} {o:cj}
namespace I
def yh(d:es)(y:bj)(a2:ab->ai->Prop)(e:Option (ab->au Unit))(a4:ab->ai->Prop)(V:ab)(X:al)(q:cs)(Y:ai):Prop:=match q,e with
 |.ok _,none=>∃A,Y.heap.Ns X A/\∀a3 a7,a3.Ns X a7->cf X Y.heap a3->a4 V {Y with heap:=a3}
 |.ok _,D z=>rY d y (z V) (λ_ a=>∃A,a.heap.Ns X A/\∀a3 a7,a3.Ns X a7->cf X a.heap a3->a4 .none {a with heap:=a3}) a2 Y
 |.error c,_=>∃A,Y.heap.Ns X A/\∀a3 a7,a3.Ns X a7->cf X Y.heap a3->∀b:cj,b.locals=X->b.frame=o.frame->ap d y (mo "comprehension.variables-let-go" c b:au ab) (λ_ _=>False) a2 {Y with heap:=a3}
theorem IT{a0:Type}{h:Prop}[Decidable h]{b6:bp}{i:PUnit->au a0}{a4:a0->ai->Prop}(a:rY d y (i ()) a4 a2 l):rY d y (if h then(hd b6>>=i)else i ()) a4 a2 l:=by
 split
 ·exact .tz a
 ·exact a
theorem Ep (O:clausesOf e=x::a9)(P:∀c,mp x.iter o c=ay c)(R:closureFor a5 o=ay s)(p:a5.kind=.function)(T:∀c∈a5.names,c.2=.local->a5.names.lookup c.1=D .local) (a:rY d y g (λc E=>rY d y (gn c) (λb7 L=>rY d y U (λV M=>rY d y (kk a5 o.globals s [] o.qual none .none<|D o) (λb N=>b.frame=o.frame/\sV d y (.compStart e 0 b7 V {b with scope:=gp a5 o}) (yh (o:=o) d y a2 r a4 V b.locals) N) a2 M) a2 L) a2 E) a2 l): rY d y (qM e a5 o b6 U false g r) a4 a2 l:=by
 unfold qM;refine R▸O▸?_;refine a.wr λc E W=>.tz<|.sf<|.IR (P c) ?_;refine(rY.tD W).wr λb7 L X=>IT<|X.wr λV M a0=>.sf<|.sF<|a0.wr λb N t=>?_;obtain⟨a1,t⟩:=t;dsimp only;have m:∀c∈(a5.names.filter λc=>(c.2==.local||c.2==.cell)&&c.1 !=(".0" :aj)).reverse,c.2=.local->Env.kindOf {b with scope:=gp a5 o} c.1=D .local:=λc v n=>lookup_relabel_local<|T c (List.mem_filter.mp<|List.mem_reverse.mp v).1 n;have a6:∀c∈(a5.names.filter λc=>(c.2==.local||c.2==.cell)&&c.1 !=(".0" :aj)).reverse.drop 1++(a5.names.filter λc=>(c.2==.local||c.2==.cell)&&c.1 !=(".0" :aj)).reverse.take 1,c.2=.local->Env.kindOf {b with scope:=gp a5 o} c.1=D .local:=λc v n=>(List.mem_append.mp v).elim (λS=>m c (kl S) n) λS=>m c (he S) n;refine .tD<|.sf<|.En<|.tD<|rY.Cf (t.aQ λq Y f=>?_) B;cases q with
 |ok u=>
  cases r with
  |none=>
   obtain⟨A,h,f⟩:=f;exact .sf<|.tD<|toI<|oj (cenv:={b with scope:=gp a5 o}) p _ Y A m h λa3 a7 i j=>.sF<|f a3 a7 i j
  |some z=>
   refine .sf<|toI<|fa<|(rY.tD f).wr λ_ a8 k=>?_;obtain⟨A,h,k⟩:=k;exact .sf<|toI<|oj (cenv:={b with scope:=gp a5 o}) p _ a8 A a6 h λa3 a7 i j=>.sF<|k a3 a7 i j
 |error c=>
  have k:∃A,Y.heap.Ns b.locals A/\∀a3 a7,a3.Ns b.locals a7->cf b.locals Y.heap a3->∀w:cj,w.locals=b.locals->w.frame=o.frame->ap d y (mo "comprehension.variables-let-go" c w:au ab) (λ_ _=>False) a2 {Y with heap:=a3}:=by
   cases r<;>exact f
  obtain⟨A,h,f⟩:=k;exact .sf<|.tD<|toI<|oj (cenv:={b with scope:=gp a5 o}) p _ Y A m h λa3 a7 i j=>(toI<|f a3 a7 i j _ B a1).uE λ_ _ u=>u.elim
end I
end
section
variable{T:jc} {v:co} {y:bj} {P:cs->ai->Prop} {l:ai} {o:cj}
abbrev ui(d:es)(y:bj)(o:cj)(a2:ab->ai->Prop)(e:ab)(l:ai):Prop:=rY d y (fb e o) (λ_ Y=>rY d y (ia e) (λ_ a=>a2 e a) a2 Y) a2 l
theorem I.IU (b:sV (aq T v) y (.compLoop (.ListComp j (⟨i,U,d,0⟩::O) a5 b6) 0 b7 V o) P l) (a:ap (aq T v) y (gn b7) (λc Y=>c=b7/\Y=l) (λ_ _=>False) l): sV (aq T v) y (.compStart (.ListComp j (⟨i,U,d,0⟩::O) a5 b6) 0 b7 V o) P l:=by
 refine sV.cI<|.wG<|.sf<|toI<|ol<|.Ce (λ_=>?_) λ_=>?_
 ·first
   |exact .sF ⟨B,B,b⟩
   |exact .bind<|.ret<|.ret<|tG rfl rfl b
 ·refine .sf<|toI<|fa ?_;refine .tz<|.sf<|toI<|wpAny_mono a (λc Y f=>?_) λ_ _ f=>f.elim;obtain⟨rfl,rfl⟩:=f;exact .sF<|tG B B b
theorem I.IV{j i U:ag}{a5:cy}{b6:bp}{b7 V:ab}(W:Nat->ai->Prop) (p:∀t l,W t l->rY (aq T v) y (gq b7) (λq b=>match q with
   |none=>P (.ok .next) b
   |some k=>rY (aq T v) y (km i b7 k) (λ_ b=>rY (aq T v) y (fc i o k) (λ_ h=>rY (aq T v) y (bz j o) (λc m=>rY (aq T v) y (aw (.builtin "list.append") [V,c]) (λ_ n=>∃A,A<t/\W A n) (ui (aq T v) y o λe Y=>P (.error e) Y) m) (ui (aq T v) y o λe Y=>P (.error e) Y) h) (ui (aq T v) y o λe Y=>P (.error e) Y) b) (ui (aq T v) y o λe Y=>P (.error e) Y) b)
    (ui (aq T v) y o λe Y=>P (.error e) Y) l)
  (t:Nat)(a:W t l):sV (aq T v) y (.compLoop (.ListComp j [⟨i,U,[],0⟩] a5 b6) 0 b7 V o) P l:=by
 refine sV.hY B B W (λt l r=>?_) t a;refine .wG<|J (compTurn_list1 ..) ?_;have d:∀e Y,ui (aq T v) y o (λe Y=>P (.error e) Y) e Y->rY (aq T v) y (do fb e o;ia e) (λ_ s=>P (.error e) s) (λe Y=>P (.error e) Y) Y:=λe Y f=>.sf f;refine .tz<|.sf<|(p t l r).tr (λq b g=>?_) d;cases q with
 |none=>exact .sF g
 |some k=>
  refine .sf<|rY.tr g (λ_ b g=>.sf<|rY.tr g (λ_ h u=>.sf<|.sf<|rY.tr u (λc m w=>.sf<|rY.tr w (λ_ n x=>.sF<|.sF ⟨B,x⟩) d) d) d) d
end
section
variable{T:jc} {v:co} {y:bj} {P:cs->ai->Prop} {l:ai} {o:cj}
abbrev A9(W:Nat->ai->Prop)(P:cs->ai->Prop)(t:Nat)(u:dc)(l:ai):Prop:=match u with
 |.next|.cont=>∃A,A<t/\W A l
 |.brk=>P (.ok .next) l
 |.ret k=>P (.ok<|.ret k) l
theorem I.IW(a:rY (aq T v) y (du a1 o) (λu Y=>P (.ok u) Y) (ui (aq T v) y o λe Y=>P (.error e) Y) l):sV (aq T v) y (.block a1 o) P l:=by
 exact sV.cI<|.sf<|.wG<|a.tr (λu Y f=>.sF f) λe Y f=>.sf f
theorem I.IX(W:Nat->ai->Prop) (m:∀t l,W t l->rY (aq T v) y (isTrue j o<|bz j o) (λg d=>if g then rY (aq T v) y (du b' o) (A9 W P t) (ui (aq T v) y o λe Y=>P (.error e) Y) d
    else rY (aq T v) y (du n o) (λu h=>P (.ok u) h) (ui (aq T v) y o λe Y=>P (.error e) Y) d)
    (ui (aq T v) y o λe Y=>P (.error e) Y) l)
  (t:Nat)(a:W t l):sV (aq T v) y (.whileLoop j b' n o) P l:=by
 refine sV.hY B B W (λt l p=>?_) t a;refine .wG ?_;have i:∀e Y,ui (aq T v) y o (λe Y=>P (.error e) Y) e Y->rY (aq T v) y (do fb e o;ia e) (λ_ q=>P (.error e) q) (λe Y=>P (.error e) Y) Y:=λe Y f=>.sf f;simp only[whileTurn];refine .sf<|(m t l p).tr (λg d c=>?_) i;cases g with
 |false=>
  simp only[mn,if_false]at c⊢;exact .sf<|c.tr (λu h b=>.sF b) i
 |true=>
  simp only[if_true]at c⊢;refine .sf<|c.tr (λu h b=>?_) i;cases u with
  |next=>exact .sF ⟨B,b⟩
  |cont=>exact .sF ⟨B,b⟩
  |brk=>exact .sF b
  |ret k=>exact .sF b
theorem I.IY{i:ag}{b7:ab}{b':List be}(W:Nat->ai->Prop) (p:∀t l,W t l->rY (aq T v) y (gq b7) (λq b=>match q with
   |none=>P (.ok .next) b
   |some k=>rY (aq T v) y (km i b7 k) (λ_ b=>rY (aq T v) y (fc i o k) (λ_ m=>rY (aq T v) y (du b' o) (A9 W P t) (ui (aq T v) y o λe Y=>P (.error e) Y) m) (ui (aq T v) y o λe Y=>P (.error e) Y) b) (ui (aq T v) y o λe Y=>P (.error e) Y) b) (λ_ _=>False) l)
  (t:Nat)(a:W t l):sV (aq T v) y (.forLoop i b7 b' [] o) P l:=by
 induction t using Nat.strongRecOn generalizing l with
 |ind t n=>
  refine sV.cI<|.wG ?_;have g:∀e Y,ui (aq T v) y o (λe Y=>P (.error e) Y) e Y->rY (aq T v) y (do fb e o;ia e) (λ_ r=>P (.error e) r) (λe Y=>P (.error e) Y) Y:=λe Y f=>.sf f;simp only[forTurn];refine .tz<|.sf<|.wG<|(p t l a).tr (λq b c=>?_) λ_ _ f=>f.elim;cases q with
  |none=>
   refine .sF ⟨B,B,I.IW ?_⟩;exact toI<|kn c
  |some k=>
   refine .sf<|rY.tr c (λ_ b c=>.sf<|rY.tr c (λ_ m s=>.sf<|rY.tr s (λu w d=>?_) g) g) g;cases u with
   |next=>obtain⟨A,h,j⟩:=d;exact .sF ⟨B,B,n A h j⟩
   |cont=>obtain⟨A,h,j⟩:=d;exact .sF ⟨B,B,n A h j⟩
   |brk=>exact .sF d
   |ret k=>exact .sF d
noncomputable def Af(o:cj)(e:ab):au Unit:=do
 if(<-field e 1)==.none then unsupported "frame.own-activation:exception-without-traceback"
 hr e o.frame
theorem I.IZ{h:db}{a4:dc->ai->Prop}{a2:ab->ai->Prop}{d:es}(a8:xl h=false) (a:sV d y h (λq Y=>match q with|.ok u=>a4 u Y|.error e=>ap d y (Af o e) (λ_ b=>a2 e b) (λ_ _=>False) Y) l):rY d y (om h o) a4 a2 l:=by
 refine .wG<|.Cf (a.aQ λq Y f=>?_) a8;cases q with
 |ok u=>exact f
 |error e=>exact(toI f).tr (λ_ _ f=>f) λ_ _ f=>f.elim
end
noncomputable abbrev Ch:Ctx:=⟨.builtin "claim.caller" {},none,none,[],none⟩
theorem I0:Cd Ch:=⟨by decide+kernel,λc a=>by cases a⟩
theorem Ci{a1:Prop}(a:∀b':Prop,(a1->b') ->b'):a1:=a a1 id
def Er(m:jc)(p:List aj)(h:(aj->Option ab) ->ba->Prop)(o:co->ba->Prop)(q:RowW)(N:DefRec)(r:List (aj×ag)):Prop:=∀(v:co) (c a:ai) (f a8:aj->Option ab),Ground m p q.records h v c f a8 a.heap->o v c.heap->∀(b:al) (j:Obj) (s i t l n:ab),a.heap.get? b=D j-> j.data=.func {docDef N.name N.params N.body N.scope s i t with defaults:=l,kwdefaults:=n} ->a.heap.CodeRec i N.name->Dflts f a.heap N.params r l n->f N.name=D (.ref b) -> ∀(d:List WData) (g:List ab) (R:List al),q.claim.pre d=true->Laid q.records v c a d g R-> rY (aq q.prog v) jd (aw (.ref b) g) (λk Y=>GoodWG q.claim (classAt c.heap) (mq c.heap) d a (.ok<|.ret k) Y) (λe Y=>GoodWG q.claim (classAt c.heap) (mq c.heap) d a (.error e) Y) a
theorem I1{P:cs->ai->Prop}(f:l.asleep) (a:rY (aq T v) jd n (λc Y=>∃u,c=.done u/\P (.ok u) Y/\AllBare Y.gens) (λe Y=>P (.error e) Y/\AllBare Y.gens) l): ∃t q Y d,schedN (denote fd) T v t (.single l ⟨n,.builtin "claim.caller" {},default,[]⟩)=.halted (outcomeOf q) Y/\runN (denote fd) T v t l ⟨n,.builtin "claim.caller" {},default,[]⟩=.halted (outcomeOf q) Y/\Y.forget=d.forget/\P q d:=by
 have p:=wp_halts_full (M:=aq T v) (R:=P) (c:=.builtin "claim.caller" {}) (t:=n) (p:=default) f ?_
 ·obtain⟨t,q,i,j,b,g,h,N⟩:=p;exact⟨t,q,j,i,b,g,h,N⟩
 refine kj (aq T v) Ch n (λc M Y a3=>?_) (λe M Y a3=>?_) default l<|a Ch default caller_in I0
 ·refine tp a3 λu k S m=>?_;subst k;exact⟨S,qN m⟩
 ·exact⟨a3.1,qN a3.2⟩
theorem I2{b:aj}(a:t∈if h=true then[b]else[]):t=b:=by
 cases h with
 |true=>exact List.mem_singleton.mp a
 |false=>exact absurd a fe
theorem I3{q:OpenRow}{i:ai->a0}{s:co->a0} (a':LeftO q.prog m p n i s b7)(c3:∀v l,i l=s v->c4 v l.heap) (b0:∀l,n l=true->h (l.heap.nsMap cb) l.heap)(c5:∀A a a3,h A a->(∀g j,a.get? g=D j->a3.get? g=D j) ->h A a3) (E:defOf m q.name=D (N,b1))(c6:q.prog.theDef q.name=D (N.params,N.body,N.scope))(c7:kwWritten? N.params.kwonlyargs N.params.kw_defaults=D b1)(c8:∀l,n l=true->RecFacts q.records l.heap)(c9:(!q.writes||q.records.isEmpty)=true) (c':q.wellSaid=true)(d0:(chainsOk m&&opensWell q.prog&&(frees q.toRowW&&q.within.isEmpty))=true)(a7:q.prog.bare)(b2:q.toRowW.promised) (d1:Er m p h c4 q.toRowW N b1):q.Holds:=by
 refine tG c' b2<|?_;refine Ci λh3 d2=>?_;obtain⟨P,o⟩:=Bool.and_eq_true_iff.mp d0;obtain⟨b3,P⟩:=Bool.and_eq_true_iff.mp P;obtain⟨d3,d4⟩:=Bool.and_eq_true_iff.mp o;refine Ek (frees_parts d3) λd5 d6 d7 d8 d9=>?_;refine d2 ?_;refine tG ⟨a7,P,by show q.makers.map _=[];refine ae (G _ d9) ?_;rfl⟩ b2.witness<|λv=>⟨(a'.behind b0 b3 v).1,λY d'=>?_⟩
 refine Ci λh4 e0=>?_;refine tp ((a'.behind (XP:=λA a=>h A a/\RecFacts q.records a) (λl b4=>⟨b0 l b4,c8 l b4⟩) b3 v).2 Y d') λe1 e2 e3 e4=>?_;refine IL e4 λl b5 e5 L b6 w M=>?_;have b8:Ground m p [] h v l (l.heap.nsMap cb) (l.heap.nsMap ff) l.heap:=⟨w.T,w.B,w.D,w.TE,w.TD,w.W,w.X.1,w.cls,w.has,w.apart,w.once,w.K⟩
 have T:=w.X.2;have L:l.gens=#[]:=Array.eq_empty_of_size_eq_zero<|beq_iff_eq.mp L;have b':=T.ground b8;refine e0 ?_;refine tv e1 e2 e3<|A5 l b5 (λt e6=>?_) T.1 T.2.1<|λy b9 e7 d c0=>?_
 ·obtain rfl:t=q.name:=I2 e6;exact pinned_of_view b6 b8 E c6 c7
 refine Ci λh5 e8=>?_;refine bk (Option.isSome_iff_exists.mp<|layAllW_isSome (P:=v.params) (ord:=d) b'.has y q.args l (pre_splitW b9).1) λe9 z=>?_;obtain⟨V,x⟩:=e9;have W:=layAllW_keeps _ _ _ z;have O:=layAllW_rest _ _ _ z;refine tp (reads_layAllW c0 _ _ _ z e7 x.heap<|λ_ _ e=>e) λR e' f0 f1=>?_;have U:Laid q.records v l x y V R:=⟨(sn d c0 z),e',f0,f1,W,O.1.trans L,O.2.2.1⟩
 have X:=b'.keeps c5 W;obtain⟨b,j,f2,f3,f4,f5,f6,S,f7,f8,f9,f'⟩:=X.fn E;have g0:=ident_freeW d6 d7 d8;have g1:=List.isEmpty_iff.mp d4;have g2:=b5;let g3:List ab->au Fin:=λV=>do match<-nsGet mainNs q.name with
   |some u=>do ret (<-aw u V)
   |none=>unsupported "claim.caller:no-such-global"
 have g4:rY (aq q.prog v) jd (g3 V) (λg5 Y=>∃u,g5=.done u/\GoodWG q.claim (classAt l.heap) (mq l.heap) y x (.ok u) Y/\AllBare Y.gens) (λe Y=>GoodWG q.claim (classAt l.heap) (mq l.heap) y x (.error e) Y/\AllBare Y.gens) x:=by
  refine rY.sf<|toI<|wpAny_nsGet X.T.g ?_;refine(J (defOf_name E) S:l.heap.nsMap cb q.name=D (.ref b))▸?_;exact rY.sf<|(d1 v l x _ _ X (c3 v l M) b j f2 f3 f4 f5 f6 f7 f8 f9 f' (defOf_name E▸S) y V R b9 U).tr (λk Y f=>rY.sF<|tv _ B f f.2.2.2) λe Y f=>⟨f,f.2.2.2⟩
 obtain⟨t,h6,Y,h7,g6,g7,g8,c1⟩:=I1 (Shared.asleep_of_life O.2.2.2 e5) g4;refine Ek (Shared.forget_eq g8) λc2 v v g9 v=>?_;have f:=c1.laid (c:=q.claim) d5 g1 g0 U;have g':=f.1.congr c2;have a1:=f.2.1;have a1:=g9▸a1;have h0:(q.writes=true->namesKept q.toRowW.prog q.keeps l.heap Y.heap/\∀c∈q.records,∀b,classAt l.heap c.1=D b->recordClass Y.heap b c.1 (c.2.map (·.1))=true):=λm=>by
  exact c2▸⟨namesKept_of g2 b6 q.keeps W c1.2.1.old,noTable c9 m⟩
 refine e8 ?_;refine⟨V,x,z,t,_,Y,g6,?_,(λ_ r c a2=>by have a2:=L▸a2;simp at a2),h0,by exact G _<|(runN_life _ _ _ g7).trans O.2.2.2,Shared.rest_eq a1⟩;rcases g' with⟨k,rfl,a4,a5,a6,a8,a9⟩|⟨e,h1,h2,rfl,a4,a5,a6,a8,a9⟩
 ·exact .inl<|IM k B a4 a5 a6 (λg j M _=>a8 g j M) a9
 ·exact .inr ⟨e,h1,h2,B,a4,a5,a6,a8,λg j M _=>a9 g j M⟩
section
open PySem.Challenge
theorem I4(n:Thread):through n=(endAt 0 n).isSome:=by
 obtain⟨a,c,b6,b⟩:=n;cases b with
 |nil=>
  cases a with
  |pure M=>cases M<;>rfl
  |_=>rfl
 |cons=>rfl
theorem I5:∀{t:Nat} {l Y:ai} {n:Thread} {u:dc} {h:db} {m:bp},segRun b s v d g 0 t l n=D (u,Y,h,m) ->topRun b s v d g t l n=D Y:=by
 intro t;induction t with
 |zero=>
  exact @λ_ _ _ _ _ _ a=>sq a
 |succ t p=>
  exact @λl Y n u h m a=>by
   have e:=I4 n;unfold segRun at a
   unfold topRun;cases i:endAt 0 n with
   |some c=>
    rw[i]at a e;refine J e ?_;exact G (λf=>D f.2.1)<|ak a
   |none=>
    rw[i]at a e;refine e▸?_;cases k:stepOk d g n with
    |false=>have a:=k▸a;exact sq a
    |true=>
     have a:=k▸a;cases o:step (denote b) s v l n with
     |halt j q=>have a:=o▸a;exact sq a
     |go q r=>exact p<|o▸a
theorem I6{b3:Params->ba}{b0:Params->BT} (k:∀v:co,cx (λl=>(l.heap,l.gens,l.drawn,l.toks)) (fencedOpening hf s v b7)=D (b3 v.params,#[],N,i)) (r:∀a1,absHeap (b0 a1) d f=b3 a1) (t:∀a1,((b3 a1).isNs cb,(b3 a1).objs.size,(b3 a1).nsMap cb "__annotations__")=(true,A,w)) (g:ko s.main.body=[]) (x:∀(v:co) (o:de),(ib hf s v A w 0 b7 ⟨b0 v.params,d,f,#[],N,i,o⟩<|fs s).map (λq=>((kp [] (b3 v.params) q.2.1.abs.heap&&kq s q.2.1.abs.heap&&kr q.2.1.abs&&ks (b3 v.params) q.2.1.abs.heap),openSeen m p [] (λ_=>true) true q.2.1.abs,j q.2.1.abs))=D (true,openGood m p,true)): LeftO s m p (λ_=>true) j (λ_=>true) b7:=λv=>by
 refine sh (Option.map_eq_some_iff.mp<|k v) λc e c0=>?_;obtain⟨a,y,b,a6,o⟩:=c;obtain⟨rfl,rfl,rfl,rfl⟩:a=b3 v.params/\y=#[]/\b=N/\a6=i:=by simpa using c0
 refine sh (Option.map_eq_some_iff.mp<|x v o) λc z E=>?_;obtain⟨u,Y,h,V⟩:=c;obtain⟨L,M,O⟩:_/\_/\_:=by simpa only[on]using E
 have P:=segRun_of z;have R:(⟨b0 v.params,d,f,#[],b,a6,o⟩:ft).abs=⟨b3 v.params,#[],b,a6,o⟩:=by
  exact sa (r ..) B
 have q:=I5<|R▸P;obtain⟨S,T,U⟩:_/\_/\_:=by simpa only[on]using t v.params
 have n:topFrom hf s v b7 ⟨b3 v.params,#[],b,a6,o⟩=D Y.abs:=by
  unfold topFrom;refine S▸T▸U▸(az q)▸?_;refine(?_:(match kp (ko s.main.body) (b3 v.params) Y.abs.heap&&kq s Y.abs.heap&&kr Y.abs&&ks (b3 v.params) Y.abs.heap with|true=>_|false=>_)=_);exact J g<|L▸B
 unfold openEnds;refine e▸(ae (G _ n)<|(?_:D (openSeen m p (ko s.main.body) (λ_=>true) true Y.abs,j Y.abs)=_));exact J g<|J M<|G _<|G _ O
end
end
section
inductive rN:Type where
 |e
 |d (g:Bool)
 |i (r:Int)
 |f (l:List Nat)
 |m (g:List Int)
 |c (U:List rN)
 |j (U:List rN)
 |o (b g h:Int)
 |s (h:Nat) (a5:List (Nat×rN))
 |p (W:List (Int×rN))
 |b (a:Nat)
noncomputable def H(b:Nat):rN:=.i (b:Int)
set_option genInjectivity false in
inductive sC:Type where
 |sr (U:List rN)
 |sW (h:Nat) (a5:List (Nat×rN))
 |tw (W:List (Int×rN))
 |tH (g:List Int)
set_option genInjectivity false in
inductive sm:Type where
 |rT
 |rL (k:rN)
 |sl (j:sC)
abbrev rR:=List sC
abbrev sg:=List sm
inductive uh(a0:Type):Type where
 |a (b:a0)
 |b (h:Nat)
abbrev rQ(a0:Type):=Option<|uh a0×rR
noncomputable abbrev sv{a0:Type}(b:a0)(d:rR):rQ a0:=D (.a b,d)
noncomputable abbrev I7{a0:Type}(h:Nat)(d:rR):rQ a0:=D (.b h,d)
set_option genInjectivity false
inductive sT:Type where
 |a|d|b|h|f|j|i|g|c|e|k
inductive tM:Type where
 |b|e|d|h|c|a|f|i|g
inductive ue:Type where
 |a|b|e|k|f|h|c|i|g|j|l|d
inductive tE:Type where
 |a|c|b
inductive xH:Type where
 |b (b:Nat)|c|e|f|a|d|g
inductive xI:Type where
 |a (j:sT)|b (j:tM)|c|e|d|f
inductive zt:Type where
 |a|c|b
inductive Q:Type where
 |n
 |c (e W:Q)
 |d (a:rN)
 |l (c:Nat) (a:rN)
 |a (r:Nat)
 |r (j:xH) (e:Q)
 |u (j:xI) (b g:Q)
 |A (j:zt) (b g d:Q)
 |x (r:Nat) (b:Nat)
 |w (b X:Q)
 |p (j:tM) (e X:Q)
 |v (d:Bool) (W:Q)
 |s (n b g:Q)
 |E (c:Nat) (r:Q)
 |z
 |q (W:Q)
 |m (W:Q)
 |i (u:Nat) (W:Q)
 |f (A:Nat) (e:Q) (W:Q)
 |t (d:Nat) (W:Q)
 |k (g:ue) (W:Q)
 |y (c:Nat)
 |C (c:Nat)
 |F (c:Nat) (i N:Q)
 |I (W:Q)
 |L
 |o (U:List Nat) (q:Bool) (S:List Nat) (b7 b':Q)
 |M
abbrev rX:=Q
noncomputable abbrev rX.n:Q:=.n
noncomputable abbrev rX.c(e W:Q):Q:=.c e W
inductive uj:Type where
 |a (l:List Nat)
 |b (r:Nat) (l:List Nat)
inductive sp:Type where
 |n
 |c (l a1:sp)
 |u (L:List Nat) (g u:sp)
 |e (e:Q)
 |a (c:Nat) (e:Q)
 |g (j:Q) (b:Nat) (e:Q)
 |i (c:Nat) (b:Nat) (e:Q)
 |m (j r e:Q)
 |v (c:Nat) (r e:Q)
 |p (U:List Nat) (e:Q)
 |k (U:List Nat) (a':List (Option tE)) (W:Q)
 |w (c:Nat) (a0:List Int) (e:Q)
 |o (c:Nat) (i:tE)
 |x (c:Nat) (e t:Q)
 |F (c:Nat) (W:Q)
 |t (c:Nat)
 |q (c:Nat) (e:Q)
 |y (c:Nat) (e:Q)
 |l (a:sT) (c:Nat) (e:Q)
 |A (a:sT) (j:Q) (b:Nat) (e:Q)
 |b (n:Q) (b g:sp)
 |r (t:Nat) (n:Q) (g:sp)
 |h (U:List Nat) (E:Bool) (b7:Q) (g:sp)
 |d (e:Q)
 |s (c:Nat)
 |j (h:Nat) (b:uj)
 |C
 |z (g:sp) (u:sp)
 |E
 |f
abbrev r_:=sp
abbrev xm:=sp
noncomputable abbrev r_.n:sp:=.n
noncomputable abbrev r_.c(l a1:sp):sp:=.c l a1
noncomputable abbrev xm.n:sp:=.n
noncomputable abbrev xm.c(L:List Nat)(g a:sp):sp:=.u L g a
noncomputable abbrev Q.bC(W:Q):Q:=.v false W
noncomputable abbrev Q.bL(W:Q):Q:=.v true W
noncomputable abbrev Q.aB(j:sT)(b g:Q):Q:=.u (.a j) b g
noncomputable abbrev Q.aG(j:tM)(b g:Q):Q:=.u (.b j) b g
noncomputable abbrev Q.aP(b g:Q):Q:=.u .c b g
noncomputable abbrev Q.hF(b g:Q):Q:=.u .e b g
noncomputable abbrev Q.hG(b g:Q):Q:=.u .d b g
noncomputable abbrev Q.dJ(b g:Q):Q:=.u .f b g
noncomputable abbrev Q.aD(e:Q)(b:Nat):Q:=.r (.b b) e
noncomputable abbrev Q.eP(e:Q):Q:=.r .c e
noncomputable abbrev Q.bW(e:Q):Q:=.r .e e
noncomputable abbrev Q.bA(e:Q):Q:=.r .f e
noncomputable abbrev Q.eA(e:Q):Q:=.r .a e
noncomputable abbrev Q.iP(e:Q):Q:=.r .d e
noncomputable abbrev Q.fX(e:Q):Q:=.r .g e
noncomputable abbrev Q.cL(b g h:Q):Q:=.A .a b g h
noncomputable abbrev Q.eO(b g h:Q):Q:=.A .c b g h
noncomputable abbrev Q.iQ(b g h:Q):Q:=.A .b b g h
structure sx where
 a:Nat
 e:Nat
 b:List rN:=[]
 c:Bool:=false
 d:r_
structure I8 where
 c:Nat->Nat->Option Nat
 b:Nat->Option Nat
 e:Nat->Bool
 d:Nat->Nat->Bool
 a:Nat->Nat->Bool
noncomputable def tV{a0:Type}(i:Nat):List (Nat×a0) ->Option a0
 |[]=>none
 |(L,k)::q=>if i=L then D k else tV i q
end
def I9:r_:=(.c (.b (.bA<|.w (.d<|H 4)<|.p .e (.a 1)<|.p .e (.d<|H 12) .n) (.c .f .n) .n)<|.c (.i 0 56<|.a 1)<|.c (.i 0 57<|.aB .d (.a 1)<|.d<|H 2)<|.c (.i 0 58<|.aB .i (.d<|H 1)<|.a 1)<|.c (.i 0 59<|.aB .i (.d<|H 1)<|.x 0 57)<|.c (.i 0 60<|.aB .b (.x 0 58)<|.x 0 59)<|.c (.i 0 6<|.aB .b (.x 0 60)<|.x 0 59) .n)
def I':sx:={a:=2,e:=2,b:=[(H 12)],c:=true,d:=I9}
def I_:r_:=(.c (.b (.bA<|.w (.d<|H 0)<|.p .e (.a 1)<|.p .b (.aD (.a 0) 6) .n) (.c .f .n) .n)<|.c (.a 2<|.aB .g (.a 1)<|.aD (.a 0) 56)<|.c (.d<|.q<|.c (.aB .g (.a 2)<|.aD (.a 0) 57)<|.c (.aB .c (.a 2)<|.aB .d (.aD (.a 0) 59)<|.d<|H 1)<|.c (.aB .c (.a 1)<|.aB .d (.aD (.a 0) 58)<|.d<|H 1) .n) .n)
def Ja:sx:={a:=2,e:=3,b:=[],c:=false,d:=I_}
def Jb:r_:=(.c (.d<|.aB .e (.aB .i (.aB .e (.aB .i (.a 1)<|.aD (.a 0) 57)<|.a 2)<|.aD (.a 0) 56)<|.a 3) .n)
def Jc:sx:={a:=4,e:=4,b:=[(H 0)],c:=false,d:=Jb}
def Jd:r_:=(.c (.d<|.aB .c (.a 1)<|.eP<|.aB .d (.aD (.a 0) 58)<|.d<|H 1) .n)
def Je:sx:={a:=2,e:=2,b:=[],c:=false,d:=Jd}
def Jf:r_:=(.c (.d<|.f 5 (.a 0)<|.c (.aB .d (.aB .a (.a 1)<|.aD (.a 0) 58)<|.d<|H 1) .n) .n)
def Jg:sx:={a:=2,e:=2,b:=[],c:=false,d:=Jf}
def Jh:r_:=(.c (.d<|.s (.aG .b (.a 1)<|.a 2) (.k .e<|.c (.k .c<|.c (.f 5 (.a 0)<|.c (.a 1) .n)<|.c (.a 2)<|.c (.aD (.a 0) 58) .n) .n)<|.m .n) .n)
def Ji:sx:={a:=3,e:=3,b:=[],c:=false,d:=Jh}
def Jj:r_:=(.c (.d<|.aB .e (.aB .i (.aB .g (.a 1)<|.aD (.a 0) 56)<|.l 61<|H 10)<|.a 2) .n)
def Jk:sx:={a:=3,e:=3,b:=[],c:=false,d:=Jj}
def Jl:r_:=(.c (.d<|.aB .i (.aB .g (.a 1)<|.l 61<|H 10)<|.aD (.a 0) 56) .n)
def Jm:sx:={a:=2,e:=2,b:=[],c:=false,d:=Jl}
def Jn:r_:=(.c (.i 0 2<|.a 1)<|.c (.i 0 62<|.k .b<|.c (.a 2) .n)<|.c (.i 0 63<|.s (.aG .f (.a 3)<|.d .e) (.k .a<|.c (.x 0 62) .n)<|.a 3)<|.c (.i 0 64<|.a 4)<|.c (.b (.bL<|.c (.aG .b (.x 0 63)<|.k .a<|.c (.x 0 62) .n)<|.c (.aG .b (.a 1)<|.d<|H 0)<|.c (.aG .d (.aB .a (.a 1)<|.x 0 63)<|.l 65<|H 4294967296) .n) (.c .f .n) .n) .n)
def Jo:sx:={a:=5,e:=5,b:=[.e,(H 7)],c:=true,d:=Jn}
def Jp:r_:=(.c (.d<|.aB .a (.aD (.a 0) 2)<|.aD (.a 0) 63) .n)
def Jq:sx:={a:=1,e:=1,b:=[],c:=false,d:=Jp}
def Jr:r_:=(.c (.d<|.w (.aD (.a 0) 2)<|.p .e (.a 1)<|.p .b (.f 6 (.a 0) .n) .n) .n)
def Js:sx:={a:=2,e:=2,b:=[],c:=false,d:=Jr}
def Jt:r_:=(.c (.d<|.aG .a (.aB .c (.aD (.a 0) 64)<|.a 1)<|.d<|H 0) .n)
def Ju:sx:={a:=2,e:=2,b:=[],c:=false,d:=Jt}
def Jv:r_:=(.c (.i 0 7<|.a 1)<|.c (.i 0 66<|.k .e<|.c (.a 2) .n) .n)
def Jw:sx:={a:=3,e:=3,b:=[],c:=true,d:=Jv}
def Jx:r_:=(.c (.b (.f 18 (.a 2)<|.c (.a 1) .n) (.c (.d<|.a 2) .n) .n) .n)
def Jy:r_:=(.c (.h [2] false (.aD (.a 0) 66) Jx)<|.c .f .n)
def Jz:sx:={a:=2,e:=3,b:=[],c:=false,d:=Jy}
def JA:r_:=(.c (.i 0 62<|.k .b<|.c (.a 1) .n) .n)
def JB:sx:={a:=2,e:=2,b:=[],c:=true,d:=JA}
def JC:r_:=(.c (.b (.aG .d (.aB .a (.a 1)<|.a 2)<|.k .a<|.c (.aD (.a 0) 62) .n) (.c (.j 2<|uj.b 3 [32,98,101,121,111,110,100,32,116,104,101,32,102,105,108,101]) .n) .n)<|.c (.d<|.cL (.aD (.a 0) 62) (.a 1)<|.aB .a (.a 1)<|.a 2) .n)
def JD:sx:={a:=4,e:=4,b:=[],c:=false,d:=JC}
def Es:r_:=(.c (.a 4<|.aB .e (.aB .i (.a 4)<|.d<|H 8)<|.a 5) .n)
def JE:r_:=(.c (.a 4<|.d<|H 0)<|.c (.h [5] false (.eA<|.f 34 (.a 0)<|.c (.a 1)<|.c (.a 2)<|.c (.a 3) .n) Es)<|.c (.d<|.a 4) .n)
def JF:sx:={a:=4,e:=6,b:=[(.f [104,101,97,100,101,114])],c:=false,d:=JE}
def JG:r_:=(.c (.d<|.f 31 (.a 0)<|.c (.a 1)<|.c (.d<|H 2)<|.c (.a 2) .n) .n)
def JH:sx:={a:=3,e:=3,b:=[(.f [104,101,97,100,101,114])],c:=false,d:=JG}
def JI:r_:=(.c (.d<|.f 31 (.a 0)<|.c (.a 1)<|.c (.d<|H 4)<|.c (.a 2) .n) .n)
def JJ:sx:={a:=3,e:=3,b:=[(.f [104,101,97,100,101,114])],c:=false,d:=JI}
def JK:r_:=(.c (.d<|.o [4] false [0,1,3] (.k .c<|.c (.a 2) .n)<|.f 54 (.a 0)<|.c (.aB .a (.a 1)<|.aB .b (.d<|H 4)<|.a 4)<|.c (.a 3) .n) .n)
def JL:sx:={a:=4,e:=5,b:=[],c:=false,d:=JK}
def JM:r_:=(.c (.i 0 67<|.a 1)<|.c (.i 0 68<|.a 2)<|.c (.i 0 69<|.a 3) .n)
def JN:sx:={a:=4,e:=4,b:=[],c:=true,d:=JM}
def JO:r_:=(.c (.a 1<|.f 50 (.aD (.a 0) 69) .n)<|.c (.e<|.f 55 (.aD (.a 0) 67)<|.c (.a 1)<|.c (.aD (.aD (.a 0) 68) 58) .n)<|.c (.d<|.a 1) .n)
def JP:sx:={a:=1,e:=2,b:=[],c:=false,d:=JO}
def JQ:r_:=(.c (.a 2<|.f 35 (.aD (.a 0) 68)<|.c (.a 1) .n)<|.c (.b (.aG .f (.a 2)<|.d .e) (.c .f .n) .n)<|.c (.d<|.a 2) .n)
def JR:sx:={a:=2,e:=3,b:=[],c:=false,d:=JQ}
def JS:r_:=(.c (.p [4,5,6]<|.f 29 (.a 0)<|.c (.a 2) .n)<|.c (.a 7<|.aB .a (.a 1)<|.aB .b (.l 70<|H 4)<|.a 4)<|.c (.a 8<|.f 54 (.aD (.a 0) 67)<|.c (.a 7) .n)<|.c (.b (.aG .c (.aB .c (.a 8)<|.l 71<|H 1)<|.d<|H 0) (.c (.b (.bA<|.a 3) (.c (.d<|.d .e) .n) .n)<|.c (.a 8<|.f 7 (.aD (.a 0) 68)<|.c (.f 30 (.a 0) .n)<|.c (.l 71<|H 1) .n)<|.c (.e<|.f 42 (.aD (.a 0) 67)<|.c (.a 7)<|.c (.a 8) .n) .n)<|.c (.b (.i 76<|.c (.a 8) .n) (.c .f .n) .n) .n)<|.c (.d<|.aB .a (.f 36 (.aD (.a 0) 68)<|.c (.a 8) .n)<|.aB .b (.l 70<|H 4)<|.a 5) .n)
def JT:sx:={a:=4,e:=9,b:=[(.d false)],c:=false,d:=JS}
def Et:r_:=(.c (.a 4<|.f 54 (.aD (.a 0) 67)<|.c (.aB .a (.a 1)<|.aB .b (.l 70<|H 4)<|.a 3) .n)<|.c (.b (.bC<|.c (.aG .a (.aB .c (.a 4)<|.l 71<|H 1)<|.d<|H 0)<|.c (.bA<|.i 76<|.c (.a 4) .n) .n) (.c (.q 2<|.q<|.c (.a 3)<|.c (.f 36 (.aD (.a 0) 68)<|.c (.a 4) .n) .n) .n) .n) .n)
def JU:r_:=(.c (.o 2 tE.a)<|.c (.h [3] false (.k .c<|.c (.aD (.aD (.a 0) 68) 59) .n) Et)<|.c (.s 2) .n)
def JV:sx:={a:=2,e:=5,b:=[],c:=false,d:=JU}
def Eu:r_:=(.c (.a 4<|.f 54 (.aD (.a 0) 67)<|.c (.aB .a (.a 1)<|.aB .b (.l 70<|H 4)<|.a 3) .n)<|.c (.b (.aG .c (.aB .c (.a 4)<|.l 71<|H 1)<|.d<|H 0) (.c .E .n) .n)<|.c (.b (.i 76<|.c (.a 4) .n) (.c .f .n)<|.c (.y 2<|.f 45 (.a 0)<|.c (.f 36 (.aD (.a 0) 68)<|.c (.a 4) .n)<|.c (.a 3) .n) .n) .n)
def JW:r_:=(.c (.o 2 tE.a)<|.c (.h [3] false (.k .c<|.c (.aD (.aD (.a 0) 68) 59) .n) Eu)<|.c (.s 2) .n)
def JX:sx:={a:=2,e:=6,b:=[],c:=false,d:=JW}
def A':r_:=(.c (.a 5<|.f 54 (.aD (.a 0) 67)<|.c (.aB .a (.a 1)<|.aB .b (.l 70<|H 4)<|.a 4) .n)<|.c (.b (.aG .a (.aB .c (.a 5)<|.l 71<|H 1)<|.d<|H 0) (.c (.a 6<|.f 2 (.aD (.a 0) 68)<|.c (.a 2)<|.c (.a 4) .n)<|.c (.q 3<|.q<|.c (.a 6)<|.c (.f 36 (.aD (.a 0) 68)<|.c (.a 5) .n)<|.c (.aB .c (.a 5)<|.l 72<|H 1023)<|.c (.aD (.aD (.a 0) 68) 58) .n) .n) .n) .n)
def JY:r_:=(.c (.o 3 tE.a)<|.c (.h [4] false (.k .c<|.c (.aD (.aD (.a 0) 68) 59) .n) A')<|.c (.s 3) .n)
def JZ:sx:={a:=3,e:=7,b:=[],c:=false,d:=JY}
def Ev:r_:=(.c (.e<|.f 12 (.aD (.a 0) 69)<|.c (.a 3) .n) .n)
def J0:r_:=(.c (.h [2,3] true (.f 49 (.a 0)<|.c (.a 1) .n) Ev)<|.c (.e<|.f 12 (.aD (.a 0) 69)<|.c (.a 1) .n) .n)
def J1:sx:={a:=2,e:=4,b:=[],c:=false,d:=J0}
def J2:r_:=(.c (.i 0 73<|.a 1)<|.c (.i 0 7<|.a 2)<|.c (.i 0 74<|.a 3)<|.c (.i 0 75<|.a 4)<|.c (.i 0 43<|.a 5) .n)
def J3:sx:={a:=6,e:=6,b:=[],c:=true,d:=J2}
def J4:r_:=(.c (.e<|.i 85<|.c (.a 2)<|.c (.aB .a (.a 2)<|.a 1) .n)<|.c (.g (.a 0) 63<|.a 1)<|.c (.g (.a 0) 76<|.a 2)<|.c (.g (.a 0) 6<|.aB .a (.a 2)<|.a 1)<|.c (.g (.a 0) 77 .L) .n)
def J5:sx:={a:=3,e:=3,b:=[(H 0)],c:=false,d:=J4}
def J6:r_:=(.c (.b (.bL<|.c (.aG .b (.a 2)<|.d<|H 0)<|.c (.aG .b (.a 1)<|.aD (.a 0) 76)<|.c (.aG .d (.aB .a (.a 1)<|.a 2)<|.aD (.a 0) 6) .n) (.c .f .n) .n) .n)
def J7:sx:={a:=3,e:=3,b:=[],c:=false,d:=J6}
def J8:r_:=(.c (.b (.bL<|.c (.aG .a (.aB .f (.a 1)<|.a 2)<|.d<|H 0)<|.c (.aG .b (.a 1)<|.aD (.a 0) 76)<|.c (.aG .d (.aB .a (.a 1)<|.a 2)<|.aD (.a 0) 6) .n) (.c .f .n) .n) .n)
def J9:sx:={a:=3,e:=3,b:=[],c:=false,d:=J8}
def J':r_:=(.c (.e<|.f 25 (.a 0)<|.c (.a 1)<|.c (.d<|H 4) .n)<|.c (.d<|.eO (.aD (.a 0) 77) (.aB .g (.a 1)<|.d<|H 2)<|.d<|H 0) .n)
def J_:sx:={a:=2,e:=2,b:=[],c:=false,d:=J'}
def Ka:r_:=(.c (.e<|.f 25 (.a 0)<|.c (.a 1)<|.c (.d<|H 4) .n)<|.c (.e<|.f 20 (.a 0)<|.c (.aB .g (.a 1)<|.d<|H 2)<|.c (.aB .c (.a 2)<|.l 78<|H 4294967295) .n) .n)
def Kb:sx:={a:=3,e:=3,b:=[],c:=false,d:=Ka}
def Kc:r_:=(.c (.b (.aG .a (.a 2)<|.d<|H 0) (.c (.m (.aD (.a 0) 77) (.a 1)<|.a 2) .n)<|.c (.e<|.iQ (.aD (.a 0) 77) (.a 1)<|.d .e) .n) .n)
def Kd:sx:={a:=3,e:=3,b:=[],c:=false,d:=Kc}
def Ke:r_:=(.c (.a 4<|.aB .b (.d<|H 8)<|.aB .c (.a 1)<|.d<|H 3)<|.c (.a 5<|.aB .c (.eO (.aD (.a 0) 77) (.aB .g (.a 1)<|.d<|H 2)<|.d<|H 0)<|.eP<|.aB .i (.a 2)<|.a 4)<|.c (.e<|.f 20 (.a 0)<|.c (.aB .g (.a 1)<|.d<|H 2)<|.c (.aB .e (.a 5)<|.aB .i (.aB .c (.a 3)<|.a 2)<|.a 4) .n) .n)
def Kf:sx:={a:=4,e:=6,b:=[],c:=false,d:=Ke}
def Ew:r_:=(.c (.q 3<|.aB .c (.a 6)<|.d<|H 255)<|.c (.l .g 6<|.d<|H 8)<|.c (.l .a 4<|.d<|H 1) .n)
def Cj:r_:=(.c (.a 6<|.aB .g (.eO (.aD (.a 0) 77) (.aB .g (.a 4)<|.d<|H 2)<|.d<|H 0)<|.aB .b (.d<|H 8)<|.aB .c (.a 4)<|.d<|H 3)<|.c (.h [7] false (.k .c<|.c (.k .f<|.c (.aB .d (.d<|H 4)<|.aB .c (.a 4)<|.d<|H 3)<|.c (.aB .d (.a 5)<|.a 4) .n) .n) Ew) .n)
def Kg:r_:=(.c (.e<|.f 24 (.a 0)<|.c (.a 1)<|.c (.a 2) .n)<|.c (.k [3,4,5] [(D tE.b),none,none]<|.c (.a 1)<|.c (.aB .a (.a 1)<|.a 2) .n)<|.c (.r 5000 (.aG .b (.a 4)<|.a 5) Cj)<|.c (.d<|.C 3) .n)
def Kh:sx:={a:=3,e:=8,b:=[],c:=false,d:=Kg}
def Ex:r_:=(.c (.a 7<|.aB .e (.aB .i (.a 7)<|.d<|H 8)<|.a 8) .n)
def Ey:r_:=(.c (.a 6<|.k .f<|.c (.aB .d (.d<|H 4)<|.aB .c (.a 3)<|.d<|H 3)<|.c (.aB .d (.a 5)<|.a 4) .n)<|.c (.a 7<|.d<|H 0)<|.c (.h [8] false (.eA<|.cL (.a 2) (.a 4)<|.aB .a (.a 4)<|.a 6) Ex)<|.c (.b (.aG .c (.a 6)<|.d<|H 4) (.c (.e<|.f 20 (.a 0)<|.c (.aB .g (.a 3)<|.d<|H 2)<|.c (.a 7) .n) .n)<|.c (.e<|.f 41 (.a 0)<|.c (.a 3)<|.c (.aB .d (.aB .i (.d<|H 1)<|.aB .b (.d<|H 8)<|.a 6)<|.d<|H 1)<|.c (.a 7) .n) .n)<|.c (.l .a 3<|.a 6)<|.c (.l .a 4<|.a 6) .n)
def Ki:r_:=(.c (.e<|.f 24 (.a 0)<|.c (.a 1)<|.c (.k .a<|.c (.a 2) .n) .n)<|.c (.k [3,4,5] [none,none,none]<|.c (.a 1)<|.c (.d<|H 0)<|.c (.k .a<|.c (.a 2) .n) .n)<|.c (.r 5000 (.aG .b (.a 4)<|.a 5) Ey) .n)
def Kj:sx:={a:=3,e:=9,b:=[],c:=false,d:=Ki}
def Ez:r_:=(.c (.a 5<|.k .f<|.c (.aB .d (.d<|H 4)<|.aB .c (.a 3)<|.d<|H 3)<|.c (.aB .d (.a 4)<|.a 3) .n)<|.c (.b (.aG .c (.a 5)<|.d<|H 4) (.c (.e<|.f 20 (.a 0)<|.c (.aB .g (.a 3)<|.d<|H 2)<|.c (.d<|H 0) .n) .n)<|.c .f .n)<|.c (.l .a 3<|.a 5) .n)
def Kk:r_:=(.c (.e<|.f 24 (.a 0)<|.c (.a 1)<|.c (.a 2) .n)<|.c (.k [3,4] [none,none]<|.c (.a 1)<|.c (.aB .a (.a 1)<|.a 2) .n)<|.c (.r 5000 (.aG .b (.a 3)<|.a 4) Ez) .n)
def Kl:sx:={a:=3,e:=6,b:=[],c:=false,d:=Kk}
def Km:r_:=(.c (.b (.bL<|.c (.aG .b (.a 2)<|.d<|H 0)<|.c (.aG .b (.a 3)<|.d<|H 0)<|.c (.aG .b (.a 4)<|.d<|H 1)<|.c (.aG .a (.aB .f (.a 2)<|.a 4)<|.d<|H 0) .n) (.c .f .n) .n)<|.c (.g (.a 0) 67<|.a 1)<|.c (.g (.a 0) 76<|.a 2)<|.c (.g (.a 0) 75<|.a 3)<|.c (.g (.a 0) 63<|.a 4)<|.c (.g (.a 0) 79<|.a 5)<|.c (.g (.a 0) 80<|.d<|H 0)<|.c (.g (.a 0) 81<|.I .n)<|.c (.g (.a 0) 82 .L) .n)
def Kn:sx:={a:=6,e:=6,b:=[(.d true)],c:=false,d:=Km}
def Ko:r_:=(.c (.d<|.aB .a (.aD (.a 0) 76)<|.aB .b (.a 1)<|.aD (.a 0) 63) .n)
def Kp:sx:={a:=2,e:=2,b:=[],c:=false,d:=Ko}
def Kq:r_:=(.c (.p [2,3]<|.k .l<|.c (.aB .d (.a 1)<|.aD (.a 0) 76)<|.c (.aD (.a 0) 63) .n)<|.c (.d<|.bC<|.c (.aG .c (.a 3)<|.d<|H 0)<|.c (.w (.d<|H 0)<|.p .e (.a 2)<|.p .b (.aD (.a 0) 75) .n) .n) .n)
def Kr:sx:={a:=2,e:=4,b:=[],c:=false,d:=Kq}
def Ks:r_:=(.c (.b (.bL<|.c (.bA<|.fX<|.a 1)<|.c (.bA<|.f 19 (.a 0)<|.c (.a 1) .n) .n) (.c .f .n) .n)<|.c (.d<|.eO (.aD (.a 0) 82) (.a 1)<|.d<|H 0) .n)
def Kt:sx:={a:=2,e:=2,b:=[],c:=false,d:=Ks}
def Ku:r_:=(.c (.b (.aG .c (.f 17 (.a 0)<|.c (.a 1) .n)<|.d<|H 0) (.c .f .n) .n) .n)
def Kv:sx:={a:=2,e:=2,b:=[],c:=false,d:=Ku}
def Kw:r_:=(.c (.d<|.aB .a (.aB .d (.aD (.a 0) 75)<|.aD (.a 0) 80)<|.k .a<|.c (.aD (.a 0) 81) .n) .n)
def Kx:sx:={a:=1,e:=1,b:=[],c:=false,d:=Kw}
def Ky:r_:=(.c (.b (.aG .b (.f 11 (.a 0) .n)<|.a 1) (.c (.j 4<|uj.b 1 [32,112,97,103,101,115]) .n) .n) .n)
def Kz:sx:={a:=2,e:=2,b:=[],c:=false,d:=Ky}
def KA:r_:=(.c (.b (.aD (.a 0) 79) (.c .f .n) .n) .n)
def KB:sx:={a:=3,e:=3,b:=[],c:=false,d:=KA}
def KC:r_:=(.c (.e<|.f 27 (.a 0)<|.c (.d<|H 1) .n)<|.c (.b (.aG .d (.k .a<|.c (.aD (.a 0) 81) .n)<|.d<|H 0) (.c (.a 1<|.iP<|.aD (.a 0) 81) .n)<|.c (.a 1<|.f 3 (.a 0)<|.c (.aD (.a 0) 80) .n)<|.c (.A .a (.a 0) 80<|.d<|H 1) .n)<|.c (.m (.aD (.a 0) 82) (.a 1)<|.d<|H 1)<|.c (.e<|.f 9 (.a 0)<|.c (.a 1)<|.c (.l 83<|H 5) .n)<|.c (.d<|.a 1) .n)
def KD:sx:={a:=1,e:=2,b:=[],c:=false,d:=KC}
def KE:r_:=(.c (.e<|.f 28 (.a 0)<|.c (.a 1) .n)<|.c (.b (.aG .d (.aP (.aD (.a 0) 82)<|.a 1)<|.d<|H 1) (.c .f .n) .n)<|.c (.e<|.hF (.aD (.a 0) 82)<|.a 1)<|.c (.e<|.hG (.aD (.a 0) 81)<|.a 1)<|.c (.e<|.f 9 (.a 0)<|.c (.a 1)<|.c (.l 84<|H 1) .n)<|.c (.d<|.d<|.d true) .n)
def KF:sx:={a:=2,e:=2,b:=[],c:=false,d:=KE}
def KG:r_:=(.c (.g (.a 0) 69<|.a 1)<|.c (.g (.a 0) 68<|.a 2)<|.c (.g (.a 0) 67<|.aD (.a 1) 67)<|.c (.g (.a 0) 85<|.t 10<|.c (.aD (.a 1) 67)<|.c (.a 2)<|.c (.a 1) .n)<|.c (.g (.a 0) 86<|.f 30 (.aD (.a 0) 85) .n)<|.c (.g (.a 0) 63<|.d<|H 0) .n)
def KH:sx:={a:=3,e:=3,b:=[],c:=false,d:=KG}
def KI:r_:=(.c (.b (.bA<|.w (.d<|H 0)<|.p .e (.a 1)<|.p .e (.a 2) .n) (.c .f .n) .n)<|.c (.b (.aG .d (.a 2)<|.aD (.aD (.a 0) 68) 6) (.c .f .n) .n) .n)
def KJ:sx:={a:=3,e:=3,b:=[],c:=false,d:=KI}
def KL:r_:=(.c (.b (.bA<|.w (.d<|H 0)<|.p .e (.a 1)<|.p .b (.aD (.aD (.a 0) 68) 6) .n) (.c .f .n) .n)<|.c (.d<|.f 53 (.aD (.a 0) 85)<|.c (.aD (.a 0) 86)<|.c (.a 1)<|.c (.d<|.d false) .n) .n)
def KM:sx:={a:=2,e:=2,b:=[],c:=false,d:=KL}
def KN:r_:=(.c (.a 2<|.f 47 (.a 0)<|.c (.a 1) .n)<|.c (.d<|.s (.aG .f (.a 2)<|.d .e) (.d<|H 0)<|.f 54 (.aD (.a 0) 67)<|.c (.a 2) .n) .n)
def KO:sx:={a:=2,e:=3,b:=[],c:=false,d:=KN}
def KP:r_:=(.c (.d<|.aG .a (.aB .c (.f 7 (.a 0)<|.c (.a 1) .n)<|.l 71<|H 1)<|.d<|H 0) .n)
def KQ:sx:={a:=2,e:=2,b:=[],c:=false,d:=KP}
def KR:r_:=(.c (.d<|.o [1] false [] (.f 44 (.aD (.a 0) 85)<|.c (.aD (.a 0) 86) .n)<|.cL (.a 1) .z<|.d<|H 3) .n)
def KS:sx:={a:=1,e:=2,b:=[],c:=false,d:=KR}
def KT:r_:=(.c (.a 3<|.f 53 (.aD (.a 0) 85)<|.c (.aD (.a 0) 86)<|.c (.a 1)<|.c (.d<|.d true) .n)<|.c (.b (.aB .c (.f 54 (.aD (.a 0) 67)<|.c (.a 3) .n)<|.l 71<|H 1) (.c .f .n) .n)<|.c (.a 4<|.f 50 (.aD (.a 0) 69) .n)<|.c (.e<|.f 55 (.aD (.a 0) 67)<|.c (.a 4)<|.c (.aD (.aD (.a 0) 68) 58) .n)<|.c (.e<|.f 42 (.aD (.a 0) 67)<|.c (.a 3)<|.c (.f 7 (.aD (.a 0) 68)<|.c (.a 4)<|.c (.aB .e (.a 2)<|.l 71<|H 1) .n) .n) .n)
def KU:sx:={a:=3,e:=5,b:=[],c:=false,d:=KT}
def EA:r_:=(.c (.z (.c (.e<|.f 1 (.a 0)<|.c (.a 4)<|.c (.a 3) .n) .n)<|xm.c [4] (.c .f .n) xm.n)<|.c (.l .a 4<|.aD (.aD (.a 0) 68) 58) .n)
def KV:r_:=(.c (.e<|.f 26 (.a 0)<|.c (.a 1)<|.c (.a 2) .n)<|.c (.a 4<|.f 52 (.aD (.a 0) 68)<|.c (.a 1) .n)<|.c (.r 5000 (.aG .b (.a 4)<|.f 52 (.aD (.a 0) 68)<|.c (.a 2) .n) EA)<|.c (.g (.a 0) 63<|.k .h<|.c (.aD (.a 0) 63)<|.c (.a 2) .n)<|.c (.d<|.a 2) .n)
def KW:sx:={a:=4,e:=5,b:=[(H 30)],c:=false,d:=KV}
def KX:r_:=(.c (.a 3<|.f 47 (.a 0)<|.c (.a 1) .n)<|.c (.b (.bL<|.c (.aG .f (.a 3)<|.d .e)<|.c (.aG .c (.aB .c (.f 54 (.aD (.a 0) 67)<|.c (.a 3) .n)<|.l 71<|H 1)<|.d<|H 0) .n) (.c .f .n) .n)<|.c (.a 4<|.f 36 (.aD (.a 0) 68)<|.c (.f 54 (.aD (.a 0) 67)<|.c (.a 3) .n) .n)<|.c (.b (.bC<|.c (.aB .c (.a 2)<|.l 87<|H 4)<|.c (.aG .d (.f 17 (.aD (.a 0) 69)<|.c (.a 4) .n)<|.d<|H 1) .n) (.c .f .n) .n)<|.c (.e<|.f 42 (.aD (.a 0) 67)<|.c (.a 3)<|.c (.f 7 (.aD (.a 0) 68)<|.c (.a 4)<|.c (.aB .e (.a 2)<|.l 71<|H 1) .n) .n) .n)
def KY:sx:={a:=3,e:=5,b:=[],c:=false,d:=KX}
def KZ:r_:=(.c (.a 2<|.f 7 (.a 0)<|.c (.a 1) .n)<|.c (.b (.aG .c (.aB .c (.a 2)<|.l 71<|H 1)<|.d<|H 0) (.c .f .n) .n)<|.c (.e<|.f 38 (.a 0)<|.c (.a 1)<|.c (.aB .c (.a 2)<|.l 88<|H 14) .n) .n)
def K0:sx:={a:=2,e:=3,b:=[],c:=false,d:=KZ}
def EB:r_:=(.c (.b (.bA<|.f 16 (.a 0)<|.c (.a 3) .n) (.c .f .n) .n) .n)
def EC:r_:=(.c (.e<|.f 32 (.a 0)<|.c (.a 3) .n) .n)
def ED:r_:=(.c (.a 6<|.f 36 (.aD (.a 0) 68)<|.c (.f 7 (.a 0)<|.c (.a 3) .n) .n)<|.c (.e<|.f 48 (.aD (.a 0) 67)<|.c (.aB .a (.a 6)<|.aB .f (.a 3)<|.aD (.aD (.a 0) 68) 58)<|.c (.cL (.a 2) (.a 4)<|.aB .a (.a 4)<|.a 5) .n) .n)
def EE:r_:=(.c (.h [3,4,5] true (.f 37 (.a 0)<|.c (.a 1)<|.c (.k .a<|.c (.a 2) .n) .n) EB)<|.c (.h [3,4,5] true (.f 37 (.a 0)<|.c (.a 1)<|.c (.k .a<|.c (.a 2) .n) .n) EC)<|.c (.h [3,4,5] true (.f 37 (.a 0)<|.c (.a 1)<|.c (.k .a<|.c (.a 2) .n) .n) ED) .n)
def K1:sx:={a:=3,e:=7,b:=[],c:=false,d:=EE}
def EF:r_:=(.c (.a 5<|.aB .a (.a 1)<|.a 4)<|.c (.a 6<|.k .f<|.c (.aB .d (.a 2)<|.a 4)<|.c (.aB .d (.aD (.aD (.a 0) 68) 58)<|.aB .f (.a 5)<|.aD (.aD (.a 0) 68) 58) .n)<|.c (.q 3<|.q<|.c (.a 5)<|.c (.a 4)<|.c (.a 6) .n)<|.c (.l .a 4<|.a 6) .n)
def K2:r_:=(.c (.k [3,4] [(D tE.a),none]<|.c (.d<|H 0) .n)<|.c (.r 5000 (.aG .b (.a 4)<|.a 2) EF)<|.c (.s 3) .n)
def K3:sx:={a:=3,e:=7,b:=[],c:=false,d:=K2}
def K4:r_:=(.c (.a 2<|.f 47 (.a 0)<|.c (.a 1) .n)<|.c (.a 3<|.f 54 (.aD (.a 0) 67)<|.c (.a 2) .n)<|.c (.k [4,5] [none,none]<|.c (.f 36 (.aD (.a 0) 68)<|.c (.a 3) .n)<|.c (.aB .c (.a 3)<|.l 72<|H 1023) .n)<|.c (.b (.aG .d (.f 17 (.aD (.a 0) 69)<|.c (.a 4) .n)<|.d<|H 1) (.c .f .n) .n)<|.c (.b (.aB .c (.a 5)<|.l 89<|H 256) (.c .f .n) .n)<|.c (.e<|.f 42 (.aD (.a 0) 67)<|.c (.a 2)<|.c (.f 7 (.aD (.a 0) 68)<|.c (.a 4)<|.c (.a 5) .n) .n) .n)
def K5:sx:={a:=2,e:=7,b:=[],c:=false,d:=K4}
def K6:r_:=(.c (.a 3<|.f 7 (.a 0)<|.c (.a 1) .n)<|.c (.b (.aB .c (.a 3)<|.l 89<|H 256) (.c .f .n) .n)<|.c (.d<|.aG .c (.aB .c (.a 3)<|.aB .e (.aB .e (.l 71<|H 1)<|.l 90<|H 16)<|.a 2)<|.aB .e (.aB .e (.l 71<|H 1)<|.l 90<|H 16)<|.a 2) .n)
def K7:sx:={a:=3,e:=4,b:=[],c:=false,d:=K6}
def Ck:r_:=(.c (.b (.bA<|.f 21 (.a 0)<|.c (.a 4)<|.c (.l 91<|H 2) .n) (.c .f .n) .n)<|.c (.a 6<|.k .f<|.c (.aB .d (.a 5)<|.a 4)<|.c (.aB .d (.aD (.aD (.a 0) 68) 58)<|.aB .f (.a 4)<|.aD (.aD (.a 0) 68) 58) .n)<|.c (.a 7<|.f 36 (.aD (.a 0) 68)<|.c (.f 7 (.a 0)<|.c (.a 4) .n) .n)<|.c (.y 3<|.f 22 (.aD (.a 0) 67)<|.c (.aB .a (.a 7)<|.aB .f (.a 4)<|.aD (.aD (.a 0) 68) 58)<|.c (.a 6) .n)<|.c (.l .a 4<|.a 6) .n)
def K8:r_:=(.c (.k [3,4,5] [(D tE.b),none,none]<|.c (.a 1)<|.c (.aB .a (.a 1)<|.a 2) .n)<|.c (.r 5000 (.aG .b (.a 4)<|.a 5) Ck)<|.c (.d<|.C 3) .n)
def K9:sx:={a:=3,e:=8,b:=[],c:=false,d:=K8}
def EG:r_:=(.c (.a 4<|.f 8 (.a 0)<|.c (.aB .a (.a 1)<|.y 3)<|.c (.d<|H 1) .n)<|.c (.b (.aG .c (.aP (.a 4)<|.d<|H 0)<|.d<|H 0) (.c (.d<|.C 3) .n) .n)<|.c (.y 3<|.a 4) .n)
def K':r_:=(.c (.o 3 tE.b)<|.c (.r 5000 (.aG .b (.y 3)<|.a 2) EG)<|.c .f .n)
def K_:sx:={a:=3,e:=5,b:=[],c:=false,d:=K'}
def Cm:r_:=(.c (.e<|.f 42 (.aD (.a 0) 67)<|.c (.f 47 (.a 0)<|.c (.a 1) .n)<|.c (.d<|H 0) .n)<|.c (.e<|.f 12 (.aD (.a 0) 69)<|.c (.a 2) .n) .n)
def La:r_:=(.c (.h [1,2,3] true (.f 44 (.a 0) .n) Cm)<|.c (.e<|.f 10 (.aD (.a 0) 85)<|.c (.aD (.a 0) 86) .n)<|.c (.g (.a 0) 63<|.d<|H 0) .n)
def Lb:sx:={a:=1,e:=4,b:=[],c:=false,d:=La}
def Lc:r_:=(.c (.g (.a 0) 73<|.a 1)<|.c (.g (.a 0) 92<|.a 2)<|.c (.g (.a 0) 93<|.a 3) .n)
def Ld:sx:={a:=4,e:=4,b:=[],c:=false,d:=Lc}
def Le:r_:=(.c (.a 2<|.aB .d (.aD (.a 0) 93)<|.k .a<|.c (.a 1) .n)<|.c (.l .d 2<|.aB .f (.a 2)<|.l 94<|H 16)<|.c (.b (.aG .b (.a 2)<|.aD (.a 0) 92) (.c (.j 4<|uj.a [116,104,101,32,115,116,97,99,107,32,102,111,114,32,116,104,101,32,97,114,103,117,109,101,110,116,115]) .n) .n)<|.c (.e<|.f 22 (.aD (.a 0) 73)<|.c (.a 2)<|.c (.a 1) .n)<|.c (.g (.a 0) 93<|.a 2)<|.c (.d<|.a 2) .n)
def Lf:sx:={a:=2,e:=3,b:=[],c:=false,d:=Le}
def EH:r_:=(.c (.q 3<|.aB .c (.aB .g (.a 4)<|.aB .b (.d<|H 8)<|.a 5)<|.d<|H 255) .n)
def A_:r_:=(.c (.h [5] false (.k .c<|.c (.l 95<|H 4) .n) EH) .n)
def EI:r_:=(.c (.a 2<|.o [6] false [0] (.a 1)<|.f 39 (.a 0)<|.c (.aB .a (.k .b<|.c (.a 6) .n)<|.k .b<|.c (.d<|H 1) .n) .n)<|.c (.o 3 tE.b)<|.c (.h [4] false (.aB .a (.a 2)<|.m<|.c (.d<|H 0) .n) A_)<|.c (.d<|.f 39 (.a 0)<|.c (.C 3) .n) .n)
def EJ:sx:={a:=2,e:=7,b:=[],c:=false,d:=EI}
def Lg:r_:=(.c (.g (.a 0) 93<|.a 1)<|.c (.e<|.f 4 (.a 0) .n) .n)
def Lh:sx:={a:=2,e:=2,b:=[],c:=false,d:=Lg}
def Li:r_:=(.c (.g (.a 0) 96<|.d<|H 0)<|.c (.g (.a 0) 98<|.l 97<|.f [117,110,117,115,101,100])<|.c (.g (.a 0) 99<|.d .e)<|.c (.g (.a 0) 73<|.d .e)<|.c (.g (.a 0) 100<|.dJ (.d<|H 0)<|.d<|H 32)<|.c (.g (.a 0) 101<|.d<|H 0)<|.c (.g (.a 0) 102<|.d .e)<|.c (.g (.a 0) 103<|.d .e)<|.c (.g (.a 0) 104<|.d<|.f [])<|.c (.g (.a 0) 105<|.d .e)<|.c (.g (.a 0) 106<|.d<|.d false)<|.c (.g (.a 0) 107<|.d<|H 0)<|.c (.g (.a 0) 108<|.d .e)<|.c (.g (.a 0) 109<|.d<|H 0)<|.c (.g (.a 0) 110<|.d .e)<|.c (.g (.a 0) 111<|.d .e)<|.c (.g (.a 0) 112<|.d .e)<|.c (.g (.a 0) 113<|.d<|H 0) .n)
def Lj:sx:={a:=1,e:=1,b:=[],c:=false,d:=Li}
def Lk:r_:=(.c (.b (.aG .a (.f 34 (.a 0)<|.c (.d<|H 0)<|.c (.d<|H 4)<|.c (.d<|.f [104,101,97,100,101,114]) .n)<|.l 114<|.m [127,69,76,70]) (.c (.j 2<|uj.a [109,97,103,105,99,32,110,117,109,98,101,114]) .n) .n)<|.c (.b (.aG .a (.f 31 (.a 0)<|.c (.d<|H 4)<|.c (.d<|H 1) .n)<|.l 115<|H 1) (.c (.j 2<|uj.a [99,108,97,115,115]) .n) .n)<|.c (.b (.aG .a (.f 31 (.a 0)<|.c (.d<|H 5)<|.c (.d<|H 1) .n)<|.l 116<|H 1) (.c (.j 2<|uj.a [111,114,100,101,114,32,111,102,32,111,99,116,101,116,115]) .n) .n)<|.c (.b (.aG .a (.f 31 (.a 0)<|.c (.d<|H 6)<|.c (.d<|H 1) .n)<|.l 117<|H 1) (.c (.j 2<|uj.a [118,101,114,115,105,111,110]) .n) .n) .n)
def Ll:sx:={a:=1,e:=1,b:=[],c:=false,d:=Lk}
def Lm:r_:=(.c (.e<|.i 71<|.c (.a 0) .n)<|.c (.e<|.f 34 (.a 0)<|.c (.d<|H 0)<|.c (.l 118<|H 52)<|.c (.d<|.f [104,101,97,100,101,114]) .n)<|.c (.b (.aG .a (.f 15 (.a 0)<|.c (.d<|H 16) .n)<|.l 119<|H 2) (.c (.j 2<|uj.a [107,105,110,100,32,111,102,32,102,105,108,101]) .n) .n)<|.c (.b (.aG .a (.f 15 (.a 0)<|.c (.d<|H 18) .n)<|.l 120<|H 243) (.c (.j 2<|uj.a [109,97,99,104,105,110,101]) .n) .n)<|.c (.b (.aG .a (.f 54 (.a 0)<|.c (.d<|H 20) .n)<|.l 117<|H 1) (.c .f .n) .n)<|.c (.b (.bL<|.c (.aG .b (.f 15 (.a 0)<|.c (.d<|H 40) .n)<|.l 118<|H 52)<|.c (.aG .a (.f 15 (.a 0)<|.c (.d<|H 42) .n)<|.l 121<|H 32) .n) (.c (.j 2<|uj.a [115,105,122,101,115,32,111,102,32,116,104,101,32,104,101,97,100,101,114,32,97,110,100,32,105,116,115,32,114,111,119,115]) .n) .n) .n)
def Ln:sx:={a:=1,e:=1,b:=[],c:=false,d:=Lm}
def Lo:r_:=(.c (.b (.aG .d (.a 2)<|.a 3) (.c .f .n) .n)<|.c (.b (.aG .d (.aB .a (.a 1)<|.a 3)<|.l 65<|H 4294967296) (.c .f .n) .n)<|.c (.b (.bC<|.c (.aG .d (.a 4)<|.d<|H 1)<|.c (.bL<|.c (.bA .M)<|.c (.aG .a (.aB .f (.aB .d (.a 1)<|.a 0)<|.a 4)<|.d<|H 0) .n) .n) (.c .f .n) .n) .n)
def Lp:sx:={a:=5,e:=5,b:=[],c:=false,d:=Lo}
def EK:r_:=(.c (.p [2,3,4,5,6,7,8,9]<|.f 43 (.a 0)<|.c (.a 1)<|.c (.d<|H 8)<|.c (.d<|.f [114,111,119,115,32,111,102,32,115,101,103,109,101,110,116,115]) .n)<|.c (.b (.aG .g (.a 2)<|.q<|.c (.l 123<|H 2)<|.c (.l 122<|H 3) .n) (.c .f .n) .n)<|.c (.b (.aG .a (.a 2)<|.l 124<|H 1) (.c .f .n) .n)<|.c (.e<|.i 73<|.c (.a 3)<|.c (.a 4)<|.c (.a 6)<|.c (.a 7)<|.c (.a 9) .n)<|.c (.a 10<|.f 34 (.a 0)<|.c (.a 3)<|.c (.a 6)<|.c (.d<|.f [97,32,115,101,103,109,101,110,116]) .n)<|.c (.d<|.s (.aG .d (.a 7)<|.d<|H 0) (.t 7<|.c (.a 4)<|.c (.a 10)<|.c (.a 7)<|.c (.aB .c (.a 8)<|.aB .e (.aB .e (.l 125<|H 4)<|.l 126<|H 2)<|.l 127<|H 1) .n)<|.d .e) .n)
def Lq:sx:={a:=2,e:=11,b:=[],c:=false,d:=EK}
def zu:r_:=(.c (.a 4<|.i 74<|.c (.a 1)<|.c (.aB .a (.f 54 (.a 1)<|.c (.d<|H 28) .n)<|.aB .b (.l 121<|H 32)<|.a 3) .n)<|.c (.b (.aG .f (.a 4)<|.d .e) (.c .f .n) .n)<|.c (.b (.bC<|.c (.aG .d (.y 2)<|.d<|H 0)<|.c (.aG .b (.aD (.a 4) 2)<|.f 6 (.E 2<|.bW<|.d<|H 1) .n) .n) (.c (.j 2<|uj.a [115,101,103,109,101,110,116,115,32,116,104,97,116,32,111,118,101,114,108,97,112,32,111,114,32,100,111,32,110,111,116,32,97,115,99,101,110,100]) .n) .n)<|.c (.q 2<|.a 4) .n)
def Lr:r_:=(.c (.a 1<|.t 9<|.c (.a 0) .n)<|.c (.e<|.i 72<|.c (.a 1) .n)<|.c (.o 2 tE.a)<|.c (.h [3] false (.k .c<|.c (.f 15 (.a 1)<|.c (.d<|H 44) .n) .n) zu)<|.c (.b (.aG .c (.y 2)<|.d<|H 0) (.c .f .n) .n)<|.c (.t 2)<|.c (.a 5<|.t 8<|.c (.f 54 (.a 1)<|.c (.d<|H 24) .n)<|.c (.a 2) .n)<|.c (.a 6<|.f 46 (.a 5)<|.c (.aD (.a 5) 7) .n)<|.c (.b (.bL<|.c (.aG .f (.a 6)<|.d .e)<|.c (.bA<|.f 23 (.a 6)<|.c (.l 127<|H 1) .n)<|.c (.aG .a (.aB .f (.aD (.a 5) 7)<|.d<|H 4)<|.d<|H 0) .n) (.c .f .n) .n)<|.c (.d<|.a 5) .n)
def Ls:sx:={a:=1,e:=7,b:=[],c:=false,d:=Lr}
def Lt:r_:=(.c (.d<|.aG .a (.aB .c (.a 0)<|.l 128<|H 10)<|.d<|H 0) .n)
def Lu:sx:={a:=1,e:=1,b:=[],c:=false,d:=Lt}
def Lv:r_:=(.c (.a 1<|.l 90<|H 16)<|.c (.b (.aB .c (.a 0)<|.aB .e (.l 125<|H 4)<|.l 126<|H 2) (.c (.l .e 1<|.l 91<|H 2) .n) .n)<|.c (.b (.aB .c (.a 0)<|.l 126<|H 2) (.c (.l .e 1<|.l 87<|H 4) .n) .n)<|.c (.b (.aB .c (.a 0)<|.l 127<|H 1) (.c (.l .e 1<|.l 129<|H 8) .n) .n)<|.c (.d<|.a 1) .n)
def Lw:sx:={a:=1,e:=2,b:=[],c:=false,d:=Lv}
def Cn:r_:=(.c (.b (.f 16 (.a 0)<|.c (.a 4) .n) (.c (.e<|.f 38 (.a 0)<|.c (.a 4)<|.c (.aB .e (.aB .c (.f 7 (.a 0)<|.c (.a 4) .n)<|.aB .e (.aB .e (.aB .e (.l 91<|H 2)<|.l 87<|H 4)<|.l 129<|H 8)<|.l 90<|H 16)<|.a 3) .n) .n)<|.c (.e<|.f 1 (.a 0)<|.c (.a 4)<|.c (.a 3) .n) .n) .n)
def Lx:r_:=(.c (.h [4] false (.f 33 (.aD (.a 0) 68)<|.c (.a 1)<|.c (.a 2) .n) Cn) .n)
def Ly:sx:={a:=4,e:=5,b:=[],c:=false,d:=Lx}
def Lz:r_:=(.c (.k [2,3] [none,none]<|.c (.aD (.a 1) 2)<|.c (.aB .a (.aD (.a 1) 2)<|.aD (.a 1) 63) .n)<|.c (.b (.aG .b (.aD (.a 1) 63)<|.k .a<|.c (.aD (.a 1) 62) .n) (.c .f .n) .n)<|.c (.b (.aG .d (.a 3)<|.aD (.aD (.a 0) 68) 6) (.c (.j 4<|uj.a [97,100,100,114,101,115,115,101,115,32,102,111,114,32,97,32,115,101,103,109,101,110,116]) .n) .n)<|.c (.b (.aG .d (.a 3)<|.a 2) (.c (.e<|.i 78<|.c (.a 0)<|.c (.a 2)<|.c (.a 3)<|.c (.i 77<|.c (.aD (.a 1) 64) .n) .n)<|.c (.e<|.f 22 (.a 0)<|.c (.a 2)<|.c (.aD (.a 1) 62) .n)<|.c (.g (.a 0) 63<|.k .h<|.c (.aD (.a 0) 63)<|.c (.a 3) .n) .n) .n) .n)
def LA:sx:={a:=2,e:=4,b:=[],c:=false,d:=Lz}
def LB:r_:=(.c (.a 2<|.f 52 (.aD (.a 0) 68)<|.c (.aD (.a 0) 63) .n)<|.c (.a 3<|.aB .a (.a 2)<|.aD (.aD (.a 0) 68) 58)<|.c (.a 4<|.f 52 (.aD (.a 0) 68)<|.c (.aB .a (.a 3)<|.a 1) .n)<|.c (.b (.aG .d (.a 4)<|.aD (.aD (.a 0) 68) 6) (.c (.j 4<|uj.a [97,100,100,114,101,115,115,101,115,32,102,111,114,32,116,104,101,32,115,116,97,99,107]) .n) .n)<|.c (.e<|.f 1 (.a 0)<|.c (.a 2)<|.c (.aB .e (.aB .e (.l 91<|H 2)<|.l 87<|H 4)<|.l 90<|H 16) .n)<|.c (.e<|.f 14 (.a 0)<|.c (.a 2) .n)<|.c (.e<|.i 78<|.c (.a 0)<|.c (.a 3)<|.c (.a 4)<|.c (.aB .e (.aB .e (.l 91<|H 2)<|.l 87<|H 4)<|.l 90<|H 16) .n)<|.c (.g (.a 0) 63<|.a 4)<|.c (.d<|.q<|.c (.a 3)<|.c (.a 4) .n) .n)
def LC:sx:={a:=2,e:=5,b:=[],c:=false,d:=LB}
def EL:r_:=(.c (.b (.aG .g (.d<|H 0)<|.k .b<|.c (.a 1) .n) (.c (.j 5<|uj.a [97,110,32,97,114,103,117,109,101,110,116,32,119,105,116,104,32,97,32,110,111,117,103,104,116]) .n) .n) .n)
def LD:r_:=(.c (.b (.aG .d (.k .a<|.c (.a 0) .n)<|.l 130<|H 16) (.c (.j 5<|uj.a [116,111,111,32,109,97,110,121,32,97,114,103,117,109,101,110,116,115]) .n) .n)<|.c (.h [1] false (.a 0) EL) .n)
def LF:sx:={a:=1,e:=2,b:=[],c:=false,d:=LD}
def EM:r_:=(.c (.a 1<|.s (.aG .c (.a 2)<|.l 131<|H 47) (.d<|.f [])<|.aB .a (.a 1)<|.k .j<|.c (.a 2) .n) .n)
def LG:r_:=(.c (.a 1<|.d<|.f [])<|.c (.h [2] false (.k .b<|.c (.a 0) .n) EM)<|.c (.d<|.a 1) .n)
def LH:sx:={a:=1,e:=3,b:=[],c:=false,d:=LG}
def Co:r_:=(.c (.e<|.i 79<|.c (.a 6)<|.c (.a 7) .n) .n)
def LI:r_:=(.c (.e<|.i 81<|.c (.a 3) .n)<|.c (.a 5<|.i 75<|.c (.a 2) .n)<|.c (.a 6<|.t 14<|.c (.a 0)<|.c (.a 1) .n)<|.c (.z (.c (.h [7] false (.aD (.a 5) 66) Co)<|.c (.p [8,9]<|.i 80<|.c (.a 6)<|.c (.a 4) .n)<|.c (.a 10<|.t 15<|.c (.a 6)<|.c (.a 8)<|.c (.a 9) .n)<|.c (.a 11<|.f 40 (.a 10)<|.c (.a 3) .n) .n)<|xm.c [2,4] (.c (.e<|.f 10 (.a 6) .n)<|.c .C .n) xm.n)<|.c (.d<|.t 11<|.c (.a 6)<|.c (.aD (.a 5) 7)<|.c (.aD (.a 10) 93)<|.c (.k .a<|.c (.a 3) .n)<|.c (.a 11) .n) .n)
def LJ:sx:={a:=5,e:=12,b:=[(H 128)],c:=false,d:=LI}
def LK:r_:=(.c (.a 3<|.aD (.a 0) 73)<|.c (.g (.a 0) 73<|.aD (.a 1) 73)<|.c (.g (.a 0) 100<|.dJ (.d<|H 0)<|.d<|H 32)<|.c (.m (.aD (.a 0) 100) (.l 132<|H 2)<|.aD (.a 1) 74)<|.c (.m (.aD (.a 0) 100) (.l 133<|H 10)<|.aD (.a 1) 75)<|.c (.m (.aD (.a 0) 100) (.l 134<|H 11)<|.aD (.a 1) 43)<|.c (.g (.a 0) 101<|.aD (.a 1) 7)<|.c (.g (.a 0) 104<|.a 2)<|.c (.b (.aG .i (.a 3)<|.d .e) (.c (.e<|.f 10 (.a 3) .n) .n) .n) .n)
def LL:sx:={a:=3,e:=4,b:=[],c:=false,d:=LK}
def LM:r_:=(.c (.b (.bL<|.c (.bA<|.w (.d<|H 0)<|.p .e (.a 0)<|.p .b (.a 1)<|.p .e (.l 136<|H 4294967296) .n)<|.c (.aG .a (.aB .f (.a 0)<|.l 135<|H 4)<|.d<|H 0)<|.c (.aG .a (.aB .f (.a 1)<|.l 135<|H 4)<|.d<|H 0) .n) (.c .f .n) .n) .n)
def LN:sx:={a:=2,e:=2,b:=[],c:=false,d:=LM}
def LO:r_:=(.c (.a 1<|.aB .f (.aB .a (.aB .a (.aB .b (.a 1)<|.d<|H 48271)<|.aB .b (.a 3)<|.d<|H 69621)<|.d<|H 7)<|.d<|H 2147483629)<|.c (.b (.bC<|.c (.aG .c (.a 2)<|.d<|H 0)<|.c (.aG .h (.k .g<|.c (.a 3) .n)<|.aB .j (.d<|H 10)<|.d<|H 18) .n) (.c (.a 2<|.k .g<|.c (.a 3) .n) .n) .n) .n)
def LP:r_:=(.c (.p [1,2]<|.q<|.c (.d<|H 41)<|.c (.d<|H 0) .n)<|.c (.h [3] false (.cL (.a 0) .z<|.d<|H 24) LO)<|.c (.d<|.I<|.c (.a 2)<|.c (.a 1)<|.c (.d<|H 0) .n) .n)
def LQ:sx:={a:=1,e:=4,b:=[],c:=false,d:=LP}
def LR:r_:=(.c (.b (.aG .d (.aP (.a 0)<|.d<|H 0)<|.d<|H 0) (.c (.a 2<|.aB .f (.aP (.a 0)<|.d<|H 0)<|.a 1)<|.c (.m (.a 0) (.d<|H 0)<|.aB .h (.aP (.a 0)<|.d<|H 0)<|.a 1)<|.c (.d<|.a 2) .n) .n)<|.c (.m (.a 0) (.d<|H 2)<|.aB .a (.aP (.a 0)<|.d<|H 2)<|.d<|H 1)<|.c (.a 3<|.aB .f (.aB .j (.aB .a (.aB .a (.aP (.a 0)<|.d<|H 1)<|.aB .b (.d<|H 15485867)<|.aP (.a 0)<|.d<|H 2)<|.d<|H 13)<|.d<|H 5)<|.d<|H 2147483647)<|.c (.d<|.aB .f (.aB .h (.aB .f (.aB .j (.aB .a (.aB .b (.a 3)<|.d<|H 48271)<|.aB .b (.d<|H 7919)<|.aP (.a 0)<|.d<|H 2)<|.d<|H 3)<|.d<|H 2147483587)<|.d<|H 64)<|.a 1) .n)
def LS:sx:={a:=2,e:=4,b:=[],c:=false,d:=LR}
def LU:r_:=(.c (.d<|.o [2] false [0] (.k .c<|.c (.a 1) .n)<|.aB .f (.aB .h (.a 0)<|.aB .j (.d<|H 256)<|.a 2)<|.d<|H 256) .n)
def LV:sx:={a:=2,e:=3,b:=[],c:=false,d:=LU}
def EN:r_:=(.c (.a 2<|.aB .a (.a 2)<|.i 88<|.c (.a 9)<|.c (.d<|H 4) .n) .n)
def EO:r_:=(.c (.h [9] false (.m<|.c (.d<|H 1)<|.c (.aB .a (.a 3)<|.k .a<|.c (.a 4) .n)<|.c (.a 5)<|.c (.a 5)<|.c (.k .a<|.c (.a 6) .n)<|.c (.a 7)<|.c (.a 8)<|.c (.d<|H 1) .n) EN)<|.c (.a 4<|.aB .a (.a 4)<|.a 6) .n)
def LW:r_:=(.c (.a 2<|.aB .a (.aB .a (.aB .a (.aB .a (.aB .a (.m<|.c (.d<|H 127)<|.c (.d<|H 69)<|.c (.d<|H 76)<|.c (.d<|H 70)<|.c (.d<|H 1)<|.c (.d<|H 1)<|.c (.d<|H 1) .n)<|.aB .b (.m<|.c (.d<|H 0) .n)<|.d<|H 9)<|.i 88<|.c (.d<|H 2)<|.c (.d<|H 2) .n)<|.i 88<|.c (.d<|H 243)<|.c (.d<|H 2) .n)<|.i 88<|.c (.d<|H 1)<|.c (.d<|H 4) .n)<|.i 88<|.c (.a 0)<|.c (.d<|H 4) .n)<|.c (.a 2<|.aB .a (.aB .a (.aB .a (.aB .a (.aB .a (.aB .a (.a 2)<|.i 88<|.c (.d<|H 52)<|.c (.d<|H 4) .n)<|.aB .b (.m<|.c (.d<|H 0) .n)<|.d<|H 8)<|.i 88<|.c (.d<|H 52)<|.c (.d<|H 2) .n)<|.i 88<|.c (.d<|H 32)<|.c (.d<|H 2) .n)<|.i 88<|.c (.k .a<|.c (.a 1) .n)<|.c (.d<|H 2) .n)<|.aB .b (.m<|.c (.d<|H 0) .n)<|.d<|H 6)<|.c (.k [3,4] [none,none]<|.c (.aB .a (.d<|H 52)<|.aB .b (.d<|H 32)<|.k .a<|.c (.a 1) .n)<|.c (.m .n) .n)<|.c (.h [5,6,7,8] true (.a 1) EO)<|.c (.d<|.aB .a (.a 2)<|.a 4) .n)
def LX:sx:={a:=2,e:=10,b:=[],c:=false,d:=LW}
def LY:r_:=(.c (.a 2<|.aB .b (.d<|H 4)<|.i 87<|.c (.a 0)<|.c (.d<|H 8) .n)<|.c (.a 3<|.aB .a (.d<|H 4)<|.s (.a 1) (.d<|H 0)<|.i 87<|.c (.a 0)<|.c (.d<|H 24) .n)<|.c (.F 4<|.c (.q<|.c (.a 2)<|.c (.o [6] false [0] (.k .c<|.c (.a 3) .n)<|.aB .a (.d<|H 1)<|.i 87<|.c (.a 0)<|.c (.d<|H 255) .n)<|.c (.aB .a (.a 3)<|.i 87<|.c (.a 0)<|.c (.d<|H 20) .n)<|.c (.aP (.m<|.c (.d<|H 5)<|.c (.d<|H 7)<|.c (.d<|H 5)<|.c (.d<|H 1) .n)<|.i 87<|.c (.a 0)<|.c (.d<|H 4) .n) .n) .n)<|.c (.b (.bC<|.c (.bA<|.a 1)<|.c (.aG .d (.i 87<|.c (.a 0)<|.c (.d<|H 3) .n)<|.d<|H 0) .n) (.c (.a 5<|.aB .a (.aB .a (.a 2)<|.aP (.E 4<|.d<|H 0)<|.d<|H 2)<|.i 87<|.c (.a 0)<|.c (.d<|H 50) .n)<|.c (.a 3<|.i 87<|.c (.a 0)<|.c (.d<|H 20) .n)<|.c (.q 4<|.q<|.c (.a 5)<|.c (.o [7] false [0] (.k .c<|.c (.a 3) .n)<|.aB .a (.d<|H 1)<|.i 87<|.c (.a 0)<|.c (.d<|H 255) .n)<|.c (.aB .a (.aB .a (.a 3)<|.d<|H 1)<|.i 87<|.c (.a 0)<|.c (.d<|H 30) .n)<|.c (.aP (.m<|.c (.d<|H 6)<|.c (.d<|H 4)<|.c (.d<|H 2) .n)<|.i 87<|.c (.a 0)<|.c (.d<|H 3) .n) .n) .n) .n)<|.c (.s 4) .n)
def LZ:sx:={a:=2,e:=8,b:=[],c:=false,d:=LY}
def L0:r_:=(.c (.d<|.aB .b (.aB .h (.aB .d (.aB .a (.a 0)<|.a 1)<|.d<|H 1)<|.a 1)<|.a 1) .n)
def L1:sx:={a:=2,e:=2,b:=[],c:=false,d:=L0}
def Cp:r_:=(.c (.a 3<|.aB .b (.aB .h (.aB .d (.a 3)<|.a 5)<|.d<|H 16)<|.d<|H 16)<|.c (.b (.aG .b (.a 3)<|.a 1) (.c (.d<|.d .e) .n) .n)<|.c (.q 4<|.a 3) .n)
def L2:r_:=(.c (.k [3,4] [none,(D tE.a)]<|.c (.a 2) .n)<|.c (.h [5] false (.aB .a (.o [6] false [] (.a 0)<|.aB .a (.k .a<|.c (.a 6) .n)<|.d<|H 1)<|.m<|.c (.aB .b (.d<|H 4)<|.aB .a (.k .a<|.c (.a 0) .n)<|.d<|H 1) .n) Cp)<|.c (.s 4) .n)
def L3:sx:={a:=3,e:=7,b:=[],c:=false,d:=L2}
def Cq:r_:=(.c (.a 10<|.F 4 (.a 9)<|.q<|.c (.d<|.d false)<|.c (.d<|.d false)<|.c (.d<|.d false) .n)<|.c (.v 4 (.a 9)<|.q<|.c (.bL<|.c (.aP (.a 10)<|.d<|H 0)<|.c (.aG .d (.a 8)<|.d<|H 1) .n)<|.c (.bL<|.c (.aP (.a 10)<|.d<|H 1)<|.c (.aG .c (.aB .f (.aB .h (.a 8)<|.d<|H 2)<|.d<|H 2)<|.d<|H 1) .n)<|.c (.bL<|.c (.aP (.a 10)<|.d<|H 2)<|.c (.aG .c (.aB .f (.a 8)<|.d<|H 2)<|.d<|H 1) .n) .n) .n)
def EP:r_:=(.c (.h [9] false (.k .c<|.c (.aB .b (.aB .h (.a 5)<|.a 1)<|.a 1)<|.c (.aB .a (.a 5)<|.a 7)<|.c (.a 1) .n) Cq) .n)
def EQ:r_:=(.c (.v 4 (.a 9)<|.q<|.c (.d<|.d true)<|.c (.d<|.d true)<|.c (.d<|.d false) .n) .n)
def L4:r_:=(.c (.o 4 tE.c)<|.c (.h [5,6,7,8] true (.a 0) EP)<|.c (.h [9] false (.k .c<|.c (.a 2)<|.c (.a 3)<|.c (.a 1) .n) EQ)<|.c (.v 4 (.aB .d (.a 2)<|.a 1)<|.q<|.c (.d<|.d false)<|.c (.d<|.d false)<|.c (.d<|.d false) .n)<|.c (.s 4) .n)
def L5:sx:={a:=4,e:=11,b:=[],c:=false,d:=L4}
def L6:r_:=(.c (.a 2<|.f 8 (.a 0)<|.c (.a 1)<|.c (.d<|H 4) .n)<|.c (.d<|.k .i<|.c (.o [3] false [2] (.k .c<|.c (.d<|H 4) .n)<|.aB .b (.aP (.a 2)<|.a 3)<|.aB .j (.d<|H 256)<|.a 3) .n) .n)
def L7:sx:={a:=2,e:=4,b:=[],c:=false,d:=L6}
def Cr:r_:=(.c (.a 9<|.k .k<|.c (.o [15] false [0,8] (.m<|.c (.l 91<|H 2)<|.c (.l 87<|H 4)<|.c (.l 129<|H 8) .n)<|.f 21 (.a 0)<|.c (.a 8)<|.c (.a 15) .n) .n)<|.c (.b (.bL<|.c (.aG .a (.f 16 (.a 0)<|.c (.a 8) .n)<|.aG .g (.a 8)<|.a 7)<|.c (.aG .a (.a 9)<|.eO (.a 7) (.a 8)<|.q<|.c (.d<|.d false)<|.c (.d<|.d false)<|.c (.d<|.d false) .n) .n) (.c .f .n) .n) .n)
def ER:r_:=(.c (.b (.bC<|.c (.aG .d (.a 13)<|.d<|H 1)<|.c (.aG .a (.k .e<|.c (.f 8 (.a 0)<|.c (.a 10)<|.c (.a 12) .n) .n)<|.aB .a (.a 11)<|.aB .b (.m<|.c (.d<|H 0) .n)<|.aB .d (.a 12)<|.k .a<|.c (.a 11) .n) .n) (.c .f .n) .n) .n)
def Cs:r_:=(.c (.b (.bL<|.c (.aG .a (.k .e<|.c (.f 51 (.a 0)<|.c (.aP (.a 3)<|.a 14)<|.c (.d<|H 99) .n) .n)<|.aP (.a 2)<|.a 14)<|.c (.aG .a (.i 94<|.c (.a 0)<|.c (.aB .a (.aP (.a 3)<|.bW<|.d<|H 1)<|.aB .b (.d<|H 4)<|.a 14) .n)<|.aP (.a 3)<|.a 14) .n) (.c .f .n) .n) .n)
def L8:r_:=(.c (.a 7<|.i 93<|.c (.a 1)<|.c (.a 4)<|.c (.a 5)<|.c (.a 6) .n)<|.c (.h [8] false (.k .c<|.c (.d<|H 0)<|.c (.aB .a (.a 6)<|.a 4)<|.c (.a 4) .n) Cr)<|.c (.h [10,11,12,13] true (.a 1) ER)<|.c (.h [14] false (.k .c<|.c (.k .a<|.c (.a 2) .n) .n) Cs)<|.c (.d<|.bC<|.c (.aG .c (.i 94<|.c (.a 0)<|.c (.aB .a (.aP (.a 3)<|.bW<|.d<|H 1)<|.aB .b (.d<|H 4)<|.k .a<|.c (.a 2) .n) .n)<|.d<|H 0)<|.c (.aG .c (.aD (.a 0) 63)<|.a 6) .n) .n)
def L9:sx:={a:=7,e:=16,b:=[],c:=false,d:=L8}
def L':r_:=(.c (.a 5<|.t 16<|.c (.d<|H 1) .n)<|.c (.b (.bA<|.a 4) (.c (.g (.a 5) 73<|.t 14<|.c (.a 0)<|.c (.a 1) .n)<|.c (.e<|.f 13 (.aD (.a 5) 73)<|.c (.d<|H 0)<|.c (.d<|H 1) .n) .n) .n)<|.c (.g (.a 5) 100<|.dJ (.d<|H 9)<|.d<|H 32)<|.c (.e<|.i 84<|.c (.a 5)<|.c (.a 2)<|.c (.d<|.f [110,97,109,101]) .n)<|.c (.x 6 (.d<|H 0)<|.d<|H 32)<|.c (.w 6 [2,10,11]<|.q<|.c (.aD (.a 2) 74)<|.c (.aD (.a 2) 75)<|.c (.aD (.a 2) 43) .n)<|.c (.t 6)<|.c (.b (.bL<|.c (.aG .a (.aD (.a 5) 100)<|.a 6)<|.c (.aG .a (.aD (.a 5) 101)<|.aD (.a 2) 7)<|.c (.aG .a (.aD (.a 5) 104)<|.d<|.f [110,97,109,101])<|.c (.aG .i (.aD (.a 5) 73)<|.aD (.a 2) 73) .n) (.c .f .n) .n)<|.c (.e<|.f 10 (.aD (.a 5) 73) .n)<|.c (.d<|.aG .c (.f 11 (.a 0) .n)<|.a 3) .n)
def L_:sx:={a:=5,e:=7,b:=[],c:=false,d:=L'}
def Ma:r_:=(.c (.z (.c (.e<|.i 83<|.c (.a 0)<|.c (.a 1)<|.c (.k .b<|.c (.a 2) .n)<|.c (.o [5] false [] (.a 3)<|.k .b<|.c (.a 5) .n)<|.c (.a 4) .n) .n)<|xm.c [5] (.c (.d<|.d<|.f [99,97,108,108]) .n)<|xm.c [2] (.c (.d<|.d<|.f [112,114,111,103,114,97,109]) .n)<|xm.c [4] (.c (.d<|.d<|.f [114,111,111,109]) .n) xm.n)<|.c .f .n)
def Mb:sx:={a:=5,e:=6,b:=[],c:=false,d:=Ma}
def ES:r_:=(.c (.e<|.f 12 (.a 1)<|.c (.a 14) .n) .n)
def Mc:r_:=(.c (.k [7,8] [none,none]<|.c (.i 87<|.c (.a 0)<|.c (.d<|H 5) .n)<|.c (.f 11 (.a 1) .n) .n)<|.c (.b (.aG .c (.a 7)<|.d<|H 0) (.c (.a 9<|.m<|.c (.i 97<|.c (.a 1)<|.c (.a 2)<|.c (.a 3)<|.c (.aB .b (.m<|.c (.m<|.c (.d<|H 97) .n) .n)<|.d<|H 17)<|.c (.a 6) .n)<|.c (.i 97<|.c (.a 1)<|.c (.a 2)<|.c (.a 3)<|.c (.m<|.c (.m<|.c (.d<|H 97)<|.c (.d<|H 0) .n) .n)<|.c (.a 6) .n) .n)<|.c (.a 10<|.m<|.c (.d<|.f [99,97,108,108])<|.c (.d<|.f [99,97,108,108]) .n) .n)<|.c (.b (.aG .c (.a 7)<|.d<|H 1) (.c (.a 11<|.aP (.m<|.c (.d<|H 0)<|.c (.d<|H 4)<|.c (.d<|H 5)<|.c (.d<|H 6)<|.c (.d<|H 16)<|.c (.d<|H 18)<|.c (.d<|H 42) .n)<|.i 87<|.c (.a 0)<|.c (.d<|H 7) .n)<|.c (.k [9,10] [none,none]<|.c (.m<|.c (.i 97<|.c (.a 1)<|.c (.a 2)<|.c (.aB .a (.aB .a (.cL (.a 3) .z<|.a 11)<|.m<|.c (.aB .k (.aP (.a 3)<|.a 11)<|.d<|H 4) .n)<|.cL (.a 3) (.aB .a (.a 11)<|.d<|H 1) .z)<|.c (.a 5)<|.c (.a 6) .n) .n)<|.c (.m<|.c (.d<|.f [112,114,111,103,114,97,109]) .n) .n) .n)<|.c (.b (.aG .c (.a 7)<|.d<|H 2) (.c (.k [9,10] [none,none]<|.c (.m<|.c (.i 97<|.c (.a 1)<|.c (.a 2)<|.c (.cL (.a 3) .z<|.i 87<|.c (.a 0)<|.c (.k .a<|.c (.a 3) .n) .n)<|.c (.a 5)<|.c (.a 6) .n) .n)<|.c (.m<|.c (.d<|.f [112,114,111,103,114,97,109]) .n) .n) .n)<|.c (.b (.aG .c (.a 7)<|.d<|H 3) (.c (.a 12<|.aB .a (.o [15,16,17,18] true [] (.cL (.a 4) .z<|.d<|H 1)<|.q<|.c (.a 15)<|.c (.a 16)<|.c (.a 17)<|.c (.a 18) .n)<|.m<|.c (.q<|.c (.aP (.aP (.a 4)<|.d<|H 0)<|.d<|H 0)<|.c (.m<|.c (.d<|H 5) .n)<|.c (.d<|H 1)<|.c (.d<|H 6) .n) .n)<|.c (.k [9,10] [none,none]<|.c (.m<|.c (.i 97<|.c (.a 1)<|.c (.a 2)<|.c (.i 89<|.c (.aP (.aP (.a 4)<|.d<|H 0)<|.d<|H 0)<|.c (.a 12) .n)<|.c (.a 5)<|.c (.a 6) .n) .n)<|.c (.m<|.c (.d<|.f [112,114,111,103,114,97,109]) .n) .n) .n)<|.c (.a 13<|.o [19] false [1] (.k .c<|.c (.aB .d (.a 8)<|.i 87<|.c (.a 0)<|.c (.d<|H 4) .n) .n)<|.f 50 (.a 1) .n)<|.c (.k [9,10] [none,none]<|.c (.m<|.c (.i 97<|.c (.a 1)<|.c (.a 2)<|.c (.a 3)<|.c (.a 5)<|.c (.a 6) .n) .n)<|.c (.m<|.c (.d<|.f [114,111,111,109]) .n) .n)<|.c (.h [14] false (.a 13) ES) .n) .n) .n) .n)<|.c (.d<|.bC<|.c (.aG .c (.a 9)<|.a 10)<|.c (.aG .c (.f 11 (.a 1) .n)<|.a 8) .n) .n)
def Md:sx:={a:=7,e:=20,b:=[],c:=false,d:=Mc}
def ET:r_:=(.c (.a 10<|.i 89<|.c (.a 8)<|.c (.m<|.c (.q<|.c (.a 8)<|.c (.aB .b (.m<|.c (.d<|H 7) .n)<|.d<|H 4)<|.c (.a 9)<|.c (.d<|H 5) .n) .n) .n)<|.c (.b (.bL<|.c (.aG .a (.i 97<|.c (.a 0)<|.c (.a 1)<|.c (.a 10)<|.c (.m .n)<|.c (.a 2) .n)<|.d<|.f [114,111,111,109])<|.c (.aG .a (.f 11 (.a 0) .n)<|.a 4) .n) (.c .f .n) .n) .n)
def Me:r_:=(.c (.k [3,4] [none,none]<|.c (.aD (.a 1) 58)<|.c (.f 11 (.a 0) .n) .n)<|.c (.a 5<|.aB .d (.aD (.a 1) 6)<|.aB .b (.aB .a (.d<|H 1)<|.aB .h (.aB .d (.aB .a (.a 2)<|.a 3)<|.d<|H 1)<|.a 3)<|.a 3)<|.c (.a 6<|.i 89<|.c (.aB .d (.a 5)<|.d<|H 8)<|.c (.m<|.c (.q<|.c (.aB .d (.a 5)<|.d<|H 8)<|.c (.aB .b (.m<|.c (.d<|H 7) .n)<|.d<|H 4)<|.c (.d<|H 8)<|.c (.d<|H 5) .n) .n) .n)<|.c (.a 7<|.i 83<|.c (.a 0)<|.c (.a 1)<|.c (.k .b<|.c (.a 6) .n)<|.c (.m .n)<|.c (.a 2) .n)<|.c (.b (.bL<|.c (.aG .a (.aD (.aD (.a 7) 73) 63)<|.aD (.a 1) 6)<|.c (.aG .a (.k .e<|.c (.f 8 (.aD (.a 7) 73)<|.c (.aB .d (.a 5)<|.d<|H 8)<|.c (.d<|H 8) .n) .n)<|.m<|.c (.d<|H 7)<|.c (.d<|H 7)<|.c (.d<|H 7)<|.c (.d<|H 7)<|.c (.d<|H 0)<|.c (.d<|H 0)<|.c (.d<|H 0)<|.c (.d<|H 0) .n) .n) (.c .f .n) .n)<|.c (.e<|.f 10 (.aD (.a 7) 73) .n)<|.c (.h [8,9] true (.m<|.c (.q<|.c (.aB .d (.a 5)<|.d<|H 8)<|.c (.d<|H 9) .n)<|.c (.q<|.c (.aB .d (.aD (.a 1) 6)<|.d<|H 4)<|.c (.d<|H 8) .n)<|.c (.q<|.c (.aB .d (.aD (.a 1) 6)<|.d<|H 4)<|.c (.d<|H 4) .n) .n) ET)<|.c (.a 7<|.i 83<|.c (.a 0)<|.c (.a 1)<|.c (.k .b<|.c (.i 89<|.c (.d<|H 0)<|.c (.m<|.c (.q<|.c (.d<|H 0)<|.c (.m<|.c (.d<|H 1) .n)<|.c (.d<|H 4)<|.c (.d<|H 5) .n) .n) .n) .n)<|.c (.aB .b (.m<|.c (.k .b<|.c (.m<|.c (.d<|H 97) .n) .n) .n)<|.d<|H 16)<|.c (.aB .a (.aB .b (.d<|H 16)<|.d<|H 16)<|.d<|H 80) .n)<|.c (.a 11<|.o [12] false [7] (.k .c<|.c (.d<|H 16) .n)<|.k .b<|.c (.f 51 (.aD (.a 7) 73)<|.c (.i 94<|.c (.aD (.a 7) 73)<|.c (.aB .a (.aD (.a 7) 43)<|.aB .b (.d<|H 4)<|.a 12) .n)<|.c (.d<|H 9) .n) .n)<|.c (.e<|.f 10 (.aD (.a 7) 73) .n)<|.c (.d<|.bC<|.c (.aG .c (.aD (.a 7) 75)<|.d<|H 16)<|.c (.aG .c (.a 11)<|.aB .b (.m<|.c (.d<|.m [97]) .n)<|.d<|H 16)<|.c (.aG .c (.f 11 (.a 0) .n)<|.a 4) .n) .n)
def Mf:sx:={a:=3,e:=13,b:=[],c:=false,d:=Me}
def EU:r_:=(.c (.a 2<|.aB .a (.aB .a (.a 2)<|.m<|.c (.d<|H 47) .n)<|.a 3) .n)
def Mg:r_:=(.c (.a 1<|.o [4] false [0] (.k .c<|.c (.aB .a (.d<|H 1)<|.i 87<|.c (.a 0)<|.c (.d<|H 3) .n) .n)<|.o [5] false [0] (.k .c<|.c (.i 87<|.c (.a 0)<|.c (.d<|H 4) .n) .n)<|.aB .a (.d<|H 97)<|.i 87<|.c (.a 0)<|.c (.d<|H 26) .n)<|.c (.a 2<|.k .e<|.c (.aP (.a 1)<|.d<|H 0) .n)<|.c (.h [3] false (.cL (.a 1) (.d<|H 1) .z) EU)<|.c (.d<|.aG .c (.i 82<|.c (.k .b<|.c (.a 2) .n) .n)<|.k .d<|.c (.o [6] false [] (.aP (.a 1)<|.bW<|.d<|H 1)<|.k .j<|.c (.a 6) .n) .n) .n)
def Mh:sx:={a:=1,e:=7,b:=[],c:=false,d:=Mg}
def zv:r_:=(.c (.q 5<|.o [19] false [1] (.k .c<|.c (.aP (.m<|.c (.d<|H 16)<|.c (.d<|H 0)<|.c (.d<|H 1)<|.c (.d<|H 2)<|.c (.d<|H 3)<|.c (.d<|H 5)<|.c (.d<|H 7)<|.c (.d<|H 9)<|.c (.d<|H 15)<|.c (.d<|H 17) .n)<|.i 87<|.c (.a 1)<|.c (.d<|H 10) .n) .n)<|.aB .a (.d<|H 97)<|.i 87<|.c (.a 1)<|.c (.d<|H 26) .n) .n)
def Mi:r_:=(.c (.p [1,2]<|.q<|.c (.i 86<|.c (.a 0) .n)<|.c (.aG .b (.k .i<|.c (.o [18] false [] (.a 0)<|.k .g<|.c (.a 18) .n) .n)<|.d<|H 2) .n)<|.c (.a 3<|.t 6<|.c (.s (.a 2) (.d<|H 5)<|.aB .a (.d<|H 5)<|.i 87<|.c (.a 1)<|.c (.d<|H 2) .n) .n)<|.c (.a 4<|.aD (.a 3) 58)<|.c (.o 5 tE.a)<|.c (.h [6] false (.k .c<|.c (.aP (.m<|.c (.d<|H 1)<|.c (.d<|H 0)<|.c (.d<|H 2)<|.c (.d<|H 3)<|.c (.d<|H 4)<|.c (.d<|H 5)<|.c (.d<|H 1)<|.c (.d<|H 2) .n)<|.i 87<|.c (.a 1)<|.c (.s (.a 2) (.d<|H 2)<|.d<|H 8) .n) .n) zv)<|.c (.t 5)<|.c (.a 7<|.t 12<|.c (.aB .b (.d<|H 64)<|.a 4) .n)<|.c (.a 8<|.t 13<|.c (.a 7)<|.c (.a 4)<|.c (.d<|H 63)<|.c (.a 4)<|.c (.d<|.d false) .n)<|.c (.a 9<|.i 90<|.c (.a 1)<|.c (.a 2) .n)<|.c (.a 10<|.aB .a (.aP (.aP (.a 9)<|.d<|H 0)<|.d<|H 0)<|.aB .b (.d<|H 4)<|.i 87<|.c (.a 1)<|.c (.k .h<|.c (.d<|H 1)<|.c (.aB .h (.aP (.aP (.a 9)<|.d<|H 0)<|.d<|H 2)<|.d<|H 4) .n) .n)<|.c (.a 11<|.aB .a (.d<|H 32)<|.s (.a 2) (.d<|H 0)<|.i 87<|.c (.a 1)<|.c (.d<|H 80) .n)<|.c (.k [12,13] [none,none]<|.c (.i 89<|.c (.a 10)<|.c (.a 9) .n)<|.c (.f 11 (.a 8) .n) .n)<|.c (.a 14<|.aB .a (.i 91<|.c (.aB .a (.aP (.aP (.a 9)<|.bW<|.d<|H 1)<|.d<|H 0)<|.aP (.aP (.a 9)<|.bW<|.d<|H 1)<|.d<|H 2)<|.c (.a 4) .n)<|.a 4)<|.c (.a 15<|.i 91<|.c (.aB .a (.a 14)<|.a 11)<|.c (.a 4) .n)<|.c (.a 16<|.i 92<|.c (.a 5)<|.c (.a 14)<|.c (.a 15) .n)<|.c (.b (.aG .f (.a 16)<|.d .e) (.c (.b (.bL<|.c (.aG .a (.i 97<|.c (.a 8)<|.c (.a 3)<|.c (.a 12)<|.c (.a 5)<|.c (.a 11) .n)<|.d<|.f [114,111,111,109])<|.c (.aG .a (.f 11 (.a 8) .n)<|.a 13) .n) (.c .f .n) .n) .n)<|.c (.a 17<|.i 83<|.c (.a 8)<|.c (.a 3)<|.c (.k .b<|.c (.a 12) .n)<|.c (.o [20] false [] (.a 5)<|.k .b<|.c (.a 20) .n)<|.c (.a 11) .n)<|.c (.b (.aG .a (.m<|.c (.aD (.a 17) 7)<|.c (.aD (.a 17) 75)<|.c (.aD (.a 17) 43)<|.c (.aD (.a 17) 74) .n)<|.m<|.c (.a 10)<|.c (.k .a<|.c (.a 5) .n)<|.c (.aP (.a 16)<|.bW<|.d<|H 1)<|.c (.aP (.a 16)<|.bW<|.d<|H 1) .n) (.c .f .n) .n)<|.c (.b (.bA<|.i 95<|.c (.aD (.a 17) 73)<|.c (.a 9)<|.c (.a 5)<|.c (.a 16)<|.c (.a 4)<|.c (.a 14)<|.c (.a 15) .n) (.c .f .n) .n)<|.c (.b (.bA<|.i 96<|.c (.a 8)<|.c (.a 3)<|.c (.a 17)<|.c (.a 13)<|.c (.bC<|.c (.bA<|.a 2)<|.c (.aG .c (.i 87<|.c (.a 1)<|.c (.d<|H 3) .n)<|.d<|H 0) .n) .n) (.c .f .n) .n) .n)<|.c (.b (.a 2) (.c (.d<|.i 100<|.c (.a 1) .n) .n) .n)<|.c (.b (.bC<|.c (.aG .c (.i 87<|.c (.a 1)<|.c (.d<|H 3) .n)<|.d<|H 0)<|.c (.bA<|.i 99<|.c (.a 8)<|.c (.a 3)<|.c (.a 11) .n) .n) (.c .f .n) .n)<|.c (.d<|.bC<|.c (.i 100<|.c (.a 1) .n)<|.c (.i 98<|.c (.a 1)<|.c (.a 8)<|.c (.a 3)<|.c (.a 12)<|.c (.a 9)<|.c (.a 5)<|.c (.a 11) .n) .n) .n)
def Mj:sx:={a:=1,e:=21,b:=[],c:=false,d:=Mi}
def EV:List sx:=[I',Ja,Jc,Je,Jg,Ji,Jk,Jm,Jo,Jq,Js,Ju,Jw,Jz,JB,JD,JF,JH,JJ,JL,JN,JP,JR,JT,JV,JX,JZ,J1,J3,J5,J7,J9,J_,Kb,Kd,Kf,Kh,Kj,Kl,Kn,Kp,Kr,Kt,Kv,Kx,Kz,KB,KD,KF,KH,KJ,KM,KO,KQ,KS,KU,KW,KY,K0,K1,K3,K5,K7,K9,K_,Lb,Ld,Lf,EJ,Lh,Lj,Ll,Ln,Lp,Lq,Ls,Lu,Lw,Ly,LA,LC,LF,LH,LJ,LL,LN,LQ,LS,LV,LX,LZ,L1,L3,L5,L7,L9,L_,Mb,Md,Mf,Mh,Mj]
def uR(i:Nat):Option sx:=EV[i]?
noncomputable def Ba:List (List<|Nat×Nat):=[[],[],[],[],[],[],[(0,0),(35,1),(2,2),(5,3),(52,4),(33,5),(7,6),(36,7)],[(0,8),(6,9),(18,10),(23,11)],[(0,12),(46,13)],[(0,14),(34,15),(31,16),(15,17),(54,18),(43,19)],[(0,20),(30,21),(29,22),(53,23),(49,24),(44,25),(45,26),(10,27)],[(0,28)],[(0,29),(24,30),(25,31),(54,32),(42,33),(20,34),(41,35),(22,36),(48,37),(55,38)],[(0,39),(3,40),(19,41),(17,42),(28,43),(11,44),(27,45),(9,46),(50,47),(12,48)],[(0,49),(26,50),(47,51),(7,52),(16,53),(44,54),(1,55),(13,56),(38,57),(14,58),(22,59),(37,60),(32,61),(21,62),(8,63),(51,64),(10,65)],[(0,66),(39,67),(40,68)],[(0,69),(4,70)]]
noncomputable def EW:List (Option Nat):=[none,none,none,none,none,none,D 0,D 8,D 12,D 14,D 20,D 28,D 29,D 39,D 49,D 66,D 69]
noncomputable def Mk:List Bool:=[false,false,false,false,false,false,true,true,true,true,true,true,false,false,false,false,false]
noncomputable def Ml:List (List Bool):=[[true,false,false,false,false,false],[true,true,false,false,false,false],[true,false,true,false,false,false],[true,false,false,true,false,false],[true,false,false,false,true,false],[true,false,false,false,false,true]]
noncomputable def Mm:List (List Nat):=[[0],[],[],[0],[],[],[0,35,2,5,52,33,7,36],[0,6,18,23],[0,76,6,46,22],[0,34,31,15,54,43],[0,30,29,53,7,36,49,44,45,10,51],[0],[0,18,24,25,54,42,20,15,41,22,48,55,79,44],[0,3,19,17,28,11,27,9,50,12,32],[0,26,47,7,16,44,1,13,38,14,22,37,32,21,8,51,54,42,10],[0,39,40],[0,4,63,43]]
def sK:I8:={c:=λh A=>(Ba[h]?).bind<|tV A,b:=λh=>(EW[h]?).join,e:=λh=>(Mk[h]?).getD false,d:=λb g=>((Ml[b]?).bind (·[g]?)).getD false,a:=λh b=>!((Mm[h]?).getD []).contains b}
noncomputable def tW:List String:=["__init__","add_page","address","address_of","clear","down","end","entry","fetch","filled","free","free_count","give","grow","guard","half","has","holders","holds","is_page","keep","lets","load","may","need","need_aligned","need_bounds","need_free","need_held","need_parts","new_table","number","own","pages_in","part","parts","physical","pieces","protect","push","push_texts","put_part","put_word","row","rows","rows_of","segment_at","slot","store","tables_of","take","text","up","walk","word","zero","page_bits","level_bits","page","entries","large","FLAG_BITS","octets","size","flags","MEMORY","segments","memory","layout","pages","ENTRY","VALID","FLAGS","space","stack","count","begin","words","MASK","fill","untouched","given","held","TAKEN","FREED","tables","root","WRITE_paging","RIGHTS","SOFT","USER","READ_paging","bottom","place","ALIGN","WORD_execute","pid","UNUSED","state","parent","registers","pc","files","cwd","name","channel","killed","status","in_call","progress","told","wakes","job","turns","MAGIC","CLASS_32","LOW_FIRST","VERSION","HEADER_SIZE","EXECUTABLE","MACHINE","ROW_SIZE","INTERPRETER","DYNAMIC","LOAD","READ_loader","WRITE_loader","RUN","LEAF","EXECUTE","MOST_ARGUMENTS","SLASH","SP","A0","A1","WORD_memory","SPACE"]
section
set_option backward.match.sparseCases false
section
variable{a0 b1:Type}
noncomputable def rN.aH(k:rN)(t:Option a0:=dv)(g:Bool->Option a0:=λ_=>dv)(r:Int->Option a0:=λ_=>dv)(l:List Nat->Option a0:=λ_=>dv)(M:List Int->Option a0:=λ_=>dv)(w:List rN->Option a0:=λ_=>dv) (n:List rN->Option a0:=λ_=>dv)(q:Int->Int->Int->Option a0:=λ_ _ _=>dv)(h:Nat->List (Nat×rN) ->Option a0:=λ_ _=>dv)(N:List (Int×rN) ->Option a0:=λ_=>dv)(a:Nat->Option a0:=λ_=>dv):Option a0:=@rN.casesOn (λ_=>Option a0) k t g r l M w n q h N a
noncomputable def sC.tb(j:sC)(w:List rN->Option a0:=λ_=>dv)(h:Nat->List (Nat×rN) ->Option a0:=λ_ _=>dv)(N:List (Int×rN) ->Option a0:=λ_=>dv)(M:List Int->Option a0:=λ_=>dv):Option a0:=@sC.casesOn (λ_=>Option a0) j w h N M
noncomputable def rQ.aC(q:rQ a0)(u:a0->rR->rQ b1):rQ b1:=kt q λm=>@uh.casesOn a0 (λ_=>rQ b1) m.1 (λb=>u b m.2) λh=>D (.b h,m.2)
noncomputable def se(j:Option a0)(d:rR):rQ a0:=j.map λb=>(.a b,d)
noncomputable def si(g:Bool)(j:Option a0):Option a0:=bif g then j else none
noncomputable def um(o:sg)(r:Nat):Option rN:=(o[r]?).bind λw=>@sm.casesOn (λ_=>Option rN) w none D λ_=>none
noncomputable def sR(o:sg)(r:Nat):Option sC:=(o[r]?).bind λw=>@sm.casesOn (λ_=>Option sC) w none (λ_=>none) D
noncomputable def uX(b:Int):Bool:=decide<|b.natAbs<2^64
noncomputable def tc(i:Int):List (Int×a0) ->Option a0
 |[]=>none
 |(L,k)::q=>if i=L then D k else tc i q
noncomputable def un(i:Int)(k:a0):List (Int×a0) ->List (Int×a0)
 |[]=>[(i,k)]
 |(L,z)::q=>if i=L then(L,k)::q else(L,z)::un i k q
noncomputable def uH(i:Int):List (Int×a0) ->List (Int×a0)
 |[]=>[]
 |(L,z)::q=>if i=L then q else(L,z)::uH i q
noncomputable def ut(i:Nat)(k:a0):List (Nat×a0) ->List (Nat×a0)
 |[]=>[(i,k)]
 |(L,z)::q=>if i=L then(L,k)::q else(L,z)::ut i k q
def uS(r:Int)(t:Nat):Option Nat:=si (decide (-4611686018427387904<=r)&&decide (r<4611686018427387904))<|ic r t
def Ag(k:rN):Option (Option Nat):=k.aH (t:=D dv) (r:=λr=>@Int.casesOn (λ_=>Option<|Option Nat) r (λt=>D<|D t) λ_=>none)
noncomputable def wH{b1:Type}(U:List b1)(b g:Option Nat):List b1:=(U.take<|g.getD U.length).drop<|b.getD 0
end
noncomputable def tQ(t:Nat):Bool:=decide<|t<=1000000
def vq:List rN->Option (List Int)
 |[]=>D []
 |k::q=>k.aH (r:=λr=>(vq q).map (r::·))
def yi:List rN->Option (List<|List Nat)
 |[]=>D []
 |k::q=>k.aH (l:=λr=>(yi q).map (r::·))
noncomputable def Bb(w:List Int):Bool:=w.all λr=>decide (0<=r)&&decide (r<256)
noncomputable def zw:List Int->Int
 |[]=>0
 |r::q=>r+zw q
noncomputable def yG(b g h:Int):Bool:=qO b g h&&decide (0<=mr b g h)
noncomputable def wI(b g h:Int):List Int:=(b_ (mr b g h).toNat).map λi:Nat=>b+h*(i:Int)
def tN(k:rN):Option (List rN):=k.aH (w:=D) (M:=λg=>D<|g.map rN.i) (q:=λb g h=>si (yG b g h)<|D<|(wI b g h).map rN.i)
def vU(u:rN->rN->Option Bool):List rN->List rN->Option Bool
 |[],m=>m.casesOn (D true) λ_ _=>none
 |b::q,m=>m.casesOn none λg m=>(u b g).bind λh=>si h<|vU u q m
def vL:Nat->rN->rN->Option Bool
 |0,b,g=>b.aH (g:=λb=>g.aH (g:=λg=>D<|b==g)) (r:=λb=>g.aH (r:=λg=>D<|decide<|b=g)) (l:=λb=>g.aH (l:=λg=>D<|decide<|b=g)) (M:=λb=>g.aH (M:=λg=>D<|decide<|b=g))
 |i+1,b,g=>b.aH (g:=λb=>g.aH (g:=λg=>D<|b==g)) (r:=λb=>g.aH (r:=λg=>D<|decide<|b=g)) (l:=λb=>g.aH (l:=λg=>D<|decide<|b=g)) (M:=λb=>g.aH (M:=λg=>D<|decide<|b=g)) (w:=λb=>g.aH (w:=vU (vL i) b)) (n:=λb=>g.aH (n:=vU (vL i) b))
def yj(d:rR)(k:rN):rN:=((k.aH (a:=λa=>(d[a]?).bind λj=>j.tb (w:=λU=>D<|rN.c U))).getD k)
def Ah(a:sT)(b g:Int):Option Int:=match a with
 |.a=>D<|b+g
 |.d=>D<|b -g
 |.b=>si (uX b||uX g)<|D<|b*g
 |.h=>si (!decide (g=0))<|D<|b.fdiv g
 |.f=>si (!decide (g=0))<|D<|b.fmod g
 |.j=>si (decide (0<=g)&&(decide (g<=1000)&&uX b))<|D<|b^g.toNat
 |.i=>si (decide (0<=g)&&(decide (g<=1000)&&uX b))<|D<|b*2^g.toNat
 |.g=>si (decide<|0<=g)<|D<|b.fdiv<|2^g.toNat
 |.c=>D<|je b g
 |.e=>D<|ms b g
 |.k=>D<|PySem.Builtin.bitXor b g
def Ct(i:Nat)(t:Int):Bool:=tQ (i*t.toNat)&&(decide (0<=t)&&decide (t<=1000000))
def EX(b g:rN):Option rN:=b.aH (r:=λb=>g.aH (r:=λg=>D<|.i<|b+g)) (M:=λb=>g.aH (M:=λg=>si (tQ<|b.length+g.length)<|D<|.m<|b++g)) (l:=λb=>g.aH (l:=λg=>si (tQ<|b.length+g.length)<|D<|.f<|b++g)) (w:=λb=>g.aH (w:=λg=>si (tQ<|b.length+g.length)<|D<|.c<|b++g))
def EY(b g:rN):Option rN:=b.aH (r:=λb=>g.aH (r:=λg=>(Ah .b b g).map rN.i)) (w:=λb=>g.aH (r:=λt=>si (Ct b.length t)<|D<|.c<|oo<|bi t.toNat b))
def tJ(a:sT)(b g:rN):Option rN:=match a with
 |.a=>EX b g
 |.b=>EY b g
 |a=>b.aH (r:=λb=>g.aH (r:=λg=>(Ah a b g).map rN.i))
noncomputable def EZ(a:tM)(b g:Int):Option Bool:=match a with
 |.b=>D<|decide<|b<g
 |.e=>D<|decide<|b<=g
 |.d=>D<|decide<|g<b
 |.h=>D<|decide<|g<=b
 |_=>none
def Bc(k:rN):Bool:=(k.aH (t:=D ())).isSome
def tm(d:rR)(c:tM)(b g:rN):Option Bool:=match c with
 |.f=>g.aH (t:=D<|Bc b)
 |.i=>g.aH (t:=D<|!Bc b) (a:=λi=>b.aH (a:=λa=>(d[a]?).bind λj=>j.tb (h:=λ_ _=>D<|!decide (a=i))))
 |.g=>b.aH (r:=λr=>g.aH (M:=λw=>si (decide (0<=r)&&decide (r<256))<|D<|w.contains r) (n:=λw=>(vq w).map λw=>w.contains r) (N:=λW=>D (tc r W).isSome))
 |.c=>vL 9 (yj d b)<|yj d g
 |.a=>(vL 9 (yj d b)<|yj d g).map (!·)
 |c=>b.aH (r:=λb=>g.aH (r:=λg=>EZ c b g))
def sP(k:rN):Option Bool:=k.aH (g:=D) (r:=λr=>D<|!decide (r=0))
def Mn(k r:rN):Option rN:=r.aH (r:=λr=>k.aH (w:=λU=>(uS r U.length).bind λi=>U[i]?) (n:=λU=>(uS r U.length).bind λi=>U[i]?) (M:=λU=>((uS r U.length).bind λi=>U[i]?).map rN.i))
def zx(j:sC)(r:rN):Option rN:=r.aH (r:=λr=>j.tb (w:=λU=>(uS r U.length).bind λi=>U[i]?) (N:=tc r))
def uY(d:rR)(k r:rN):Option rN:=(k.aH (a:=λa=>D<|(d[a]?).bind λj=>zx j r)).getD<|Mn k r
def Mo(k:rN)(b g:Option Nat):Option rN:=k.aH (w:=λU=>D<|.c<|wH U b g) (M:=λU=>D<|.m<|wH U b g) (n:=λU=>si (decide (U.length=4)&&(decide (b=none)&&decide (g=D 3)))<|D<|.j<|U.take 3)
def yH(k u a:rN):Option rN:=(Ag u).bind λb=>(Ag a).bind λg=>Mo k b g
def xJ(d:rR)(k:rN):Option (Nat×List (Nat×rN)):=k.aH (h:=λh a5=>D (h,a5)) (a:=λa=>(d[a]?).bind λj=>j.tb (h:=λh a5=>D (h,a5)))
def xK(d:rR)(k:rN)(b:Nat):Option rN:=(xJ d k).bind λm=>tV b m.2
def yI(j:sC):Option Nat:=j.tb (w:=λU=>D U.length) (M:=λU=>D U.length)
def E0(d:rR)(k:rN):Option Nat:=k.aH (w:=λU=>D U.length) (M:=λU=>D U.length) (a:=λa=>(d[a]?).bind yI)
def E1(k:rN):Option rN:=k.aH (r:=λt=>si (decide (0<=t)&&decide (t<=1000000))<|D<|.m<|bi t.toNat 0) (M:=λg=>D<|.m g) (w:=λU=>(vq U).bind λw=>si (Bb w)<|D<|.m w)
def E2(k:rN):Option rN:=k.aH (w:=λU=>D<|.c U) (M:=λg=>D<|.c<|g.map rN.i) (q:=λb g h=>si (yG b g h&&tQ (wI b g h).length)<|D<|.c<|(wI b g h).map rN.i)
noncomputable def xL(R:List rN)(i:rN->Option rN):Option rN:=R.casesOn none λk q=>q.casesOn (i k) λ_ _=>none
noncomputable def Mp(R:List rN)(i:rN->rN->Option rN):Option rN:=R.casesOn none λk q=>q.casesOn none λv m=>m.casesOn (i k v) λ_ _=>none
def Bd(R:List rN)(i:Int->Int->Option rN):Option rN:=Mp R λk v=>k.aH (r:=λb=>v.aH (r:=i b))
def E3(R:List rN):Option rN:=R.casesOn none λk q=>q.casesOn (k.aH (r:=λt=>D<|.o 0 t 1)) λv m=>m.casesOn none λc l=>l.casesOn (k.aH (r:=λb=>v.aH (r:=λg=>c.aH (r:=λh=>si (!decide (h=0))<|D<|.o b g h)))) λ_ _=>none
def Cu(w:List (List Nat)):Bool:=w.all (λl=>decide<|l.length<=16)&&(tQ w.length&&tQ w.flatten.length)
def uo(d:rR)(g:ue)(R:List rN):Option rN:=match g with
 |.a=>xL R λk=>(E0 d k).map H
 |.b=>xL R E1
 |.e=>xL R E2
 |.k=>xL R λk=>k.aH (w:=λU=>D<|.j U)
 |.f=>Bd R λb g=>D<|.i<|if g<b then g else b
 |.h=>Bd R λb g=>D<|.i<|if b<g then g else b
 |.c=>E3 R
 |.i=>xL R λk=>k.aH (w:=λU=>(vq U).map λw=>.i<|zw w)
 |.g=>xL R λk=>k.aH (r:=λb=>D<|.i b.natAbs)
 |.j=>xL R λk=>k.aH (r:=λb=>si (decide (0<=b)&&decide (b<256))<|D<|.f [b.toNat])
 |.l=>Bd R λb g=>si (!decide (g=0))<|D<|.j [.i<|b.fdiv g,.i<|b.fmod g]
 |.d=>xL R λk=>k.aH (w:=λU=>(yi U).bind λw=>si (Cu w)<|D<|.f w.flatten)
noncomputable def ue.dD:ue->Bool
 |.e|.b|.k|.i|.d|.f|.h=>true
 |_=>false
def vr(j:sC):Option rN:=j.tb (w:=λU=>D<|.c U) (N:=λW=>D<|.p W)
noncomputable def xM:tE->sC
 |.a=>.sr []
 |.c=>.tw []
 |.b=>.tH []
noncomputable def yJ(o:sg):List Nat->List rN->sg
 |[],_=>o
 |c::U,V=>V.casesOn o λk V=>yJ (o.set c<|.rL k) U V
def up(U:List Nat)(E:Bool)(k:rN)(o:sg):Option sg:=bif E then k.aH (n:=λV=>si (V.length==U.length)<|D<|yJ o U V) (w:=λV=>si (V.length==U.length)<|D<|yJ o U V)
 else U.casesOn none λc q=>q.casesOn (D<|o.set c<|.rL k) λ_ _=>none
noncomputable def xn(S:List Nat)(o:sg):sg:=o.zipIdx.map λs=>if S.contains s.2 then s.1 else .rT
def vM(a:sT)(z k:rN):Option rN:=z.aH (r:=λb=>k.aH (r:=λg=>(Ah a b g).map rN.i))
def Ai(k t:rN):Option (List rN):=t.aH (r:=λt=>si (decide (0<=t)&&decide (t<=1000000))<|D<|bi t.toNat k)
def Aj(i N:rN)(W:List (Int×rN)):Option rN:=i.aH (r:=λr=>D<|(tc r W).getD N)
def E4(d:rR)(k i N:rN):Option rN:=k.aH (N:=Aj i N) (a:=λa=>(d[a]?).bind λj=>j.tb (N:=Aj i N))
noncomputable def ws(j:sC):Bool:=j.casesOn (λ_=>true) (λ_ _=>false) (λ_=>false)<|λ_=>true
def Ak(d:rR)(k:rN):Bool:=(k.aH (a:=λa=>(d[a]?).bind λj=>j.tb (w:=λ_=>D ()))).isSome
def zy(d:rR)(k:rN):Bool:=(k.aH (N:=λ_=>D ()) (a:=λa=>(d[a]?).bind λj=>j.tb (N:=λ_=>D ()))).isSome
def yk(j:xH)(d:rR)(k:rN):Bool:=xH.casesOn (motive:=λ_=>Bool) j (λ_=>true) true true true true (Ak d k) true
def yK(j:xI)(d:rR)(k:rN):Bool:=xI.casesOn (motive:=λ_=>Bool) j (λ_=>true) (λ_=>true) true (zy d k) (Ak d k) true
def yL(j:zt)(d:rR)(k:rN):Bool:=zt.casesOn (motive:=λ_=>Bool) j true (zy d k)<|zy d k
def wJ(j:xH)(k:rN)(d:rR):rQ rN:=match j with
 |.b b=>se (xK d k b) d
 |.c=>se (k.aH (r:=λr=>D<|.i<|dk r)) d
 |.e=>se (k.aH (r:=λr=>D<|.i<| -r)) d
 |.f=>se ((sP k).map λg=>.d<|!g) d
 |.a=>se (k.aH (M:=λg=>D<|.m g.reverse)) d
 |.d=>k.aH (a:=λa=>(d[a]?).bind λj=>j.tb (w:=λU=>(U.getLast?).bind λc=>sv c<|d.set a<|.sr U.dropLast))
 |.g=>se (k.aH (r:=λ_=>D<|.d true)) d
def Al(d:rR)(k i:rN)(N:Option rN):rQ rN:=k.aH (a:=λa=>(d[a]?).bind λj=>j.tb (N:=λW=>i.aH (r:=λr=>(tc r W).casesOn (se N d) λc=>sv c<|d.set a<|.tw<|uH r W)))
def wK(j:xI)(k v:rN)(d:rR):rQ rN:=match j with
 |.a b=>se (tJ b k v) d
 |.b b=>se ((tm d b k v).map rN.d) d
 |.c=>se (uY d k v) d
 |.e=>Al d k v none
 |.d=>k.aH (a:=λa=>(d[a]?).bind λj=>j.tb (w:=λU=>si (tQ U.length)<|sv .e<|d.set a<|.sr<|U++[v]))
 |.f=>rQ.aC (se (Ai k v) d) λV d=>sv (.b d.length)<|d++[.sr V]
def wt(j:zt)(k v z:rN)(d:rR):rQ rN:=match j with
 |.a=>se (yH k v z) d
 |.c=>se (E4 d k v z) d
 |.b=>Al d k v<|D z
abbrev Be:=Bool->Nat->List rN->rR->rQ rN
def tO(u:rN->rR->rQ rN):List rN->rR->rQ (List rN)
 |[],d=>sv [] d
 |c::q,d=>rQ.aC (u c d) λk d=>rQ.aC (tO u q d) λV d=>sv (k::V) d
section
variable(a9:Be) (a8:Bool)
mutual
def tj:Q->sg->rR->rQ rN
 |.d k,_,d=>sv k d
 |.l _ k,_,d=>sv k d
 |.a r,o,d=>se (um o r) d
 |.r j b,o,d=>rQ.aC (tj b o d) λk d=>si (yk j d k)<|wJ j k d
 |.u j b g,o,d=>rQ.aC (tj b o d) λk d=>si (yK j d k)<|rQ.aC (tj g o d) λv d=>wK j k v d
 |.A j b g h,o,d=>rQ.aC (tj b o d) λk d=>si (yL j d k)<|rQ.aC (tj g o d) λv d=>rQ.aC (tj h o d) λz d=>wt j k v z d
 |.x r b,o,d=>(sR o r).bind λj=>se (j.tb (h:=λ_ a5=>tV b a5)) d
 |.w b X,o,d=>rQ.aC (tj b o d) λk d=>vs X k o d
 |.v h W,o,d=>yM h W o d
 |.s n b g,o,d=>rQ.aC (tj n o d) λk d=>(sP k).bind λh=>bif h then tj b o d else tj g o d
 |.E c r,o,d=>(sR o c).bind λj=>rQ.aC (tj r o d) λv d=>se (zx j v) d
 |.z,_,d=>sv .e d
 |.q W,o,d=>rQ.aC (wL W o d) λV d=>sv (.j V) d
 |.m W,o,d=>rQ.aC (wL W o d) λV d=>sv (.c V) d
 |.i u W,o,d=>rQ.aC (wL W o d) λV d=>a9 false u V d
 |.f A e W,o,d=>rQ.aC (tj e o d) λk d=>((xJ d k).bind λm=>sK.c m.1 A).bind λu=>rQ.aC (wL W o d) λV d=>a9 false u (k::V) d
 |.t h W,o,d=>rQ.aC (wL W o d) λV d=>a9 true h V d
 |.k g W,o,d=>rQ.aC (wL W o d) λV d=>si (!(g.dD&&a8))<|se (uo d g V) d
 |.y c,o,d=>(sR o c).bind λj=>se ((yI j).map H) d
 |.C c,o,d=>(sR o c).bind λj=>se (j.tb (M:=λg=>D<|.m g)) d
 |.F c i N,o,d=>(sR o c).bind λj=>j.tb (N:=λW=>rQ.aC (tj i o d) λi d=>rQ.aC (tj N o d) λN d=>se (Aj i N W) d)
 |.I W,o,d=>rQ.aC (wL W o d) λV d=>sv (.b d.length)<|d++[.sr V]
 |.L,_,d=>sv (.b d.length)<|d++[.tw []]
 |.o U E S b7 b',o,d=>rQ.aC (tj b7 o d) λk d=>(tN k).bind λw=>si (tQ w.length)<|rQ.aC (tO (λc d=>(up U E c<|xn S o).bind λo=>tj b' o d) w d) λV d=>sv (.c V) d
 |_,_,_=>none
def wL:Q->sg->rR->rQ (List rN)
 |.n,_,d=>sv [] d
 |.c e W,o,d=>rQ.aC (tj e o d) λk d=>rQ.aC (wL W o d) λV d=>sv (k::V) d
 |_,_,_=>none
def vs:Q->rN->sg->rR->rQ rN
 |.p j e .n,k,o,d=>rQ.aC (tj e o d) λv d=>se ((tm d j k v).map rN.d) d
 |.p j e X,k,o,d=>rQ.aC (tj e o d) λv d=>(tm d j k v).bind λn=>si n<|vs X v o d
 |_,_,_,_=>none
def yM(h:Bool):Q->sg->rR->rQ rN
 |.c e .n,o,d=>tj e o d
 |.c e W,o,d=>rQ.aC (tj e o d) λk d=>(sP k).bind λg=>bif g==h then sv k d else yM h W o d
 |_,_,_=>none
end
end
set_option genInjectivity false in
inductive tR:Type where
 |sS
 |Am
 |wM (k:rN)
 |uu (h:Nat)
abbrev rV:=Option<|tR×sg×rR
noncomputable def rV.aN{a0:Type}(q:rQ a0)(o:sg)(u:a0->rR->rV):rV:=kt q λm=>@uh.casesOn a0 (λ_=>rV) m.1 (λb=>u b m.2) λh=>D (.uu h,o,m.2)
noncomputable def rV.aF(q:rV)(u:sg->rR->rV):rV:=q.bind λm=>@tR.casesOn (λ_=>rV) m.1 (u m.2.1 m.2.2) (D m) (λ_=>D m) λ_=>D m
noncomputable def rV.bM(q:rV)(u:sg->rR->rV):rV:=q.bind λm=>@tR.casesOn (λ_=>rV) m.1 (u m.2.1 m.2.2) (u m.2.1 m.2.2) (λ_=>D m) λ_=>D m
def An(n:sg->rR->rQ rN)(g:sg->rR->rV):Nat->sg->rR->rV
 |0,_,_=>none
 |t+1,o,d=>rV.aN (n o d) o λk d=>(sP k).bind λh=>bif h then rV.bM (g o d)<|An n g t else D (.sS,o,d)
def Ao(g:rN->sg->rR->rV):List rN->sg->rR->rV
 |[],o,d=>D (.sS,o,d)
 |c::q,o,d=>rV.bM (g c o d)<|Ao g q
noncomputable def yN(w:sm):Bool:=@sm.casesOn (λ_=>Bool) w false (λ_=>false) λ_=>true
def wu:Bool->List sm->Bool
 |_,[]=>true
 |g,w::q=>bif yN w then g&&wu false q else wu g q
noncomputable def xN(o:sg):List Nat->List sm->sg
 |[],_=>o
 |c::U,X=>X.casesOn o λw X=>xN (o.set c w) U X
def wN(j:sC)(r k:rN):Option sC:=r.aH (r:=λr=>j.tb (w:=λU=>si (decide<|0<=r)<|(uS r U.length).map λi=>.sr<|U.set i k) (N:=λW=>si (tQ W.length)<|D<|.tw<|un r k W))
def Ap:sC->List Int->List rN->Option sC
 |j,[],V=>V.casesOn (D j) λ_ _=>none
 |j,r::a0,V=>V.casesOn none λk V=>(wN j (.i r) k).bind λj=>Ap j a0 V
noncomputable def vF(a5:List (Nat×rN)):Bool:=decide<|a5.length<=1000
def vg(d:rR)(k:rN)(b:Nat)(c:rN):Option rR:=k.aH (a:=λa=>(d[a]?).bind λj=>j.tb (h:=λh a5=>si (sK.a h b&&vF a5)<|D<|d.set a<|.sW h<|ut b c a5))
def wO(d:rR)(v r k:rN):Option rR:=v.aH (a:=λi=>((d[i]?).bind λj=>wN j r k).map λj=>d.set i j)
def xO(k:rN)(j:sC):Option sC:=j.tb (w:=λU=>si (tQ U.length)<|D<|.sr<|U++[k]) (M:=λg=>k.aH (r:=λr=>si (tQ g.length&&(decide (0<=r)&&decide (r<256)))<|D<|.tH<|g++[r]))
def yO(k:rN)(j:sC):Option sC:=j.tb (w:=λU=>k.aH (w:=λa=>si (tQ<|U.length+a.length)<|D<|.sr<|U++a)) (M:=λg=>k.aH (M:=λa=>si (tQ<|g.length+a.length)<|D<|.tH<|g++a))
noncomputable def rV.aW(j:Option sC)(c:Nat)(o:sg)(d:rR):rV:=j.map λj=>(.sS,o.set c<|.sl j,d)
noncomputable def rV.bZ(j:Option sg)(d:rR):rV:=j.map λbZ=>(.sS,bZ,d)
noncomputable def rV.bU(j:Option rR)(o:sg):rV:=j.map λbU=>(.sS,o,bU)
def E5(k:rN):Bool:=(k.aH (l:=λl=>si (tQ l.length)<|D ()) (r:=λi=>si (uX i)<|D ())).isSome
section
variable(a9:Be) (a8:Bool)
def yl:List (Option tE) ->Q->sg->rR->rQ (List sm)
 |[],_,_,d=>sv [] d
 |some i::a',W,o,d=>rQ.aC (yl a' W o d) λX d=>sv (.sl (xM i)::X) d
 |none::a',.c e W,o,d=>rQ.aC (tj a9 a8 e o d) λk d=>rQ.aC (yl a' W o d) λX d=>sv (.rL k::X) d
 |_,_,_,_=>none
end
abbrev tu:=Option<|Option Nat
section
variable(a9:Bool->Be)
mutual
def vV(a:tu):sp->sg->rR->rV
 |.e e,o,d=>rV.aN (tj (a9 a.isSome) a.isSome e o d) o λ_ d=>D (.sS,o,d)
 |.a c e,o,d=>rV.aN (tj (a9 a.isSome) a.isSome e o d) o λk d=>D (.sS,o.set c<|.rL k,d)
 |.g j b e,o,d=>rV.aN (tj (a9 a.isSome) a.isSome e o d) o λk d=>rV.aN (tj (a9 a.isSome) a.isSome j o d) o λv d=>rV.bU (vg d v b k) o
 |.i c b e,o,d=>(sR o c).bind λj=>rV.aN (tj (a9 a.isSome) a.isSome e o d) o λk d=>rV.aW (j.tb (h:=λh a5=>si (sK.a h b&&vF a5)<|D<|.sW h<|ut b k a5)) c o d
 |.m j r e,o,d=>rV.aN (tj (a9 a.isSome) a.isSome e o d) o λk d=>rV.aN (tj (a9 a.isSome) a.isSome j o d) o λv d=>rV.aN (tj (a9 a.isSome) a.isSome r o d) o λr d=>rV.bU (wO d v r k) o
 |.v c r e,o,d=>(sR o c).bind λj=>rV.aN (tj (a9 a.isSome) a.isSome e o d) o λk d=>rV.aN (tj (a9 a.isSome) a.isSome r o d) o λr d=>rV.aW (wN j r k) c o d
 |.p U e,o,d=>rV.aN (tj (a9 a.isSome) a.isSome e o d) o λk d=>rV.bZ (up U true k o) d
 |.k U a' W,o,d=>si (!a.isSome)<|rV.aN (yl (a9 a.isSome) a.isSome a' W o d) o λX d=>si (wu true X.reverse&&X.length==U.length)<|D (.sS,xN o U.reverse X.reverse,d)
 |.w c a0 e,o,d=>(sR o c).bind λj=>rV.aN (tj (a9 a.isSome) a.isSome e o d) o λk d=>rV.aW (k.aH (n:=Ap j a0)) c o d
 |.o c i,o,d=>D (.sS,o.set c<|.sl<|xM i,d)
 |.x c e t,o,d=>rV.aN (tj (a9 a.isSome) a.isSome e o d) o λk d=>rV.aN (tj (a9 a.isSome) a.isSome t o d) o λt d=>rV.aN (se (Ai k t) d) o λV d=>D (.sS,o.set c<|.sl<|.sr V,d)
 |.F c W,o,d=>rV.aN (wL (a9 a.isSome) a.isSome W o d) o λV d=>D (.sS,o.set c<|.sl<|.sr V,d)
 |.t c,o,d=>(sR o c).bind λj=>(vr j).bind λk=>D (.sS,o.set c<|.rL k,d)
 |.q c e,o,d=>(sR o c).bind λj=>si (ws j)<|rV.aN (tj (a9 a.isSome) a.isSome e o d) o λk d=>rV.aW (xO k j) c o d
 |.y c e,o,d=>(sR o c).bind λj=>si (ws j)<|rV.aN (tj (a9 a.isSome) a.isSome e o d) o λk d=>rV.aW (yO k j) c o d
 |.l f c e,o,d=>(um o c).bind λz=>rV.aN (tj (a9 a.isSome) a.isSome e o d) o λk d=>rV.bZ ((vM f z k).map λh=>o.set c<|.rL h) d
 |.A f j b e,o,d=>rV.aN (tj (a9 a.isSome) a.isSome j o d) o λv d=>rV.aN (rQ.aC (se (xK d v b) d) λz d=>rQ.aC (tj (a9 a.isSome) a.isSome e o d) λk d=>se (vM f z k) d) o λh d=>rV.bU (vg d v b h) o
 |.b n b g,o,d=>rV.aN (tj (a9 a.isSome) a.isSome n o d) o λk d=>(sP k).bind λh=>bif h then vV a b o d else vV a g o d
 |.r t n g,o,d=>An (λo d=>tj (a9 a.isSome) a.isSome n o d) (λo d=>vV a g o d) t o d
 |.h U E b7 g,o,d=>rV.aN (tj (a9 a.isSome) a.isSome b7 o d) o λk d=>(tN k).bind λw=>Ao (λc o d=>(up U E c o).bind λo=>vV a g o d) w o d
 |.d e,o,d=>rV.aN (tj (a9 a.isSome) a.isSome e o d) o λk d=>D (.wM k,o,d)
 |.s c,o,d=>(sR o c).bind λj=>(vr j).bind λk=>D (.wM k,o,d)
 |.j h b,o,d=>si (!a.isSome)<|b.casesOn (λ_=>D (.uu h,o,d)) λr _=>(um o r).bind λk=>si (E5 k)<|D (.uu h,o,d)
 |.C,o,d=>a.bind λa=>a.bind λh=>D (.uu h,o,d)
 |.z g p,o,d=>si (!a.isSome)<|(vV none g o d).bind λm=>@tR.casesOn (λ_=>rV) m.1 (D m) (D m) (λ_=>D m) λh=>ym h p m.2.1 m.2.2
 |.E,o,d=>D (.Am,o,d)
 |.n,o,d=>D (.sS,o,d)
 |.c l a1,o,d=>rV.aF (vV a l o d) λo d=>vV a a1 o d
 |_,_,_=>none
def ym(h:Nat):sp->sg->rR->rV
 |.u L g p,o,d=>bif L.any (sK.d h)then vV (D<|D h) g o d else ym h p o d
 |_,_,_=>none
end
end
noncomputable def uA(N:sx)(R:List rN):Option sg:=if R.length<=N.a/\N.a<=R.length+N.b.length then D<|(R++N.b.drop (R.length+N.b.length -N.a)).map sm.rL++bi (N.e -N.a) .rT
 else none
def rV.bQ(q:rV):rQ rN:=q.bind λm=>@tR.casesOn (λ_=>rQ rN) m.1 (sv .e m.2.2) none (λk=>sv k m.2.2) λh=>I7 h m.2.2
def rV.bV(q:rV):rQ rN:=q.bind λm=>@tR.casesOn (λ_=>rQ rN) m.1 ((sR m.2.1 0).bind λj=>j.tb (h:=λh a5=>sv (.s h a5) m.2.2)) none (λ_=>none) λ_=>none
noncomputable def tZ(a:Bool):tu:=bif a then D none else none
def td:Nat->Bool->Be
 |0,_,_,_,_,_=>none
 |t+1,a,false,u,R,d=>(uR u).bind λN=>si (!N.c)<|(uA N R).bind λo=>(vV (td t) (tZ a) N.d o d).bQ
 |t+1,a,true,h,R,d=>(sK.b h).bind λu=>(uR u).bind λN=>bif sK.e h then si N.c<|(uA N<|.e::R).bind λo=>(vV (td t) (tZ a) N.d (o.set 0<|.sl<|.sW h []) d).bV
   else rQ.aC (td t a false u (.b d.length::R)<|d++[.sW h []]) λk a9=>k.aH (t:=sv (.b d.length) a9)
end
section
open PySem.W PyProof.Rows PySem.Calls
theorem uL{A t:au a0}{a4:a0->ai->Prop}{a2:ab->ai->Prop}(a:A=t)(f:ap d y t a4 a2 l):ap d y A a4 a2 l:=J a f
theorem uM{A t:au a0}{a4:a0->ai->Prop}{a2:ab->ai->Prop}(a:A=t)(f:rY d y t a4 a2 l):rY d y A a4 a2 l:=J a f
inductive sU{a0 b1:Type}(P:a0->b1->Prop):List a0->List b1->Prop
 |n:sU P [] []
 |c {b:a0} {g:b1} {w:List a0} {A:List b1}:P b g->sU P w A->sU P (b::w) (g::A)
section
variable{P:a0->b1->Prop} {w:List a0} {A:List b1}
theorem sU.aY(a:sU P w A):w.length=A.length:=by
 induction a with
 |n=>rfl
 |c _ _ b=>exact G (·+1) b
theorem sU.eD{f:List a0}{a7:List b1}(a:sU P w A)(M:sU P f a7):sU P (w++f) (A++a7):=by
 induction a with
 |n=>exact M
 |c c _ b=>exact .c c b
theorem sU.bO{d:a0->b1->Prop}(u:∀b g,P b g->d b g)(a:sU P w A):sU d w A:=by
 induction a with
 |n=>exact .n
 |c c _ e=>exact .c (u _ _ c) e
theorem sU.eU(a:sU P w A):∀{i:Nat} {g:b1},A[i]?=D g->∃b,w[i]?=D b/\P b g:=by
 induction a with
 |n=>exactλ{i g} e=>sq<|show none=D g from e
 |c c _ d=>exactλ{i g} e=>@mu (λi=>(_::_)[i]?=D g->∃b,(_::_)[i]?=D b/\P b g) i (λe=>sn _ B<|sa (ak e) c) (λi e=>d e) e
theorem sU.aU{b:a0}{g:b1}(c:P b g)(a:sU P w A):∀i:Nat,sU P (w.set i b)<|A.set i g:=by
 induction a with
 |n=>exactλ_=>.n
 |c M q d=>exactλi=>@mu (λi=>sU P ((_::_).set i b)<|(_::_).set i g) i (.c c q) λi=>.c M<|d i
end
inductive sY:Type where
 |b
 |g (k:rN)
 |d (i:Nat)
 |e (g:al)
 |c
abbrev sw:=al->sY
noncomputable def sw.aU(O:sw)(b:al)(q:sY):sw:=λg=>if g=b then q else O g
@[simp] theorem sw.cC(O:sw)(b:al)(q:sY):O.aU b q b=q:=by simp[sw.aU]
theorem sw.bR(O:sw)(q:sY)(a:g≠b):O.aU b q g=O g:=by simp[sw.aU,a]
def vZ(O:sw)(z:ab)(k:rN):Prop:=∃b,z=.ref b/\O b=.g k
def rZ(O:sw)(z:ab)(k:rN):Prop:=@rN.casesOn (λ_=>Prop) k (z=.none) (λg=>z=.bool g) (λr=>∃n,z=.int r n) (λw=>∃c n,z=.str c n/\c.cps.toList=w/\w.length<=2000000) (λw=>∃g n,z=.bytes g n/\g.toList.map (λz=>(z.toNat:Int))=w/\w.length<=2000000) (λU=>vZ O z<|.c U) (λU=>vZ O z<|.j U) (λr L i=>vZ O z<|.o r L i) (λh a5=>vZ O z<|.s h a5) (λW=>vZ O z<|.p W)<|λi=>∃b,z=.ref b/\O b=.d i
abbrev tn(O:sw):List ab->List rN->Prop:=sU<|rZ O
def te(i:Nat):aj:=ie<|(tW[i]?).getD ""
set_option genInjectivity false in
structure s_ where
 v_:co
 sN:ba
 Mq:de
 sM:Nat->al
 vl:Nat->al
noncomputable abbrev sH:jc:=PySem.Challenge.pw_nu0106_01
abbrev sj(X:s_):es:=aq sH X.v_
def wP(O:sw)(W:List jf)(a5:List (Nat×rN)):Prop:=sU (λe u=>(∃n,e.key=.str (te u.1) n)/\rZ O e.val u.2) W a5
structure wQ(X:s_)(O:sw)(a:ba)(b:al)(h:Nat)(a5:List (Nat×rN)):Prop where
 i:∃c d e W f,a.get? b=D c/\c.cls=.ref (X.sM h)/\(notCls c=true/\∀V,c.data≠.fields V)/\c.dict=D d/\O d=.e b/\a.get? d=D e/\e.data=.dict W f/\wP O W.toList a5
 g:∀u∈a5,sK.a h u.1=true/\u.1<tW.length
 j:(sK.b h).isSome=true
 k:a5.length<=2000
abbrev yP(O:sw)(a:Int×ab)(e:Int×rN):Prop:=a.1=e.1/\rZ O a.2 e.2
structure wa(X:s_)(O:sw)(a:ba)(b:al)(W:List (Int×rN)):Prop where
 d:∃c:List (Int×ab),a.DictOf (hs sH X.v_) b c/\sU (yP O) c W/\c.length<=2000000
def tf(X:s_)(O:sw)(a:ba)(b:al):sC->Prop
 |.sr U=>∃V:List ab,a.PlainList b V.toArray/\tn O V U/\V.length<=2000000
 |.sW h a5=>wQ X O a b h a5
 |.tw W=>wa X O a b W
 |.tH g=>∃U:Array UInt8,a.get? b=D {cls:=.type "bytearray",data:=.bytearray U 0}/\U.toList.map (λz=>(z.toNat:Int))=g/\U.size<=2000000
set_option backward.match.sparseCases false in
def uV(X:s_)(O:sw)(a:ba)(b:al):rN->Prop
 |.c U=>tf X O a b<|.sr U
 |.s h a5=>tf X O a b<|.sW h a5
 |.p W=>tf X O a b<|.tw W
 |.j U=>∃V:List ab,IsTup a b V.toArray/\tn O V U/\V.length<=2000000
 |.o r L i=>i≠0/\∃n z k,IsRange a b r L i n z k
 |_=>False
def uz(a9:al->Prop)(O:sw)(b:al):Prop:=match O b with
 |.b=>a9 b
 |.g _=>False
 |.d _=>True
 |.c=>a9 b
 |.e g=>match O g with
  |.b=>a9 g
  |.g _=>False
  |_=>True
structure sQ(a9:al->Prop)(O:sw)(a:ba)(b2:sw)(a3:ba):Prop where
 A:∀b j,a.get? b=D j->∃b9,a3.get? b=D b9
 y:∀b,O b≠.b->b2 b=O b
 z:∀b j,a.get? b=D j->O b=.b->¬a9 b->b2 b=.b
 C:∀b j,a.get? b=D j->¬uz a9 O b->∃a0,a3.get? b=D {j with slots:=a0}/\(O b≠.c->a0=j.slots)
 E:∀b g,O b=.e g->∃j,a.get? g=D j
theorem sQ.aX(c:∀b g,O b=.e g->∃j,a.get? g=D j):sQ a9 O a O a:=⟨λb j e=>⟨j,e⟩,λ_ _=>B,λ_ _ _ e _=>e,λb j e _=>sn j.slots e<|λ_=>B,c⟩
theorem sQ.aM(c:sQ a9 O a o q)(M:sQ d o q r s)(f:∀b j,a.get? b=D j->d b->a9 b):sQ a9 O a r s:=by
 refine⟨λb j e=>?_,λb e=>?_,λb j e a' b2=>?_,λb j e t=>?_,c.E⟩
 ·obtain⟨b9,c0⟩:=c.A b j e;exact M.A b b9 c0
 ·have a':=c.y b e;refine sa a' ?_;exact M.y b<|J a'<|e
 ·obtain⟨b9,c0⟩:=c.A b j e;exact M.z b b9 c0 (c.z b j e a' b2) λm=>b2<|f b j e m
 ·refine sh (c.C b j e t) λa0 a' b2=>?_;have u:¬uz d o b:=by
   intro n;unfold uz at t n
   cases m:O b with
   |b=>
    rw[m]at t;rw[c.z b j e m t]at n;exact t<|f b j e n
   |g k=>have n:=m▸(c.y b<|by refine m▸?_;exactλf=>nomatch f)▸n;exact n
   |d i=>have t:=m▸t;exact t trivial
   |c=>
    have t:=m▸t;rw[c.y b<|by refine J m ?_;exactλf=>sY.noConfusion f,m]at n;exact t<|f b j e n
   |e g=>
    rw[m]at t;have n:=m▸(c.y b<|by refine m▸?_;exactλf=>nomatch f)▸n;dsimp only at t n
    obtain⟨p,a7⟩:=c.E b g m;cases l:O g with
    |b=>
     have t:=l▸t;rw[c.z g p a7 l t]at n;exact t<|f g p a7 n
    |g k=>rw[c.y g (by refine l▸?_;exactλf=>nomatch f),l]at n;exact n
    |d i=>rw[l]at t;exact t trivial
    |c=>rw[l]at t;exact t trivial
    |e h=>rw[l]at t;exact t trivial
  refine sh (M.C b _ a' u) λv b6 a2=>sn v b6<|λw=>?_;have x:o b≠.c:=by
   cases m:O b with
   |b=>unfold uz at t;rw[m]at t;refine J (c.z b j e m t) ?_;exactλf=>sY.noConfusion f
   |c=>exact absurd m w
   |_=>rw[c.y b<|by refine J m ?_;exactλf=>sY.noConfusion f,m];exactλf=>sY.noConfusion f
  exact(a2 x).trans<|b2 w
theorem sQ.aQ(c:sQ a9 O a b2 a3)(f:∀b j,a.get? b=D j->a9 b->d b):sQ d O a b2 a3:=(sQ.aX c.E).aM c f
theorem sY.cG{q:sY}(a:q=.g k):q≠.b:=λf=>sY.noConfusion<|a.symm.trans f
theorem sY.eT{q:sY}(a:q=.d i):q≠.b:=λf=>sY.noConfusion<|a.symm.trans f
theorem sY.dF{q:sY}(a:q=.c):q≠.b:=λf=>sY.noConfusion<|a.symm.trans f
theorem vZ.aQ(q:∀b,O b≠.b->b2 b=O b)(c:vZ O z k):vZ b2 z k:=c.imp λb M=>⟨M.1,(q b<|sY.cG M.2).trans M.2⟩
theorem rZ.aQ(q:∀b,O b≠.b->b2 b=O b)(c:rZ O z k):rZ b2 z k:=@rN.casesOn (λk=>rZ O z k->rZ b2 z k) k id (λ_=>id) (λ_=>id) (λ_=>id) (λ_=>id) (λ_=>vZ.aQ q) (λ_=>vZ.aQ q) (λ_ _ _=>vZ.aQ q) (λ_ _=>vZ.aQ q) (λ_=>vZ.aQ q) (λ_ c=>c.imp λb M=>⟨M.1,(q b<|sY.eT M.2).trans M.2⟩) c
theorem tn.aQ(q:∀b,O b≠.b->b2 b=O b)(c:tn O k s):tn b2 k s:=c.bO λ_ _ M=>M.aQ q
theorem wP.aQ(q:∀b,O b≠.b->b2 b=O b)(c:wP O W a5):wP b2 W a5:=sU.bO (λ_ _ M=>⟨M.1,M.2.aQ q⟩) c
theorem tf.aS(c:tf X O a b j)(q:∀b,O b≠.b->b2 b=O b) (i:∀j,a.get? b=D j->a3.get? b=D j)(x:∀N j,O N=.e b->a.get? N=D j->a3.get? N=D j):tf X b2 a3 b j:=by
 cases j with
 |sr U=>
  refine tp c λV p f w=>?_;obtain⟨t,M⟩:=p;exact⟨V,⟨t,i _ M⟩,f.aQ q,w⟩
 |sW h a5=>
  obtain⟨⟨r,o,s,W,e,S,d,k,m,n,u,v,y⟩,l,z,t⟩:=c;exact⟨⟨r,o,s,W,e,i _ S,d,k,m,by refine ae (q o<|λf=>sY.noConfusion<|n.symm.trans f) ?_;exact n,x _ _ n u,v,y.aQ q⟩,l,z,t⟩
 |tw W=>
  obtain⟨⟨A,⟨j,E,e,S,d⟩,k,m⟩⟩:=c;exact⟨⟨A,(zq j E e (i _ S) d),k.bO λ_ _ f=>⟨f.1,f.2.aQ q⟩,m⟩⟩
 |tH g=>
  exact sh c λU S d=>sn U (i _ S) d
theorem uV.aS(c:uV X O a b k)(q:∀b,O b≠.b->b2 b=O b) (i:∀j,a.get? b=D j->a3.get? b=D j)(x:∀N j,O N=.e b->a.get? N=D j->a3.get? N=D j):uV X b2 a3 b k:=by
 cases k with
 |c U=>exact tf.aS (X:=X) (j:=.sr U) c q i x
 |s h a5=>exact tf.aS (j:=.sW h a5) c q i x
 |p W=>exact tf.aS (j:=.tw W) c q i x
 |j U=>
  refine tp c λV d f w=>?_;obtain⟨j,S,g,l⟩:=d;exact⟨V,(tv j (i _ S) g l),f.aQ q,w⟩
 |o r L A=>
  obtain⟨h,n,z,k,e⟩:=c;exact⟨h,n,z,k,i _ e⟩
 |_=>exact c
structure tx(X:s_)(O:sw)(a:ba)(d:rR):Prop where
 T:∀b,O b≠.b->∃j,a.get? b=D j
 I:∀b g,O b=.e g->∃j,a.get? g=D j
 R:∀b k,O b=.g k->uV X O a b k
 F:∀b i,O b=.d i->∃j,d[i]?=D j/\tf X O a b j
 inj:∀b g i,O b=.d i->O g=.d i->b=g
 U:∀i,i<d.length->∃b,O b=.d i
 C:X.sN.StaysIn a
 P:∀b j,X.sN.get? b=D j->O b=.b
theorem tx.aX(b1:tx X O a d):sQ a9 O a O a:=sQ.aX b1.I
theorem tx.eY(b1:tx X O a d)(l:∀b j,a.get? b=D j->∃b9,a3.get? b=D b9) (i:∀b j,a.get? b=D j->O b≠.b->O b≠.c->(∀g,O b=.e g->O g≠.b) ->a3.get? b=D j)(n:X.sN.StaysIn a3):tx X O a3 d:=by
 refine⟨λb e=>?_,λb g e=>?_,λb k e=>?_,λb L e=>?_,b1.inj,b1.U,n,b1.P⟩
 ·obtain⟨j,m⟩:=b1.T b e;exact l b j m
 ·obtain⟨j,m⟩:=b1.I b g e;exact l g j m
 ·exact(b1.R b k e).aS (λ_ _=>B) (λj m=>i b j m (λf=>nomatch e.symm.trans f) (λf=>sY.noConfusion<|e.symm.trans f) λg f=>sY.noConfusion<|e.symm.trans f) λN j c h=>i N j h (λf=>nomatch c.symm.trans f) (λf=>nomatch c.symm.trans f) λg f v=>nomatch e.symm.trans ((G O<|sY.e.inj<|c.symm.trans f).trans v)
 ·exact sh (b1.F b L e) λj c h=>⟨j,c,h.aS (λ_ _=>B) (λj m=>i b j m (λf=>nomatch e.symm.trans f) (λf=>sY.noConfusion<|e.symm.trans f) λg f=>sY.noConfusion<|e.symm.trans f) λN j c h=>i N j h (λf=>nomatch c.symm.trans f) (λf=>nomatch c.symm.trans f) λg f v=>nomatch e.symm.trans ((G O<|sY.e.inj<|c.symm.trans f).trans v)⟩
theorem tx.cY(b1:tx X O a d)(i:∀b j,a.get? b=D j->a3.get? b=D j):tx X O a3 d:=b1.eY (λb j e=>⟨j,i b j e⟩) (λb j e _ _ _=>i b j e) λb j e=>i b j<|b1.C b j e
theorem sQ.cY(b1:tx X O a d)(i:∀b j,a.get? b=D j->a3.get? b=D j):sQ a9 O a O a3:=⟨λb j e=>⟨j,i b j e⟩,λ_ _=>B,λ_ _ _ e _=>e,λb j e _=>sn j.slots (i b j e)<|λ_=>B,b1.I⟩
theorem Aq{O:sw}(e:O b=.b):∀g,O g≠.b->O.aU b q g=O g:=λg a7=>by
 by_cases m:g=b
 ·subst m;exact absurd e a7
 ·exact sw.bR _ _ m
theorem tx.cS{X:s_}{O:sw}{a:ba}{d:rR}(b1:tx X O a d){b:al}{j:Obj}{q:sY}(e:O b=.b)(o:a.get? b=D j)(p:X.sN.get? b=none) (l:match q with
   |.b=>False
   |.g k=>uV X O a b k
   |.d i=>False
   |.e g=>∃j,a.get? g=D j
   |.c=>True):tx X (O.aU b q) a d:=by
 have n:=Aq (q:=q) e;refine⟨λg m=>?_,λg h m=>?_,λg k m=>?_,λg i m=>?_,λg h i r s=>?_,λi t=>?_,b1.C,λg j m=>?_⟩
 ·by_cases f:g=b
  ·subst f;exact⟨j,o⟩
  ·rw[sw.bR _ _ f]at m;exact b1.T g m
 ·by_cases f:g=b
  ·subst f;rw[sw.cC]at m;subst m;exact l
  ·rw[sw.bR _ _ f]at m;exact b1.I g h m
 ·by_cases f:g=b
  ·subst f;rw[sw.cC]at m;subst m;exact uV.aS l n (λ_ c=>c) λ_ _ _ c=>c
  ·rw[sw.bR _ _ f]at m;exact(b1.R g k m).aS n (λ_ c=>c) λ_ _ _ c=>c
 ·by_cases f:g=b
  ·subst f;rw[sw.cC]at m;subst m;exact l.elim
  ·rw[sw.bR _ _ f]at m;exact sh (b1.F g i m) λj S u=>⟨j,S,u.aS n (λ_ c=>c) λ_ _ _ c=>c⟩
 ·have:∀g,O.aU b q g=.d i->O g=.d i:=λg m=>by
   by_cases f:g=b
   ·subst f;rw[sw.cC]at m;subst m;exact l.elim
   ·rwa [sw.bR _ _ f]at m
  exact b1.inj g h i (this g r)<|this h s
 ·obtain⟨g,m⟩:=b1.U i t;exact⟨g,by refine ae (n g<|λf=>sY.noConfusion<|m.symm.trans f) ?_;exact m⟩
 ·have:g≠b:=λf=>by subst f;rw[p]at m;exact sq m
  refine J (sw.bR _ _ this) ?_;exact b1.P g j m
theorem tx.jB(b1:tx X O a d)(e:O b=.b)(t:a.get? b=D j)(u:X.sN.get? b=none) (w:tf X O a b A):tx X (O.aU b<|.d d.length) a (d++[A]):=by
 have l:=Aq (q:=.d d.length) e;refine⟨λg m=>?_,λg h m=>?_,λg k m=>?_,λg i m=>?_,λg h i x y=>?_,λi s=>?_,b1.C,λg j m=>?_⟩
 ·by_cases f:g=b
  ·subst f;exact⟨j,t⟩
  ·rw[sw.bR _ _ f]at m;exact b1.T g m
 ·by_cases f:g=b
  ·subst f;rw[sw.cC]at m;cases m
  ·rw[sw.bR _ _ f]at m;exact b1.I g h m
 ·by_cases f:g=b
  ·subst f;rw[sw.cC]at m;cases m
  ·rw[sw.bR _ _ f]at m;exact(b1.R g k m).aS l (λ_ c=>c) λ_ _ _ c=>c
 ·by_cases f:g=b
  ·subst f;rw[sw.cC]at m;obtain rfl:=sY.d.inj m;exact sn A (by simp)<|tf.aS w l (λ_ c=>c) λ_ _ _ c=>c
  ·rw[sw.bR _ _ f]at m;exact sh (b1.F g i m) λj S z=>sn j (by refine ae (fu (List.getElem?_eq_some_iff.mp S).1) ?_;exact S)<|z.aS l (λ_ c=>c) λ_ _ _ c=>c
 ·have p:∀g,O.aU b (.d d.length) g=.d i->g=b/\i=d.length\/O g=.d i/\i<d.length:=λg m=>by
   by_cases f:g=b
   ·subst f;rw[sw.cC]at m;obtain rfl:=sY.d.inj m;exact .inl ⟨B,B⟩
   ·have m:=(sw.bR _ _ f)▸m;exact sh (b1.F g i m) λj S v=>.inr ⟨m,(List.getElem?_eq_some_iff.mp S).1⟩
  rcases p g x with⟨n,o⟩|⟨n,o⟩<;>rcases p h y with⟨q,r⟩|⟨q,r⟩
  ·exact J n<|q▸B
  ·exact absurd o<|et r
  ·exact absurd r<|et o
  ·exact b1.inj g h i n q
 ·rw[bm,List.length_singleton]at s;by_cases f:i=d.length
  ·subst f;exact⟨b,sw.cC ..⟩
  ·obtain⟨g,m⟩:=b1.U i<|by exact ku (ck s) f
   exact⟨g,by refine ae (l g<|λf=>sY.noConfusion<|m.symm.trans f) ?_;exact m⟩
 ·have:g≠b:=λf=>by subst f;have m:=u▸m;exact sq m
  exact J (sw.bR _ _ this)<|b1.P g j m
theorem sQ.fM(b1:tx X O a d)(e:O b=.b)(v:a9 b):sQ a9 O a (O.aU b q) a:=by
 refine⟨λb j e=>⟨j,e⟩,Aq e,λg j _ a' b2=>?_,λb j e _=>sn j.slots e<|λ_=>B,b1.I⟩;have:g≠b:=λf=>by subst f;exact b2 v
 exact J (sw.bR _ _ this) a'
theorem tx.cZ(b1:tx X O a d)(e:O b=.d i)(a8:N=b\/O N=.e b)(s:cf N a a3) (w:∃j,a3.get? N=D j)(x:tf X O a3 b A):tx X O a3 (d.set i A):=by
 have y:O N≠.b:=by rcases a8 with rfl|m<;>simp_all
 have z:i<d.length:=by refine sh (b1.F b i e) λj S v=>?_;exact(List.getElem?_eq_some_iff.mp S).1
 have t:∀g j,a.get? g=D j->∃b9,a3.get? g=D b9:=λg j m=>by
  by_cases f:g=N
  ·subst f;exact w
  ·exact⟨j,(s.2 g f).trans m⟩
 have r:∀g j,a.get? g=D j->g≠b->(∀h,O g=.e h->h≠b) ->a3.get? g=D j:=λg j m n p=>by
  refine(s.2 g λf=>?_).trans m;rcases a8 with a8|a8
  ·exact n<|f.trans a8
  ·rw[<-f]at a8;exact p b a8 B
 refine⟨λg m=>?_,λg h m=>?_,λg k m=>?_,λg L m=>?_,b1.inj,λL E=>?_,λg j m=>?_,b1.P⟩
 ·obtain⟨j,f⟩:=b1.T g m;exact t g j f
 ·refine bk (b1.I g h m) λj f=>?_;exact t h j f
 ·have o:g≠b:=λf=>by have m:=e▸f▸m;cases m
  refine(b1.R g k m).aS (λ_ _=>B) (λj c=>r g j c o λh f=>by have f:=m▸f;cases f) λu j l q=>r u j q (λf=>by have l:=e▸f▸l;cases l) λh n p=>?_;replace n:=l▸n;cases n;exact o p
 ·by_cases o:g=b
  ·subst o;replace m:=e▸m;obtain rfl:=sY.d.inj m;exact sn A (by simp[z]) x
  ·refine sh (b1.F g L m) λj l q=>?_;have M:i≠L:=λf=>by subst f;exact o<|b1.inj g b i m e
   refine⟨j,by refine ae (jg M) ?_;exact l,q.aS (λ_ _=>B) (λj c=>r g j c o λh f=>by have f:=m▸f;cases f) λu j l q=>r u j q (λf=>by have l:=e▸f▸l;cases l) λh n p=>?_⟩;replace n:=l▸n;cases n;exact o p
 ·exact b1.U L<|by rwa [eu]at E
 ·refine(s.2 g λf=>?_).trans<|b1.C g j m;subst f;exact y<|b1.P g j m
theorem sQ.cZ(b1:tx X O a d)(e:O b=.d i)(a8:N=b\/O N=.e b)(c:cf N a a3) (h:∃j,a3.get? N=D j):sQ a9 O a O a3:=by
 refine⟨λg j m=>?_,λ_ _=>B,λ_ _ _ e _=>e,λg j m t=>sn j.slots ((c.2 g λf=>t ?_).trans m)<|λ_=>B,b1.I⟩
 ·by_cases f:g=N
  ·subst f;exact h
  ·exact⟨j,(c.2 g f).trans m⟩
 ·subst f;unfold uz;rcases a8 with rfl|a8
  ·refine J e ?_;trivial
  ·refine a8▸?_;dsimp only;refine J e ?_;trivial
theorem sQ.aW(b1:tx X O a d)(a8:uz a9 O N)(b:cf N a a3)(c:∃j,a3.get? N=D j):sQ a9 O a O a3:=by
 refine⟨λg j m=>?_,λ_ _=>B,λ_ _ _ e _=>e,λg j m t=>sn j.slots ((b.2 g λf=>t<|J f a8).trans m)<|λ_=>B,b1.I⟩;by_cases f:g=N
 ·subst f;exact c
 ·exact⟨j,(b.2 g f).trans m⟩
theorem tx.aW(b1:tx X O a d)(a8:O N=.b\/O N=.c)(c:X.sN.get? N=none)(b:cf N a a3)(e:∃j,a3.get? N=D j):tx X O a3 d:=by
 refine b1.eY (λg j m=>?_) (λg j m h i _=>(b.2 g λf=>?_).trans m) λg j m=>(b.2 g λf=>?_).trans<|b1.C g j m
 ·by_cases f:g=N
  ·subst f;exact e
  ·exact⟨j,(b.2 g f).trans m⟩
 ·subst f;rcases a8 with a8|a8
  ·exact h a8
  ·exact i a8
 ·subst f;exact sq<|sa c m
theorem tx.bH(b1:tx X O a d)(e:a.get? b=none):O b=.b/\X.sN.get? b=none:=by
 refine⟨?_,?_⟩
 ·cases m:O b with
  |b=>rfl
  |_=>obtain⟨j,f⟩:=b1.T b<|λf=>sY.noConfusion<|m.symm.trans f;rw[e]at f;exact sq f
 ·cases m:X.sN.get? b with
  |none=>rfl
  |some j=>rw[b1.C b j m]at e;exact va e
theorem uW(a:ba):a.get? a.objs.size=none:=by
 cases m:a.get? a.objs.size with
 |none=>rfl
 |some j=>exact absurd (eg m)<|kv _
structure sA(X:s_)(O:sw)(l:ai)(d:rR):Prop where
 h:tx X O l.heap d
 m:l.gens=#[]
 o:l.os=X.Mq
theorem sA.bE(c:sA X O l d){n:ct}:sA X O {l with toks:=n} d:=⟨c.h,c.m,c.o⟩
theorem sA.dE(c:sA X O l d){n:ct}(r:tx X b2 a a9):sA X b2 {l with heap:=a,toks:=n} a9:=⟨r,c.m,c.o⟩
theorem sA.hK(c:sA X O l d)(r:tx X b2 a a9):sA X b2 {l with heap:=a} a9:=⟨r,c.m,c.o⟩
set_option genInjectivity false in
structure tT where
 sb:cj
 uZ:List cj
 tq:Nat->Option aj
 wR:al
 yQ:ba
 uc:Bool
 zz:al->Prop
 zA:Option (aj×al):=none
def to(o:cj)(a:ba)(c:aj)(k:ab):Prop:=(o.kindOf c=D .local/\∃A,a.Ns o.locals A/\A c=D k)\/(o.kindOf c=D .cell/\∃h,o.cells.lookup c=D h/\a.IsCell h (D k))
def uN(O:sw)(a:ba)(c0:List cj):Prop:=∀o∈c0,o.scope.kind≠.module/\∃U j,o.frame=D U/\O U=.c/\a.get? U=D j/\∀V,j.data≠.fields V
structure ty(P:tT):Prop where
 d:P.sb.scope.kind=.function
 i:P.sb.globals=cb
 j:P.sb.builtins=ff
 f:P.sb.frame=D P.wR
 g:∃a b,P.uZ=a::b/\a.frame=D P.wR/\(∀e∈b,e.frame≠D P.sb.locals)/\a.scope.isGenerator=false/\a.scope.isCoroutine=false/\a.builtins=ff/\a.globals=cb
 k:∀c M h,P.sb.cells.lookup c=D h->P.sb.cells.lookup M=D h->c=M
 inj:∀r L c,P.tq r=D c->P.tq L=D c->r=L
 l:∀r c,P.tq r=D c->P.sb.kindOf c=D .local\/(P.sb.kindOf c=D .cell/\∃h,P.sb.cells.lookup c=D h)
def ud(P:tT):al->Prop:=λb=>P.yQ.get? b=none/\¬P.zz b
def yR(X:s_)(P:tT)(b:al):Prop:=(P.uc=true->ud P b)/\X.sN.get? b=none/\∀M,P.sb.cells.lookup M≠D b
def wS(X:s_)(P:tT)(O:sw)(a:ba)(c:aj)(w:sm):Prop:=@sm.casesOn (λ_=>Prop) w True (λk=>∃z,to P.sb a c z/\rZ O z k) λj=>∃b,to P.sb a c (.ref b)/\O b=.b/\yR X P b/\tf X O a b j
structure Fb(X:s_)(P:tT)(O:sw)(a:ba):Prop where
 Qu:∃A,a.Ns P.sb.locals A
 Qv:O P.sb.locals=.c
 Qw:ud P P.sb.locals
 Qx:X.sN.StaysIn P.yQ
 Qy:∀b j,P.yQ.get? b=D j->∃b9,a.get? b=D b9
 Qz:∀b,P.zz b->∃j,a.get? b=D j
 Qs:∀c h,P.sb.cells.lookup c=D h->O h=.b/\(X.sN.get? h=none/\(P.uc=true->ud P h))/\∃k,a.IsCell h k
 Qt:uN O a P.uZ
 Ra:∀M b,P.zA=D (M,b) ->to P.sb a M (.ref b)
structure tA(X:s_)(P:tT)(O:sw)(a:ba)(T:sg):Prop extends Fb X P O a where
 C:∀r c w,P.tq r=D c->T[r]?=D w->wS X P O a c w
 F:∀r L c M j b9 b,P.tq r=D c->T[r]?=D (.sl j) ->P.tq L=D M->T[L]?=D (.sl b9) ->to P.sb a c (.ref b) ->to P.sb a M (.ref b) ->r=L
def Ar:al->Prop:=λ_=>False
structure vH(a9:al->Prop)(P:tT)(a:ba)(T:sg):Prop where
 E:¬a9 P.sb.locals
 w:∀M w,P.sb.cells.lookup M=D w->¬a9 w
 z:∀r M z b,P.tq r=D M->T[r]?=D (.sl z) ->to P.sb a M (.ref b) ->¬a9 b
 F:∀o∈P.uZ,∀U,o.frame=D U->¬a9 U
theorem vH.aI{P:tT}{a:ba}{T:sg}:vH Ar P a T:=⟨id,λ_ _ _=>id,λ_ _ _ _ _ _ _=>id,λ_ _ _ _=>id⟩
def vI(a a3:ba)(b:al):Prop:=∃j a0,a.get? b=D j/\a3.get? b=D {j with slots:=a0}
section
variable{X:s_} {P:tT} {O b2:sw} {a a3:ba} {T:sg} {a9:al->Prop}
theorem vI.iI(c:vI a a3 b):vI a3 a b:=c.elim λj f=>f.elim λa0 f=>uw {j with slots:=a0} j.slots f.2 f.1
theorem vI.iJ(c:vI a a3 b){a1:Data->Prop}(f:∃j,a.get? b=D j/\a1 j.data):∃j,a3.get? b=D j/\a1 j.data:=c.elim λj v=>v.elim λa0 v=>f.elim λb9 m=>sn _ v.2<|ak (m.1.symm.trans v.1)▸m.2
theorem vI.hA(c:vI a a3 b)(f:a.Ns b A):a3.Ns b A:=(c.iJ (a1:=λN=>∃W d,N=.dict W d/\StrKeys W/\∀a',nsFind W a'=A a')<|f.elim λj f=>f.elim λW f=>f.elim λd f=>sn j f.1<|vK W d f.2).elim λj f=>f.2.elim λW v=>v.elim λd v=>zq j W d f.1 v
theorem vI.iK(c:vI a a3 b)(f:a.IsCell b k):a3.IsCell b k:=c.iJ (a1:=λN=>N=.cell k) f
theorem Ns.cE(c:a.Ns b A)(M:a.Ns b a7):A=a7:=by
 refine wq c λj W i S f v g=>wq M λb9 k l d e v h=>?_;replace d:=S▸d;obtain rfl:=ak d;replace e:=f▸e;cases e
 funext t;exact ae (az<|g ..)<|J (h ..) B
theorem to.eF(f:to P.sb a M k)(w:vI a a3 P.sb.locals)(h:∀h,P.sb.cells.lookup M=D h->vI a a3 h):to P.sb a3 M k:=f.imp (λf=>⟨f.1,f.2.imp λA f=>⟨w.hA f.1,f.2⟩⟩) λf=>⟨f.1,f.2.imp λb f=>⟨f.1,(h b f.1).iK f.2⟩⟩
theorem sQ.eF(c:sQ a9 O a b2 a3)(e:a.get? b=D j)(t:¬uz a9 O b):vI a a3 b:=(c.C b j e t).elim λa0 f=>uw j a0 e f.1
theorem sQ.fN(c:sQ a9 O a b2 a3)(e:a.get? b=D j)(t:¬uz a9 O b)(w:O b≠.c):a3.get? b=D j:=(c.C b j e t).elim λa0 f=>f.1.trans<|G _<|G _<|f.2 w
theorem Cv(a:O b=.b)(v:¬a9 b):¬uz a9 O b:=by unfold uz;exact J a v
theorem Cw(a:O b=.c)(v:¬a9 b):¬uz a9 O b:=by unfold uz;exact J a v
theorem E6(a:O b=.g k):¬uz a9 O b:=by unfold uz;exact J a<|λf=>f
theorem sQ.cR(c:sQ a9 O a b2 a3)(q:O b=.b)(v:¬a9 b)(e:a.get? b=D j):a3.get? b=D j:=c.fN e (Cv q v)<|J q<|nofun
theorem tf.cJ(c:tf X O a b j):∃d,a.get? b=D d/\∀V,d.data≠.fields V:=@sC.casesOn (λj=>tf X O a b j->_) j (λ_ c=>c.elim λ_ f=>f.1.elim λ_ f=>sn _ f<|λV m=>nomatch m) (λ_ _ c=>c.i.elim λd f=>f.elim λ_ f=>f.elim λ_ f=>f.elim λ_ f=>f.elim λ_ f=>sn d f.1 f.2.2.1.2) (λ_ c=>c.d.elim λ_ f=>f.1.elim λd f=>f.elim λ_ f=>f.elim λ_ f=>sn d f.1<|λV m=>nomatch m.symm.trans f.2.2.1) (λ_ c=>c.elim λ_ f=>sn _ f.1<|λV m=>nomatch m) c
theorem tf.cR(c:tf X O a b j)(e:sQ a9 O a b2 a3)(q:O b=.b)(v:¬a9 b):tf X b2 a3 b j:=c.aS e.y (λj m=>e.cR q v m) λN j d f=>e.fN f (by unfold uz;refine d▸?_;dsimp only;exact J q v)<|d▸(nofun)
theorem uN.bI(c:uN O a c0)(e:sQ a9 O a b2 a3)(v:∀o∈c0,∀U,o.frame=D U->¬a9 U):uN b2 a3 c0:=λo d=>by
 obtain⟨i,U,j,S,b,f,g⟩:=c o d;exact sh (e.C U j f<|Cw b<|v o d U S) λa0 a' v=>⟨i,U,_,S,(e.y U<|sY.dF b).trans b,a',g⟩
theorem Fb.gP(c:Fb X P O a)(e:sQ a9 O a b2 a3)(v:¬a9 P.sb.locals):vI a a3 P.sb.locals:=c.Qu.elim λA f=>f.elim λj f=>f.elim λ_ f=>f.elim λ_ f=>e.eF f.1<|Cw c.Qv v
theorem Fb.gQ(c:Fb X P O a)(e:sQ a9 O a b2 a3)(m:P.sb.cells.lookup M=D h)(v:¬a9 h):vI a a3 h:=(c.Qs M h m).2.2.elim λk f=>f.elim λj f=>e.eF f.1<|Cv (c.Qs M h m).1 v
theorem to.bI(c:Fb X P O a)(e:sQ a9 O a b2 a3)(v:vH a9 P a T)(f:to P.sb a M k):to P.sb a3 M k:=f.eF (c.gP e v.E) λh m=>c.gQ e m<|v.w M h m
theorem to.bQ(c:Fb X P O a)(e:sQ a9 O a b2 a3)(v:vH a9 P a T)(f:to P.sb a3 M k):to P.sb a M k:=f.eF (c.gP e v.E).iI λh m=>(c.gQ e m<|v.w M h m).iI
theorem Fb.bI(c:Fb X P O a)(e:sQ a9 O a b2 a3)(v:vH a9 P a T):Fb X P b2 a3:=⟨c.Qu.imp λA f=>(c.gP e v.E).hA f,(e.y _<|sY.dF c.Qv).trans c.Qv,c.Qw,c.Qx,λb j m=>(c.Qy b j m).elim λb9 d=>e.A b b9 d,λb m=>(c.Qz b m).elim λb9 d=>e.A b b9 d,λM h m=>tG ((c.Qs M h m).2.2.elim λk f=>f.elim λj f=>e.z h j f.1 (c.Qs M h m).1<|v.w M h m) ((c.Qs M h m).2.1)<|(c.Qs M h m).2.2.imp λk f=>(c.gQ e m<|v.w M h m).iK f,c.Qt.bI e v.F,λM b m=>(c.Ra M b m).bI c e v⟩
theorem tA.bI(c:tA X P O a T)(e:sQ a9 O a b2 a3)(v:vH a9 P a T):tA X P b2 a3 T where
 toFb:=c.toFb.bI e v
 C r M w d g:=@sm.casesOn (λw=>T[r]?=D w->wS X P O a M w->wS X P b2 a3 M w) w (λ_=>id) (λs _ f=>f.imp λz f=>⟨f.1.bI c.toFb e v,f.2.aQ e.y⟩) (λj m f=>f.imp λb f=>vS (f.1.bI c.toFb e v) (f.2.2.2.cJ.elim λh a7=>e.z b h a7.1 f.2.1<|v.z r M j b d m f.1) f.2.2.1<|f.2.2.2.cR e f.2.1<|v.z r M j b d m f.1) g (c.C r M w d g)
 F r L M i j b9 b d g k l n o:=c.F r L M i j b9 b d g k l (n.bQ c.toFb e v)<|o.bQ c.toFb e v
end
def xo(t:Nat)(y:bj):Prop:=y.depth+4*t+120<=kw/\y.units+40*t+200<=cLine
def E7(X:s_)(a:Obj)(h:Nat):Prop:=a.cls=.ref (X.sM h)/\(h=2\/h=4\/h=5)/\∀V,a.data=.fields V->V[2]?=D .none
abbrev yS(a:ba):al->Prop:=λb=>a.get? b=none
inductive Cx(b7:al->Prop)(O:sw)(a:ba)(e:al)(R:Option ab->Prop):Option ab->Prop
 |b:R none->Cx b7 O a e R (D .none)
 |a {b0:al} {b:Obj} {a5:Array ab} {k:ab}:b7 b0->O b0=.b->b0≠e->a.get? b0=D b->b.data=.fields a5->a5[2]?=D .none->a5[3]?=D k->R (D k) ->Cx b7 O a e R (D<|.ref b0)
structure u_(X:s_)(R:Option ab->Prop)(b7:al->Prop)(O:sw)(a:ba)(e:al)(h:Nat):Prop where
 A:b7 e
 y:O e=.b
 z:∃b V,a.get? e=D b/\E7 X b h/\b.data=.fields V/\Cx b7 O a e R V[1]?
def Cy(U:al)(j:Option ab):Prop:=j=none\/j=D .none\/j=D (ev U)
abbrev Bf(X:s_)(U:al):(al->Prop) ->sw->ba->al->Nat->Prop:=u_ X<|Cy U
abbrev yn(X:s_)(s:ab):(al->Prop) ->sw->ba->al->Nat->Prop:=u_ X λj=>j=D s
theorem u_.bO{R:Option ab->Prop}(i:∀j,R j->d j)(t:∀b,b7 b->g b)(c:u_ X R b7 O a e h):u_ X d g O a e h:=⟨t e c.A,c.y,c.z.imp λu f=>f.imp λV f=>vS f.1 f.2.1 f.2.2.1 (by
  generalize V[1]?=k at f
  cases f.2.2.2 with
  |b M=>exact .b<|i _ M
  |a l m n o p q r s=>exact .a (t _ l) m n o p q r<|i _ s)⟩
set_option genInjectivity false in
structure vv where
 sk:s_
 uO:bj
 Cz:al
set_option genInjectivity false in
structure sE where
 rP:sw
 rO:ai
 rS:rR
structure sJ(L:vv)(p a:sE):Prop where
 r:sQ Ar p.rP p.rO.heap a.rP a.rO.heap
 n:sA L.sk a.rP a.rO a.rS
inductive tB(L:vv)(p:sE){a0 b1:Type}(a1:sE->b1->a0->Prop):uh a0×rR->b1->ai->Prop
 |mk {b2:sw} {s:a0} {a9:rR} {k:b1} {Y:ai}:sJ L p ⟨b2,Y,a9⟩ ->a1 ⟨b2,Y,a9⟩ k s->tB L p a1 (.a s,a9) k Y
abbrev xp(L:vv)(p:sE){a0 b1:Type}(a:sw->b1->a0->Prop):uh a0×rR->b1->ai->Prop:=tB L p λb=>a b.rP
inductive tS(L:vv)(p:sE){a0:Type}:uh a0×rR->ab->ai->Prop
 |mk {b2:sw} {h:Nat} {a9:rR} {e:al} {Y:ai}:sJ L p ⟨b2,Y,a9⟩ ->Bf L.sk L.Cz (yS p.rO.heap) b2 Y.heap e h->tS L p (.b h,a9) (.ref e) Y
def so(L:vv)(p:sE){a0 b1:Type}(n:au b1)(a1:sE->b1->a0->Prop)(A:rQ a0):Prop:=∀q,A=D q->rY (sj L.sk) L.uO n (tB L p a1 q) (tS L p q) p.rO
abbrev sy(L:vv)(p:sE){a0 b1:Type}(n:au b1)(a:sw->b1->a0->Prop)(A:rQ a0):Prop:=so L p n (λb=>a b.rP) A
theorem As{n z:au b1}{a1:sE->b1->a0->Prop}{A:rQ a0}(a:n=z)(f:so L p z a1 A):so L p n a1 A:=J a f
theorem sQ.bT(c:sQ a9 O a b2 a3)(e:a3.get? b=none):a.get? b=none:=by
 cases m:a.get? b with
 |none=>rfl
 |some j=>exact(c.A b j m).elim λb9 c0=>sq<|e.symm.trans c0
section
variable{L:vv} {p:sE} {a0 b1 a9 a3:Type}
theorem sJ.aM(c:sJ L p a)(M:sJ L a P):sJ L p P:=⟨c.r.aM M.r λ_ _ _ f=>f,M.n⟩
variable{b4:sE->b1->a0->Prop} {a1:sE->a3->a9->Prop}
theorem tB.bB(c:sJ L p a){q:uh a0×rR}{k:b1}(M:tB L a b4 q k Y):tB L p b4 q k Y:=M.casesOn λb g=>.mk (c.aM b) g
theorem tS.bB(c:sJ L p a){q:uh a0×rR}(M:tS L a q k Y):tS L p q k Y:=M.casesOn λb g=>.mk (c.aM b)<|g.bO (λ_=>id) λ_=>c.r.bT
theorem sy.aE{n:au b1}:so L p n b4 (none:rQ a0):=λ_ a=>sq a
theorem tS.aI{a:Prop}(f:tS L p ((.a s:uh a0),d) e Y):a:=nomatch f
theorem tB.aI{a:Prop}(f:tB L p b4 (.b h,d) k Y):a:=nomatch f
@[elab_as_elim] theorem E8{b0:rQ a0->Prop}(t:b0 .none)(e:∀h d,b0<|D (.b h,d))(i:∀s d,b0<|D (.a s,d))(A:rQ a0):b0 A:=match A with
 |.none=>t
 |some (.b h,d)=>e h d
 |some (.a s,d)=>i s d
theorem so.aE{n:au b1}:so L p n b4 (dv:rQ a0):=sy.aE
theorem so.dM{n:au b1}{b0:au a3}{A:rQ a0}{x:a0->rR->rQ a9}{R:b1->(a3->ai->Prop) ->(ab->ai->Prop) ->ai->Prop}(a:so L p n b4 A) (j:∀a4 a2,rY (sj L.sk) L.uO n (λk l=>R k a4 a2 l) a2 p.rO->rY (sj L.sk) L.uO b0 a4 a2 p.rO) (i:∀k s c,sJ L p c->b4 c k s->A=D (.a s,c.rS) ->∀q,x s c.rS=D q->R k (tB L p a1 q) (tS L p q) c.rO):so L p b0 a1 (rQ.aC A x):=by
 revert a i
 exact E8 (λ_ _=>sy.aE) (λh d a _ q e=>sa (ak e)<|j _ _<|rY.tr (a _ B) (λ_ _ f=>f.aI) λe Y f=>by cases f with|mk b g=>exact .mk b g) (λs d a i q e=>j _ _<|rY.tr (a _ B) (λk Y f=>by cases f with|@mk b2 _ _ _ _ b g=>exact i k s ⟨b2,Y,d⟩ b g B q e) λ_ _ f=>f.aI) A
theorem so.bN{n:au a3}{A:rQ a9}(c:sJ L p b)(a:so L b n a1 A)(q:uh a9×rR)(e:A=D q):rY (sj L.sk) L.uO n (tB L p a1 q) (tS L p q) b.rO:=rY.tr (a q e) (λ_ _=>.bB c) λ_ _=>.bB c
theorem sy.fJ{n:au b1}{u:b1->au a3}{A:rQ a0}{x:a0->rR->rQ a9}(a:so L p n b4 A) (i:∀k s b,sJ L p b->b4 b k s->A=D (.a s,b.rS) ->so L b (u k) a1 (x s b.rS)):so L p (n>>=u) a1 (rQ.aC A x):=a.dM (λ_ _ f=>rY.sf f) λk s b l c e=>(i k s b l c e).bN l
theorem so.aC{n:au b1}{u:b1->au a3}{A:rQ a0}{x:a0->rR->rQ a9}(a:so L p n b4 A) (i:∀k s b,sJ L p b->b4 b k s->so L b (u k) a1 (x s b.rS)):so L p (n>>=u) a1 (rQ.aC A x):=sy.fJ a λk s b l c _=>i k s b l c
theorem sy.gH{n:au b1}{u:b1->au a3}{j:Option a0}{x:a0->rR->rQ a9}(a:so L p n b4 (Mine.se j p.rS)) (i:∀k s b,sJ L p b->b4 b k s->so L b (u k) a1 (x s b.rS)):so L p (n>>=u) a1 (j.bind λs=>x s p.rS):=@eh a0 (λj=>so L p n b4 (Mine.se j p.rS) ->so L p _ a1 (j.bind λs=>x s p.rS)) j (λ_=>sy.aE) (λm a=>sy.fJ a (x:=λs d=>x s p.rS) λk s b l c e=>(G (λq:uh a0×rR=>x s q.2) (ak e):x s p.rS=x s b.rS).symm▸i k s b l c) a
theorem so.aZ{n:au b1}{A:rQ a0}(a:so L p n b4 A):so L p (gm V n) b4 A:=λq e=>(a q e).tD
theorem so.aT{n:Unit->au b1}{A:rQ a0}(a:so L p (n ()) b4 A):so L p (hd s>>=n) b4 A:=λq e=>(a q e).tz
theorem so.dN{b4:sE->ab->a0->Prop}{A:rQ a0}(a:so L p n b4 A):so L p (operate V n) b4 A:=λq e=>(a q e).IQ
theorem so.aJ{n:au b1}{s:a0}(a:∀a2,ap (sj L.sk) L.uO n (tB L p b4 (.a s,d)) a2 p.rO):so L p n b4 (sv s d):=λ_ e=>sa (ak e)<|toI<|a _
theorem so.dV{n:au b1}{j:Option a0}(a:∀s,j=D s->∀a2,ap (sj L.sk) L.uO n (tB L p b4 (.a s,p.rS)) a2 p.rO):so L p n b4 (Mine.se j p.rS):=@eh a0 (λj=>(∀s,j=D s->∀a2,ap _ L.uO n (tB L p b4 (.a s,p.rS)) a2 p.rO) ->so L p n b4 (Mine.se j p.rS)) j (λ_=>sy.aE) (λs a=>.aJ<|a s B) a
theorem tB.bP{k:b1}{s:a0}(b:sA L.sk p.rP p.rO p.rS)(a:b4 p k s):tB L p b4 (.a s,p.rS) k p.rO:=.mk ⟨b.h.aX,b⟩ a
theorem tB.bE{b:sw->b1->a0->Prop}{k:b1}{s:a0}{n:ct}(c:sA L.sk p.rP p.rO p.rS)(a:b p.rP k s):xp L p b (.a s,p.rS) k {p.rO with toks:=n}:=.mk ⟨c.h.aX,c.bE⟩ a
theorem so.cM{k:b1}{s:a0}(b:sA L.sk p.rP p.rO p.rS)(a:b4 p k s):so L p (ay k) b4 (sv s p.rS):=so.aJ λ_=>as<|.bP b a
theorem sy.iT{b:sw->b1->a0->Prop}{n:ab->au b1}{i:Int->rQ a0}(c:rZ p.rP z k)(a:∀r b8,sy L p (n<|.int r b8) b<|i r):sy L p (n z) b (k.aH (r:=i)):=by
 revert c
 exact @rN.casesOn (λk=>rZ p.rP z k->sy L p _ b (k.aH (r:=i))) k (λ_=>.aE) (λ_ _=>.aE) (λr c=>c.elim λb8 e=>J e<|a r b8) (λ_ _=>.aE) (λ_ _=>.aE) (λ_ _=>.aE) (λ_ _=>.aE) (λ_ _ _ _=>.aE) (λ_ _ _=>.aE) (λ_ _=>.aE)<|λ_ _=>.aE
end
def wv(X:s_)(O:sw)(a:ba)(a8:Bool)(b3:Option ab):Prop:=b3=none\/(a8=true/\∃b c V,b3=D (.ref b)/\O b=.b/\X.sN.get? b=none/\a.get? b=D c/\c.data=.fields V/\V[2]?=D .none)
def At(O:sw)(a:ba)(b2:sw)(a3:ba):Prop:=∀b j V,O b=.b->a.get? b=D j->j.data=.fields V->V[2]?=D .none->b2 b=.b/\a3.get? b=D j
theorem sQ.eW(e:sQ a9 O a b2 a3)(v:∀b j V,a.get? b=D j->j.data=.fields V->¬a9 b):At O a b2 a3:=λb j V q m N _=>⟨e.z b j m q<|v b j V m N,e.cR q (v b j V m N) m⟩
theorem wv.aS(c:wv X O a a8 b3)(i:At O a b2 a3):wv X b2 a3 a8 b3:=c.imp id λc=>⟨c.1,c.2.imp λb f=>f.imp λd f=>f.imp λV f=>have v:=i b d V f.2.1 f.2.2.2.1 f.2.2.2.2.1 f.2.2.2.2.2;(El f.1 v.1 f.2.2.1 v.2 f.2.2.2.2)⟩
theorem u_.aS{R:Option ab->Prop}(c:u_ X R b7 O a e h)(i:At O a b2 a3):u_ X R b7 b2 a3 e h:=by
 refine wp c.z λg V o j b l=>?_;have v:=i e g V c.y o b<|j.2.2 V b;refine⟨c.A,v.1,g,V,v.2,j,b,?_⟩;generalize V[1]?=k at l
 cases l with
 |b M=>exact .b M
 |a p m q n d f r s=>exact .a p (i _ _ _ m n d f).1 q (i _ _ _ m n d f).2 d f r s
theorem wv.aE(c:wv X O a false b3):b3=.none:=by
 rcases c with c|⟨c,_⟩
 ·exact c
 ·exact tC c
structure Au(X:s_)(R:dm)(h:Nat):Prop where
 d:R.In X.sN
 f:dn R (.ref<|X.sM h) "__getattribute__"=D (D<|.builtin "object.__getattribute__")
 j:dn R (.ref<|X.sM h) "__getattr__"=D none
 k:dn R (.ref<|X.sM h) "__setattr__"=D (D<|.builtin "object.__setattr__")
 g:hasDictIn R (X.sM h)=true
 l:plainOver R (X.sM h)=true
 i:∀b,sK.a h b=true->b<tW.length->dn R (.ref<|X.sM h) (te b)=D none
 m:∀A u,sK.c h A=D u->dn R (.ref<|X.sM h) (te A)=D (D<|.ref<|X.vl u)/\A<tW.length/\sK.a h A=false
 n:makesIn R (X.sM h)=true
 o:∀u,sK.b h=D u->dn R (.ref<|X.sM h) "__init__"=D (D<|.ref<|X.vl u)
 p:hg R (.ref<|X.sM h)=true
 e:∀A u,sK.c h A=D u\/sK.b h=D u->typeIn R (.ref<|X.vl u)=D (.type "function")/\hg R (.ref<|X.vl u)=true
structure xP(X:s_):Prop where
 d:X.sN.NoLimit
 f:X.sN.NoSeer
 g:sH.given.tree=none
 e:∃j,X.sN.get? kx=D j
 a:∀h,(sK.b h).isSome=true->∃R,Au X R h
 i:∃a8,X.sN.Ns ff a8/\∀c:aj,c≠ "__name__" ->a8 c=ky c
set_option genInjectivity false in
structure sL where
 sc:s_
 rW:tT
 t_:Nat
 vC:tu
noncomputable abbrev sL.tF(c:sL):Bool:=c.vC.isSome
structure zB(X:s_)(t:Nat)(a8:Bool)(y:bj)(a5:List cj)(p:sE):Prop where
 b:xo t y
 c:y.frames=D a5
 d:wv X p.rP p.rO.heap a8 y.handled
 a:sA X p.rP p.rO p.rS
 e:uN p.rP p.rO.heap a5
def yT(X:s_)(t:Nat):Prop:=∀a8 i u a6 y c0 p b3 U,zB X t a8 y c0 p->tn p.rP b3 a6->sy ⟨X,y,U⟩ p (aw (.ref<|bif i then X.sM u else X.vl u) b3) rZ (td t a8 i u a6 p.rS)
structure ss(c:sL)(y:bj)(T:sg)(p:sE):Prop where
 C:xo c.t_ y
 A:y.frames=D c.rW.uZ
 F:wv c.sc p.rP p.rO.heap c.tF y.handled
 k:sA c.sc p.rP p.rO p.rS
 o:tA c.sc c.rW p.rP p.rO.heap T
 u:xP c.sc
 l:ty c.rW
 I:yT c.sc c.t_
 O:∀h,c.vC=D (D h) ->∃a s,y.handled=D (.ref a)/\yn c.sc s (ud c.rW) p.rP p.rO.heap a h
noncomputable abbrev sL.sI(c:sL)(y:bj):vv:=⟨c.sc,y,c.rW.wR⟩
theorem ss.eB(x:ss c y T p)(i:At p.rP p.rO.heap a.rP a.rO.heap)(b:sA c.sc a.rP a.rO a.rS)(d:tA c.sc c.rW a.rP a.rO.heap N):ss c y N a:=⟨x.C,x.A,x.F.aS i,b,d,x.u,x.l,x.I,λh e=>(x.O h e).imp λg f=>f.imp λs f=>⟨f.1,f.2.aS i⟩⟩
theorem ss.aF(x:ss c y T p)(a:sJ (c.sI y) p b):ss c y T b:=x.eB (a.r.eW λ_ _ _ _ _=>id) a.n<|x.o.bI a.r .aI
abbrev sZ(c:sL)(e:Q)(T:sg)(d:rR):rQ rN:=tj (td c.t_ c.tF) c.tF e T d
def sd(c:sL)(n:ag)(e:Q):Prop:=∀y T p,ss c y T p->sy (c.sI y) p (bz n c.rW.sb) rZ (sZ c e T p.rS)
section
variable{c:sL} {y:bj} {T:sg} {p:sE} {n:ag} {e b g:Q}
inductive vw(a1:ag->Q->Prop):List ag->Q->Prop
 |n:vw a1 [] .n
 |c {c:ag} {e:Q} {U:List ag} {W:Q}:a1 c e->vw a1 U W->vw a1 (c::U) (.c e W)
theorem E9:sd c (.Constant (.int r) i b6) (.d<|.i r):=λy T p x=>.aJ λa2=>mv<|.bE x.k ⟨_,B⟩
def ua(M:aj):Prop:=(M==("__debug__" :aj))=false
theorem wb{a2:ab->ai->Prop}(R:ty c.rW)(i:to c.rW.sb l.heap M k)(h:ua M)(a:a4 k l):ap d y (bz (.Name M b6) c.rW.sb) a4 a2 l:=i.elim (λf=>f.2.elim λA v=>wpAny_Name (wpAny_loadName_local R.d f.1 v.1 v.2 a) h) λf=>f.2.elim λA v=>wpAny_Name (wpAny_loadName_cell R.d f.1 v.1 v.2 a) h
theorem CA(a:um T r=D k):T[r]?=D (.rL k):=by
 unfold um at a
 revert a
 exact @eh sm (λj=>(j.bind λw=>@sm.casesOn (λ_=>Option rN) w none D λ_=>none)=D k->j=D (.rL k)) T[r]? sq λw=>@sm.casesOn (λw=>@sm.casesOn (λ_=>Option rN) w none D (λ_=>none)=D k->D w=D (.rL k)) w sq (λv a=>G (λv=>D<|sm.rL v)<|ak a) nofun
theorem Av(a:sR T r=D k):T[r]?=D (.sl k):=by
 unfold sR at a
 revert a
 exact @eh sm (λj=>(j.bind λw=>@sm.casesOn (λ_=>Option sC) w none (λ_=>none) D)=D k->j=D (.sl k)) T[r]? sq λw=>@sm.casesOn (λw=>@sm.casesOn (λ_=>Option sC) w none (λ_=>none) D=D k->D w=D (.sl k)) w sq nofun<|λv a=>G (λv=>D<|sm.sl v)<|ak a
theorem Mr(d:c.rW.tq r=D M)(h:ua M):sd c (.Name M b6) (.a r):=λy T p x=>.dV λs a a2=>(x.o.C r M (.rL s) d<|CA a).elim λz f=>wb x.l f.1 h<|.bP x.k f.2
structure vb(c:sL)(M:aj)(k:ab):Prop where
 b:c.rW.sb.kindOf M=D .globalImplicit
 e:ua M
 h:∃A,c.sc.sN.Ns cb A/\(A M=D k\/A M=none/\∃g,c.sc.sN.Ns ff g/\g M=D k)
theorem vb.cN{a2:ab->ai->Prop}(a:vb c M k)(R:ty c.rW)(b5:c.sc.sN.StaysIn l.heap)(m:a4 k l):ap (sj c.sc) y (bz (.Name M b6) c.rW.sb) a4 a2 l:=a.h.elim λA f=>Name_function_global R.d a.b (f.2.elim (λv=>loadGlobal_global (R.i▸f.1.keeps b5) v m) λv=>v.2.elim λg d=>loadGlobal_builtin (R.i▸f.1.keeps b5) v.1 (R.j▸d.1.keeps b5) d.2 m) a.e
noncomputable def Bg(k:rN):Bool:=@rN.casesOn (λ_=>Bool) k true (λ_=>true) (λ_=>true) (λ_=>true) (λ_=>true) (λ_=>false) (λ_=>false) (λ_ _ _=>false) (λ_ _=>false) (λ_=>false)<|λ_=>false
theorem rZ.jC{O b2:sw}{z:ab}{k:rN}(u:Bg k=true)(a:rZ O z k):rZ b2 z k:=@rN.casesOn (λk=>Mine.Bg k=true->rZ O z k->rZ b2 z k) k (λ_=>id) (λ_ _=>id) (λ_ _=>id) (λ_ _=>id) (λ_ _=>id) (λ_=>nofun) (λ_=>nofun) (λ_ _ _=>nofun) (λ_ _=>nofun) (λ_=>nofun) (λ_=>nofun) u a
abbrev yU(_:sw)(g h:Bool):Prop:=g=h
def vm(c:sL)(e:Q)(T:sg)(d:rR):rQ Bool:=rQ.aC (sZ c e T d) λk d=>se (sP k) d
def uk(c:sL)(n:ag)(e:Q):Prop:=∀y T p,ss c y T p->sy (c.sI y) p (isTrue n c.rW.sb<|bz n c.rW.sb) yU (vm c e T p.rS)
theorem yo(a:sA L.sk p.rP p.rO p.rS)(d:rZ p.rP z s):sy L p (ig z) yU (se (sP s) p.rS):=@rN.casesOn (λs=>rZ p.rP z s->sy L p (ig z) yU (se (sP s) p.rS)) s (λ_=>.aE) (λg e=>J e<|.aJ λa2=>wpAny_truthy_bool<|.bP a B) (λr e=>e.elim λb8 e=>J e<|.aJ λa2=>truthy_int<|.bP a<|by by_cases f:r=0<;>simp[f]) (λ_ _=>.aE) (λ_ _=>.aE) (λ_ _=>.aE) (λ_ _=>.aE) (λ_ _ _ _=>.aE) (λ_ _ _=>.aE) (λ_ _=>.aE) (λ_ _=>.aE) d
theorem rQ.bX{A:rQ a0}{u:a0->rR->rQ b1}{x:b1->rR->rQ a9}:rQ.aC (rQ.aC A u) x=rQ.aC A λk d=>rQ.aC (u k d) x:=by
 match A with
 |none=>rfl
 |some (.a _,_)=>rfl
 |some (.b _,_)=>rfl
theorem rQ.bB{j:Option a0}{x:a0->rR->rQ b1}:rQ.aC (Mine.se j d) x=j.bind λk=>x k d:=by
 cases j<;>rfl
theorem rQ.fY{A:rQ a0}:rQ.aC A (λk d=>sv k d)=A:=by
 match A with
 |none=>rfl
 |some (.a _,_)=>rfl
 |some (.b _,_)=>rfl
theorem Bh{x:Bool->rR->rQ a9}:rQ.aC (sZ c e T d) (λk d=>(sP k).bind λh=>x h d)=rQ.aC (vm c e T d) x:=J rQ.bX<|G (rQ.aC _)<|funext λk=>funext λd=>rQ.bB.symm
theorem Ms(a:uk c n e):uk c (.UnaryOp .Not n b6) (.bA e):=λy T p x=>by
 have:vm c (.bA e) T p.rS=rQ.aC (vm c e T p.rS) λh d=>sv (!h) d:=by
  refine sa Bh<|rQ.bX.trans<|G (rQ.aC _)<|funext λk=>funext λd=>?_;refine(?_:rQ.aC (se ((sP k).map λg=>rN.d<|!g) d) _=_);cases sP k<;>rfl
 exact J this<|(a y T p x).aC λk s i l f=>.cM l.n<|G (!·) f
theorem Mt(a:sd c n e):sd c (.UnaryOp .Not n b6) (.bA e):=λy T p x=>by
 refine J (eval_UnaryOp ..)<|(a y T p x).aC λk s f l i=>.aT<|.aZ ?_;refine .aZ<|(?_:sy _ _ (ig k>>=λg=>ay<|kz<|!g) _ (se ((sP s).map λg=>rN.d<|!g) f.rS));have:se ((sP s).map λg=>.d<|!g) f.rS=rQ.aC (se (sP s) f.rS) λg d=>sv (rN.d<|!g) d:=by cases sP s<;>rfl
 exact J this<|(yo l.n i).aC λh o P j m=>.cM j.n<|G (λg=>kz<|!g) m
theorem so.hM{b4:sE->b1->a0->Prop}{a d:au b1}{f i:rQ a0}(j:h=k)(S:so L p a b4 f)(l:so L p d b4 i):so L p (if h then a else d) b4 (bif k then f else i):=by
 subst j;cases h
 ·exact l
 ·exact S
theorem Mu(f:uk c n e)(i:sd c w b)(j:sd c q g):sd c (.IfExp n w q b6) (.s e b g):=λy T p x=>by
 refine J (eval_IfExp ..)<|(?_:sy _ _ _ _ (rQ.aC (sZ c e T p.rS) λk d=>(sP k).bind λh=>bif h then sZ c b T d else sZ c g T d));exact J Bh<|(f y T p x).aC λh s a l m=>.hM m (i y T a<|x.aF l)<|j y T a<|x.aF l
noncomputable def yp:BoolOp->Bool
 |.And=>false
 |.Or=>true
theorem Mv(a:vw (sd c) U W):sd c (.BoolOp f U b6) (.v (yp f) W):=by
 induction a with
 |n=>exactλy T p x=>.aE
 |@c n e a5 v j o q=>
  cases o with
  |n=>exact j
  |@c r b2 a5 W=>
   refineλy T p x=>(?_:sy _ _ (bz n c.rW.sb>>=λk=>hd b6>>=λ_=>gm [k] (ig k)>>=λh=>match f,h with
    |.And,false|.Or,true=>ay k
    |_,_=>boolOp b6 f<|bz r c.rW.sb::k_ a5 c.rW.sb) rZ (rQ.aC (sZ c e T p.rS) λk d=>(sP k).bind λg=>bif g==yp f then sv k d else sZ c (.v (yp f)<|.c b2 W) T d))
   refine(j y T p x).aC λk s w l m=>.aT<|sy.gH (x:=λg d=>bif g==yp f then sv s d else sZ c (.v (yp f)<|.c b2 W) T d) (yo l.n m).aZ λh z P i t=>?_;subst t;have u:=so.cM (b4:=λp=>rZ p.rP) i.n<|m.aQ i.r.y;cases f<;>cases h<;>first|exact u|exact(q y T P<|(x.aF l).aF i)
theorem Mw:vm c (.v h<|.c e<|.c b2 W) T d=rQ.aC (vm c e T d) λg d=>bif g==h then sv g d else vm c (.v h<|.c b2 W) T d:=by
 refine sa Bh<|(rQ.bX (A:=sZ c e T d) (u:=λk d=>(sP k).bind λg=>bif g==h then sv k d else sZ c (.v h<|.c b2 W) T d)).trans<|G (rQ.aC _)<|funext λk=>funext λd=>?_;cases a:sP k with
 |none=>rfl
 |some g=>
  refine(?_:rQ.aC (bif g==h then sv k d else sZ c (.v h<|.c b2 W) T d) _=bif g==h then sv g d else _);cases g==h
  ·rfl
  ·refine(?_:se (sP k) d=_);refine J a ?_;rfl
theorem Mx(a:vw (uk c) U W):uk c (.BoolOp f U b6) (.v (yp f) W):=by
 induction a with
 |n=>exactλy T p x=>.aE
 |@c n e a5 s k o q=>
  refineλy T p x=>?_;cases o with
  |n=>
   have:vm c (.v (yp f)<|.c e .n) T p.rS=rQ.aC (vm c e T p.rS) λg d=>sv g d:=by
    exact rQ.fY.symm
   refine J this<|(k y T p x).aC λh r m l i=>?_;have j:=so.cM (b4:=λp=>yU p.rP) l.n i;cases f<;>cases h<;>exact j
  |@c t b2 a5 W=>
   refine J Mw<|(k y T p x).aC λh r m l i=>?_;subst i;have j:=so.cM (b4:=λp=>yU p.rP) l.n (B:h=h);cases f<;>cases h<;>first|exact j|exact(q y T m<|x.aF l)
theorem My(f:uk c n e)(i:uk c w b)(j:uk c q g):uk c (.IfExp n w q b6) (.s e b g):=λy T p x=>by
 have:vm c (.s e b g) T p.rS=rQ.aC (vm c e T p.rS) λh d=>bif h then vm c b T d else vm c g T d:=by
  refine sa Bh<|(rQ.bX (A:=sZ c e T p.rS) (u:=λk d=>(sP k).bind λh=>bif h then sZ c b T d else sZ c g T d)).trans<|G (rQ.aC _)<|funext λk=>funext λd=>?_;cases sP k with
  |none=>rfl
  |some h=>cases h<;>rfl
 exact J this<|(f y T p x).aC λh s a l m=>.hM m (i y T a<|x.aF l)<|j y T a<|x.aF l
end
section
variable{c:sL} {p:sE} {L:vv} {a0 b1:Type} {b4:sE->b1->a0->Prop} {n:au b1}
theorem ss.hH(x:ss c y T p):PylongRoom (sj c.sc) y p.rO:=x.l.g.elim λb f=>f.elim λd a=>.of (x.u.d.keeps x.k.h.C) (ar (Nat.add_lt_add_of_le_of_lt (ax _<|4*c.t_)<|show 100<120 by decide) x.C.1) <|.of (x.u.f.keeps x.k.h.C) x.u.g (x.A.trans<|G D a.1) a.2.2.2.1 a.2.2.2.2.1 a.2.2.2.2.2.1 a.2.2.2.2.2.2
noncomputable def wc:sT->Operator
 |.a=>.Add|.d=>.Sub|.b=>.Mult|.h=>.FloorDiv|.f=>.Mod|.j=>.Pow|.i=>.LShift|.g=>.RShift|.c=>.BitAnd|.e=>.BitOr|.k=>.BitXor
theorem CC(a:uX b=true):Builtin.Int.intBits b<=64:=intBits_le_64 (Int.neg_lt_of_neg_lt<|ht (Int.natAbs_neg b▸Int.le_natAbs)<|Int.ofNat_lt.mpr<|av a)<|ht Int.le_natAbs<|Int.ofNat_lt.mpr<|av a
theorem vJ(a:tQ i=true):i<=1000000:=av a
theorem so.bK{b0:ab->au b1}{i:Int->Option a0}(b:rZ p.rP z k)(a:∀r b8,so L p (b0<|.int r b8) b4<|se (i r) d):so L p (b0 z) b4 (se (k.aH (r:=i)) d):=@rN.casesOn (λk=>rZ p.rP z k->so L p (b0 z) b4 (se (k.aH (r:=i)) d)) k (λ_=>.aE) (λ_ _=>.aE) (λr b=>b.elim λb8 e=>J e<|a r b8) (λ_ _=>.aE) (λ_ _=>.aE) (λ_ _=>.aE) (λ_ _=>.aE) (λ_ _ _ _=>.aE) (λ_ _ _=>.aE) (λ_ _=>.aE) (λ_ _=>.aE) b
theorem so.gB{g:Bool}{A:rQ a0}(a:g=true->so L p n b4 A):so L p n b4 (si g A):=@dy (λg=>(g=true->so L p n b4 A) ->so L p n b4 (Mine.si g A)) g (λ_=>.aE) (λa=>a B) a
theorem so.cF{j:Option a0}(a:g=true->so L p n b4 (se j d)):so L p n b4 (se (Mine.si g j) d):=@dy (λg=>(g=true->so L p n b4 (se j d)) ->so L p n b4 (se (Mine.si g j) d)) g (λ_=>.aE) (λa=>a B) a
theorem so.dO{j:Option a9}{u:a9->a0}(a:g=true->so L p n b4 (se (j.map u) d)):so L p n b4 (se ((Mine.si g j).map u) d):=@dy (λg=>(g=true->so L p n b4 (se (j.map u) d)) ->so L p n b4 (se ((Mine.si g j).map u) d)) g (λ_=>.aE) (λa=>a B) a
theorem tk(a:(b&&g)=true):b=true/\g=true:=Bool.and_eq_true_iff.mp a
theorem Aw{s:Prop}[Decidable s](a:(!decide s)=true):¬s:=λm=>by rw[bd m]at a;exact tC a
theorem CD(x:ss c y T p)(d:sT):sy (c.sI y) p (gb (wc d) (.int b e)<|.int g f) rZ (se ((Ah d b g).map rN.i) p.rS):=by
 have a:∀{r:Int} {b8 n:ct},xp (c.sI y) p rZ (.a<|.i r,p.rS) (.int r n) {p.rO with toks:=b8}:=.bE x.k ⟨_,B⟩;cases d with
 |a=>exact .aJ λa2=>add_int a
 |d=>exact .aJ λa2=>sub_int a
 |c=>exact .aJ λa2=>and_int a
 |e=>exact .aJ λa2=>or_int a
 |k=>exact .aJ λa2=>xor_int a
 |g=>exact .dO λm=>.aJ λa2=>rshift_int (av m) a
 |b=>exact .dO λm=>.aJ λa2=>mul_int a<|(Bool.or_eq_true_iff.mp m).elim (λm=>.of_left<|CC m) λm=>.of_right<|CC m
 |h=>exact .dO λm=>.aJ λa2=>floordiv_int (Aw m) a<|.inr x.hH
 |f=>exact .dO λm=>.aJ λa2=>mod_int' (Aw m) a
 |j=>exact .dO λm=>.aJ λa2=>pow_int (av (tk m).1) (hu (Int.mul_le_mul (Int.ofNat_le.mpr<|CC (tk (tk m).2).2) (av (tk (tk m).2).1) (av (tk m).1)<|by decide)<|by decide) a
 |i=>exact .dO λm=>.aJ λa2=>lshift_int_small (av (tk m).1) (hu (av (tk (tk m).2).1)<|by decide) (av (tk (tk m).2).2) a
theorem Mz(d:uV X O a b s)(e:O b=.g s):rZ O (.ref b) s:=@rN.casesOn (λs=>uV X O a b s->O b=.g s->rZ O (.ref b) s) s (λf=>f.elim) (λ_ f=>f.elim) (λ_ f=>f.elim) (λ_ f=>f.elim) (λ_ f=>f.elim) (λ_ _ e=>sn _ B e) (λ_ _ e=>sn _ B e) (λ_ _ _ _ e=>sn _ B e) (λ_ _ _ e=>sn _ B e) (λ_ _ e=>sn _ B e) (λ_ f=>f.elim) d e
theorem sJ.cU{b8:ct}(a:sA L.sk p.rP p.rO p.rS)(b:∀g j,p.rO.heap.get? g=D j->a3.get? g=D j):sJ L p ⟨p.rP,{p.rO with heap:=a3,toks:=b8},p.rS⟩:=⟨sQ.cY a.h b,a.dE<|a.h.cY b⟩
theorem sJ.cW(h:sA L.sk p.rP p.rO p.rS)(l:sJ L p a)(d:p.rO.heap.get? b=none)(e:a.rP b=.b)(i:a.rO.heap.get? b=D j)(k:uV L.sk a.rP a.rO.heap b s):sJ L p ⟨a.rP.aU b<|.g s,a.rO,a.rS⟩:=⟨l.r.aM (d:=λg=>g=b) (sQ.fM l.n.h e B) λg m f v=>(va (((G p.rO.heap.get? v).symm.trans f).symm.trans d):False),l.n.h.cS e i (h.h.bH d).2 k,l.n.m,l.n.o⟩
theorem CE(e:O b=.b)(d:uV X O a b s):rZ (O.aU b<|.g s) (.ref b) s:=Mz (d.aS (Aq e) (λ_ c=>c) λ_ _ _ c=>c)<|sw.cC ..
theorem tB.cW(f:sA L.sk p.rP p.rO p.rS)(l:sJ L p a)(g:p.rO.heap.get? b=none)(e:a.rP b=.b)(h:a.rO.heap.get? b=D j)(d:uV L.sk a.rP a.rO.heap b s):xp L p rZ (.a s,a.rS) (.ref b) a.rO:=.mk (.cW f l g e h d)<|CE e d
theorem tB.bV{b8:ct}(a:sA L.sk p.rP p.rO p.rS)(e:∀g j,p.rO.heap.get? g=D j->a3.get? g=D j)(d:p.rO.heap.get? b=none)(f:a3.get? b=D j)(h:uV L.sk p.rP a3 b s):xp L p rZ (.a s,p.rS) (.ref b) {p.rO with heap:=a3,toks:=b8}:=.cW a (.cU a e) d (a.h.bH d).1 f h
theorem tB.bH{b8:ct}(a:sA L.sk p.rP p.rO p.rS)(d:j.isFreed=false)(f:uV L.sk p.rP (p.rO.heap.push j) p.rO.heap.objs.size s):xp L p rZ (.a s,p.rS) (.ref p.rO.heap.objs.size) {p.rO with heap:=p.rO.heap.push j,toks:=b8}:=.bV a (λb m e=>cg _ e) (uW _) (cl _ d) f
theorem sA.bJ(a:sA X O l d)(q:O b=.g k):uV X O l.heap b k:=a.h.R b k q
theorem MA(a:sA L.sk p.rP p.rO p.rS)(l:rZ p.rP z (.c U))(m:rZ p.rP k (.c h))(b5:U.length+h.length<=1000000):sy L p (gb .Add z k) rZ (sv (.c<|U++h) p.rS):=by
 refine sh l λb d o=>?_;subst d;refine sh m λg d q=>?_;subst d;refine tp (a.bJ o) λV f i v=>?_;obtain⟨r,a'⟩:=f;refine tp (a.bJ q) λR f j v=>?_;obtain⟨s,b2⟩:=f;rw[<-i.aY,<-j.aY,<-bm]at b5;have e:V.toArray++R.toArray=(V++R).toArray:=qP ..;refine .aJ λa2=>concat_meets (sn _ a' B) (sn _ b2 B) noFill_list_add seq_list_add PySem.F.slot_list_add PySem.F.entry_list_add (PySem.F.args_list_add_2 _ _) (list_addW b g V.toArray R.toArray r s none none #[] #[] ?_) ⟨a',b2,?_⟩
 ·exact sa ch<|sa la<|J e<|aa b5<|sz B
 ·refine J e ?_;exact .bH a B<|tv (V++R) ⟨0,cl _ B⟩ (i.eD j)<|aa b5<|af ..
theorem MB(h:sA L.sk p.rP p.rO p.rS)(j:rZ p.rP z (.m U))(l:rZ p.rP k (.m d))(b5:U.length+d.length<=1000000):sy L p (gb .Add z k) rZ (sv (.m<|U++d) p.rS):=by
 refine ul j λf m a b v=>?_;subst a;subst b;refine ul l λg o a b v=>?_;subst a;subst b;have e:(f++g).toList.map (λz=>(z.toNat:Int))=f.toList.map (λz=>(z.toNat:Int))++g.toList.map (λz=>(z.toNat:Int)):=ae (G _ lb) fg;rw[<-bm]at b5;refine .aJ λa2=>KBy.add_bytes ?_ λq i=>.bE h<|uQ _ _ B e<|aa b5<|af ..;rw[<-e,a_,df,la]at b5;exact aa b5<|af ..
theorem MC(e:sA L.sk p.rP p.rO p.rS)(g:rZ p.rP z (.f U))(h:rZ p.rP k (.f d))(b5:U.length+d.length<=1000000):sy L p (gb .Add z k) rZ (sv (.f<|U++d) p.rS):=by
 refine ul g λi j a b v=>?_;subst a;subst b;refine ul h λl m a b v=>?_;subst a;subst b;have f:=b5;rw[<-bm]at b5;exact .aJ λa2=>PyProof.Rows.add_str (λo b8=>.bE e<|uQ _ _ B (lb ..)<|aa b5<|af ..)<|aa (df▸df▸f)<|by refine sa ch ?_;decide
theorem MD(w:List (Array ab))(b:Array ab):w.foldl (λc M=>c++M) b=(b.toList++(w.map (·.toList)).flatten).toArray:=by
 induction w generalizing b with
 |nil=>simp
 |cons c w a=>(refine ae List.foldl_cons ?_;refine ae (a ..) ?_);simp
theorem ME(a:tn O V U)(i:Nat):tn O (bi i V).flatten (bi i U).flatten:=by
 induction i with
 |zero=>exact .n
 |succ i b=>exact a.eD b
theorem MF{V:List ab}:List.foldl (λa b=>a++b) #[] (bi (if V.toArray.isEmpty=true then 0 else i) V.toArray)=(bi i V).flatten.toArray:=by
 refine ae (MD ..) ?_;cases V<;>simp
theorem E'{a2:ab->ai->Prop}(a:tf L.sk p.rP p.rO.heap b (.sr U))(b5:Ct U.length i=true) (d:∀j,j.isFreed=false->tf L.sk p.rP (p.rO.heap.push j) p.rO.heap.objs.size (.sr (bi i.toNat U).flatten) ->a4 (.ref p.rO.heap.objs.size) {p.rO with heap:=p.rO.heap.push j}):ap (sj L.sk) L.uO (gb .Mult (.ref b)<|.int i e) a4 a2 p.rO:=by
 refine tp a λV r k v=>?_;obtain⟨l,a'⟩:=r;have S:=tk b5;have h:=tk S.2;have m:=av h.1;have o:=av h.2;have f:V.toArray.size*i.toNat<=1000000:=J fh<|J k.aY<|vJ S.1;have q:=ME k i.toNat;have g:(bi i.toNat V).flatten.length<=2000000:=by
  exact List.length_flatten▸List.map_replicate▸List.sum_replicate_nat▸(bs ..)▸fh▸(aa f<|af ..)
 clear S h b5;refine wpAny_binaryOp_repeat_ref B ⟨_,a',B⟩ (λY=>mw Y i e) noFill_list_mul PySem.F.fills_int_mul qQ repeat_list PySem.F.slot_int_index.lookup (call_meets qQ (mw p.rO i e) PySem.F.entry_int_rmul (PySem.F.args_int_rmul_2 _ _) (int___rmul___int_list i e b V.toArray l) (vS a' B ⟨_,a',B⟩ (call_meets PySem.F.slot_list_mul ⟨_,a',B⟩ PySem.F.entry_list_mul (PySem.F.args_list_mul_2 _ _) (AutoListH.list___mul___list_int_3 b V.toArray l i e (by simp[Builtin.List.listFitsIndex];clear g q d;exact lc (hu (by decide) m)<|ht o<|by decide) (by clear g q d;exact Nat.not_lt.mpr<|aa f<|by decide)<|by simp[Builtin.List.listTooLong,gr];rw[fh]at f;clear g q m o d;exact aa f<|by decide) ⟨a',?_⟩)));exact J MF<|d _ B<|tv _ ⟨0,cl _ B⟩ q g
theorem MG(d:sA L.sk p.rP p.rO p.rS)(e:rZ p.rP z (.c U))(f:rZ p.rP k (.i i))(b5:Ct U.length i=true):sy L p (gb .Mult z k) rZ (sv (.c (bi i.toNat U).flatten) p.rS):=by
 refine sh e λb g h=>?_;subst g;obtain⟨m,rfl⟩:=f;exact .aJ λa2=>E' (d.bJ h) b5 λj l a=>.bH d l a
theorem MH(x:ss c y T p)(d:rZ p.rP z s)(f:rZ p.rP k m):sy (c.sI y) p (gb .Add z k) rZ (se (EX s m) p.rS):=by
 have h:=x.k;cases s with
 |i b=>exact .bK f λg i=>d.elim λn e=>J e<|CD x .a
 |c b=>cases m with
  |c g=>exact .cF λa=>MA h d f<|vJ a
  |_=>exact .aE
 |m b=>cases m with
  |m g=>exact .cF λa=>MB h d f<|vJ a
  |_=>exact .aE
 |f b=>cases m with
  |f g=>exact .cF λa=>MC h d f<|vJ a
  |_=>exact .aE
 |_=>exact .aE
theorem MI(x:ss c y T p)(d:rZ p.rP z s)(f:rZ p.rP k m):sy (c.sI y) p (gb .Mult z k) rZ (se (EY s m) p.rS):=by
 cases s with
 |i b=>exact .bK f λg h=>d.elim λn e=>J e<|CD x .b
 |c b=>exact .bK f λg h=>.cF λa=>MG x.k d ⟨_,B⟩ a
 |_=>exact .aE
theorem MJ(x:ss c y T p)(d:rZ p.rP z s)(e:rZ p.rP k m):sy (c.sI y) p (gb (wc a) z k) rZ (se (tJ a s m) p.rS):=by
 have i:sy (c.sI y) p (gb (wc a) z k) rZ (se (s.aH (r:=λb=>m.aH (r:=λg=>(Ah a b g).map .i))) p.rS):=.bK (b0:=λz=>gb (wc a) z k) d λb n=>.bK e λg f=>CD x a;cases a with
 |a=>exact MH x d e
 |b=>exact MI x d e
 |_=>exact i
theorem MK(e:sd c w b)(f:sd c q g):sd c (.BinOp w (wc h) q b6) (.aB h b g):=λy T p x=>by
 exact J (eval_BinOp ..)<|(e y T p x).aC λz s i a j=>(f y T i<|x.aF a).aZ.aC λk m P d l=>.aT<|.dN<|MJ ((x.aF a).aF d) (j.aQ d.r.y) l
end
section
open PySem.SeqAt
section
variable{X:s_} {O:sw} {l:ai} {d:rR} {y:bj}
structure xQ(y:bj)(l:ai)(z k:ab)(q:Bool):Prop where
 a:EqAt y l z k q
 b:RcAt y l z k q
 c:RcNeAt y l z k (!q)
theorem ML{w:List UInt8}(a:w.map (λz=>(z.toNat:Int))=A.map (λz=>(z.toNat:Int))):w=A:=(List.map_inj_right λ_ _ e=>UInt8.toNat_inj.mp<|fv e).mp a
theorem CF{a0 b1:Type}[BEq a0][LawfulBEq a0][DecidableEq b1]{u:a0->b1}(a:∀b g,u b=u g->b=g)(b g:a0):(b==g)=decide (u b=u g):=by
 rw[Bool.eq_iff_iff,beq_iff_eq,decide_eq_true_iff];exact⟨G u,a b g⟩
theorem MM(g h:Array UInt8)(n z:ct):EqAt y l (.bytes g n) (.bytes h z) (g.toList==h.toList):=λT v a2 a4 a=>by
 refine dz<|wpAny_ite_split (λb=>?_)<|λ_=>?_
 ·have e:g=h:=by have:=ei b;injection this
  subst e;exact ah<|fa<|as<|sa (gs g.toList) a
 ·exact ah<|richCompare_gives (dg l g n) (dg l h z) FB.slot_bytes_eq FB.entry_bytes_eq (FB.args_bytes_eq_2 _ _) (gives_bytes_eq g h n z) (λe=>nomatch e)<|wpAny_truthy_bool a
theorem MN:xQ y l (.int b n) (.int g z) (decide<|b=g):=by
 rw[<-CF λ_ _=>id];exact⟨.int_int _ _ _ _,λ_ _ _ _ a=>PyProof.Rows.eq_int a,.int_int _ _ _ _⟩
theorem MO:xQ y l (.str b n) (.str g z) (decide<|b.cps.toList=g.cps.toList):=by
 rw[<-CF (u:=λb:aj=>b.cps.toList) λc M a=>by cases c;cases M;exact G _<|Array.toList_inj.mp a];exact⟨.str_str _ _ _ _,λ_ _ _ _ a=>PyProof.Rows.eq_str a,.str_str _ _ _ _⟩
def Bi(O:sw)(a:ba)(b:al)(U:List rN):Prop:=∃V:List ab,a.IsList b V.toArray/\tn O V U
theorem E_:∀{b:List rN} {q:Bool},vU u U b=D q->q=true/\sU (λc M=>u c M=D true) U b:=by
 induction U with
 |nil=>
  intro b q a;cases b with
  |nil=>exact⟨(ak a).symm,.n⟩
  |cons M b=>exact sq a
 |cons c U f=>
  intro b q a;cases b with
  |nil=>exact sq a
  |cons M b=>
   refine sh (Option.bind_eq_some_iff.mp<|show(u c M).bind (λh=>si h _)=D q from a) λh S e=>?_;cases h with
   |false=>exact sq e
   |true=>exact⟨(f e).1,.c S (f e).2⟩
theorem sU.hQ{P:a0->b1->Prop}{e:b1->a9->Prop}{f:a3->a9->Prop}{w:List a0}{A:List b1}(a:sU P w A):∀{s:List a9} {m:List a3},sU e A s->sU f m s->sU (λb N=>∃g h,P b g/\e g h/\f N h) w m:=by
 induction a with
 |n=>exactλc M=>by cases c;cases M;exact .n
 |c b _ i=>
  intro s m c M;cases c with
  |c g c=>cases M with
   |c h M=>exact .c (uQ _ _ b g h)<|i c M
theorem sU.fK{P:a0->b1->Prop}{w:List a0}{A:List b1}(a:sU P w A):∀L (S:L<w.toArray.size) (c:L<A.toArray.size),P w.toArray[L] A.toArray[L]:=by
 induction a with
 |n=>exactλL a=>absurd a<|mx L
 |c b _ e=>
  intro L S c;cases L with
  |zero=>exact b
  |succ L=>exact e L (op S)<|op c
theorem Fa(t:Nat):(b_ t).all (λ_=>true)=true:=List.all_eq_true.mpr λ_ _=>B
theorem Fc(h:RcAt y l (.ref b) (.ref g) true)(t:RcNeAt y l (.ref b) (.ref g) false):xQ y l (.ref b) (.ref g) true:=⟨if f:b=g then f▸.same _ else .of_refs f h,h,t⟩
theorem MP(p:Bi O l.heap b U)(a7:Bi O l.heap g r)(j:y.units<cLine) (x:∀z k c M,u c M=D true->rZ O z c->rZ O k M->EqAt y.in1 l z k true)(a:vU u U r=D q):xQ y l (.ref b) (.ref g) q:=by
 obtain⟨rfl,e⟩:=E_ a;refine sh p λV m s=>sh a7 λb3 n v=>?_;have i:=(s.hQ e v).bO λz k f=>f.elim λc f=>f.elim λM f=>x z k c M f.2.1 f.1 f.2.2;have o:=i.aY;have h:=RcAt.lists m n o j i.fK;have t:=RcNeAt.lists m n o j i.fK;rw[Fa]at h t;exact Fc h t
theorem MQ(j:IsTup l.heap b V.toArray)(o:tn O V U)(m:IsTup l.heap g b3.toArray)(p:tn O b3 r)(n:y.units<cLine) (x:∀z k c M,u c M=D true->rZ O z c->rZ O k M->EqAt y.in1 l z k true)(a:vU u U r=D q):xQ y l (.ref b) (.ref g) q:=by
 obtain⟨rfl,e⟩:=E_ a;have i:=(o.hQ e p).bO λz k f=>f.elim λc f=>f.elim λM f=>x z k c M f.2.1 f.1 f.2.2;have h:=RcAt.tuples (j) (m) n i.fK;have t:=RcNeAt.tuples (j) (m) n i.fK;rw[Fa,(beq_iff_eq.mpr i.aY:(V.toArray.size==b3.toArray.size)=true)]at h t;exact Fc h t
def uf(O:sw)(a:ba)(z:ab)(s:rN):Prop:=(∃U b,s=.c U/\z=.ref b/\Bi O a b U)\/rZ O z s
theorem uf.iB(b1:tx X O l.heap d)(a:uf O l.heap z (.c U)):∃b,z=.ref b/\Bi O l.heap b U:=a.elim (λf=>f.elim λc f=>f.elim λb f=>sn b f.2.1<|J (rN.c.inj f.1) f.2.2) λf=>f.elim λb f=>sn b f.1<|(b1.R b _ f.2).elim λV v=>sn V v.1.isList v.2.1
theorem uf.cB(a:uf O l.heap z s)(t:∀U,s≠.c U):rZ O z s:=a.elim (λf=>f.elim λU f=>f.elim λb f=>absurd f.1<|t U) id
def uT(y:bj)(l:ai)(z k:ab)(j:Option Bool):Prop:=∀q,j=D q->xQ y l z k q
theorem uT.aE{z k:ab}:uT y l z k none:=λ_ a=>nomatch a
theorem uT.mk(a:xQ y l z k q):uT y l z k (D q):=λ_ e=>sa (ak e) a
section
variable{z k:ab} {m:rN}
theorem Fd(e:uf O l.heap z (.d b))(c:uf O l.heap k m):uT y l z k (m.aH (g:=λg=>D<|b==g)):=@rN.casesOn (λm=>uf O l.heap k m->uT y l z k (m.aH (g:=λg=>D<|b==g))) m (λ_=>.aE) (λg c=>J (e.cB nofun)<|J (c.cB nofun)<|.mk ⟨.bool_bool _ _,λ_ _ _ _ a=>eq_bool a,.bool_bool _ _⟩) (λ_ _=>.aE) (λ_ _=>.aE) (λ_ _=>.aE) (λ_ _=>.aE) (λ_ _=>.aE) (λ_ _ _ _=>.aE) (λ_ _ _=>.aE) (λ_ _=>.aE) (λ_ _=>.aE) c
theorem Fe(c:uf O l.heap z (.i b))(a:uf O l.heap k m):uT y l z k (m.aH (r:=λg=>D<|decide<|b=g)):=@rN.casesOn (λm=>uf O l.heap k m->uT y l z k (m.aH (r:=λg=>D<|decide<|b=g))) m (λ_=>.aE) (λ_ _=>.aE) (λg a=>(c.cB nofun).elim λn e=>(a.cB nofun).elim λf c0=>J e<|J c0<|.mk MN) (λ_ _=>.aE) (λ_ _=>.aE) (λ_ _=>.aE) (λ_ _=>.aE) (λ_ _ _ _=>.aE) (λ_ _ _=>.aE) (λ_ _=>.aE) (λ_ _=>.aE) a
theorem MR(f:rZ O z (.f b))(h:rZ O k (.f g)):xQ y l z k (decide<|b=g):=by
 refine ul f λc n a e v=>?_;subst a;subst e;refine ul h λM i a e v=>?_;subst a;subst e;exact MO
theorem MS(h:rZ O z (.m b))(i:rZ O k (.m g)):xQ y l z k (decide<|b=g):=by
 refine ul h λc n e f v=>?_;subst e;subst f;refine ul i λM j e f v=>?_;subst e;subst f;rw[<-CF λ_ _=>ML];exact⟨MM _ _ _ _,λ_ _ _ _ a=>PySem.W.eq_bytes a,λ_ _ _ _ a=>PySem.W.ne_bytes a⟩
theorem Ff(c:uf O l.heap z (.f b))(a:uf O l.heap k m):uT y l z k (m.aH (l:=λg=>D<|decide<|b=g)):=@rN.casesOn (λm=>uf O l.heap k m->uT y l z k (m.aH (l:=λg=>D<|decide<|b=g))) m (λ_=>.aE) (λ_ _=>.aE) (λ_ _=>.aE) (λg a=>.mk<|MR (c.cB nofun)<|a.cB nofun) (λ_ _=>.aE) (λ_ _=>.aE) (λ_ _=>.aE) (λ_ _ _ _=>.aE) (λ_ _ _=>.aE) (λ_ _=>.aE) (λ_ _=>.aE) a
theorem Fg(c:uf O l.heap z (.m b))(a:uf O l.heap k m):uT y l z k (m.aH (M:=λg=>D<|decide<|b=g)):=@rN.casesOn (λm=>uf O l.heap k m->uT y l z k (m.aH (M:=λg=>D<|decide<|b=g))) m (λ_=>.aE) (λ_ _=>.aE) (λ_ _=>.aE) (λ_ _=>.aE) (λg a=>.mk<|MS (c.cB nofun)<|a.cB nofun) (λ_ _=>.aE) (λ_ _=>.aE) (λ_ _ _ _=>.aE) (λ_ _ _=>.aE) (λ_ _=>.aE) (λ_ _=>.aE) a
variable{u:rN->rN->Option Bool} (b1:tx X O l.heap d) (w:y.units<cLine) (x:∀z k c M,u c M=D true->rZ O z c->rZ O k M->EqAt y.in1 l z k true)
include b1 w x
theorem MT{b:List rN}(h:uf O l.heap z (.c b))(e:uf O l.heap k m):uT y l z k (m.aH (w:=vU u b)):=@rN.casesOn (λm=>uf O l.heap k m->uT y l z k (m.aH (w:=vU u b))) m (λ_=>.aE) (λ_ _=>.aE) (λ_ _=>.aE) (λ_ _=>.aE) (λ_ _=>.aE) (λg e q a=>(h.iB b1).elim λc f=>(e.iB b1).elim λM v=>J f.1<|J v.1<|MP f.2 v.2 w x a) (λ_ _=>.aE) (λ_ _ _ _=>.aE) (λ_ _ _=>.aE) (λ_ _=>.aE) (λ_ _=>.aE) e
theorem MU{b:List rN}(j:uf O l.heap z (.j b))(e:uf O l.heap k m):uT y l z k (m.aH (n:=vU u b)):=@rN.casesOn (λm=>uf O l.heap k m->uT y l z k (m.aH (n:=vU u b))) m (λ_=>.aE) (λ_ _=>.aE) (λ_ _=>.aE) (λ_ _=>.aE) (λ_ _=>.aE) (λ_ _=>.aE) (λg e q a=>(j.cB nofun).elim λc f=>(e.cB nofun).elim λM v=>(b1.R c _ f.2).elim λV h=>(b1.R M _ v.2).elim λb3 i=>J f.1<|J v.1<|MQ h.1 h.2.1 i.1 i.2.1 w x a) (λ_ _ _ _=>.aE) (λ_ _ _=>.aE) (λ_ _=>.aE) (λ_ _=>.aE) e
end
theorem Fh(b1:tx X O l.heap d)(i:Nat):∀{y:bj} {z k:ab} {s m:rN},uf O l.heap z s->uf O l.heap k m->y.units+i<cLine->uT y l z k (vL i s m):=by
 induction i with
 |zero=>
  intro y z k s m a b _;exact @rN.casesOn (λs=>uf O l.heap z s->uT y l z k (vL 0 s m)) s (λ_=>.aE) (λ_ a=>Fd a b) (λ_ a=>Fe a b) (λ_ a=>Ff a b) (λ_ a=>Fg a b) (λ_ _=>.aE) (λ_ _=>.aE) (λ_ _ _ _=>.aE) (λ_ _ _=>.aE) (λ_ _=>.aE) (λ_ _=>.aE) a
 |succ i g=>
  intro y z k s m a b w;have f:=bb (ax ..) w;have x:∀z k c M,vL i c M=D true->rZ O z c->rZ O k M->EqAt y.in1 l z k true:=λz k c M e a' b2=>(g (.inr a') (.inr b2) (bb (ao<|dw ..) w) _ e).a;exact @rN.casesOn (λs=>uf O l.heap z s->uT y l z k (vL _ s m)) s (λ_=>.aE) (λ_ a=>Fd a b) (λ_ a=>Fe a b) (λ_ a=>Ff a b) (λ_ a=>Fg a b) (λ_ a=>MT b1 f x a b) (λ_ a=>MU b1 f x a b) (λ_ _ _ _=>.aE) (λ_ _ _=>.aE) (λ_ _=>.aE) (λ_ _=>.aE) a
theorem Fi(a:rZ O z s)(e:vq (s::a6)=D w):∃L n A,z=.int L n/\vq a6=D A/\L::A=w:=@rN.casesOn (λs=>rZ O z s->vq (s::a6)=D w->∃L n A,z=.int L n/\vq a6=D A/\L::A=w) s (λ_=>sq) (λ_ _=>(λa=>sq a)) (λL a e=>a.elim λn a=>(Option.map_eq_some_iff.mp e).elim λA f=>A6 L n A a f.1 f.2) (λ_ _=>(λa=>sq a)) (λ_ _=>(λa=>sq a)) (λ_ _=>(λa=>sq a)) (λ_ _=>(λa=>sq a)) (λ_ _ _ _=>sq) (λ_ _ _=>sq) (λ_ _=>(λa=>sq a)) (λ_ _=>(λa=>sq a)) a e
theorem MV{a2:ab->ai->Prop}(f:0<=r)(S:r<256)(h:a4 (.bool<|(g.toList.map<|λz=>(z.toNat:Int)).contains r) l): ap (sj X) y (ih .In (.int r n)<|.bytes g z) a4 a2 l:=by
 have b:r.toNat %256=r.toNat:=fi<|(Int.toNat_lt f).mpr S;have e:g.contains r.toNat.toUInt8=(g.toList.map<|λz=>z.toNat).contains r:=by
  rw[Bool.eq_iff_iff,Array.contains_iff_mem,List.contains_iff_mem,List.mem_map,<-Array.mem_toList_iff]
  constructor
  ·intro a;exact sn _ a<|ae (G _ oq)<|(G Nat.cast b).trans<|le f
  ·rintro⟨c,i,e⟩;have:r.toNat.toUInt8=c:=by
    apply UInt8.toNat_inj.mp;refine ae oq<|b.trans ?_;rw[<-e];rfl
   exact J this i
 have x:Meets (Builtin.«bytes.__contains__» ⟨[.bytes g z,.int r n],[]⟩) (λ_ P l=>P (.ok<|.ret<|.bool<|g.contains r.toNat.toUInt8) l):=by
  refine .of_wp λT v y P l a=>(?_:ap _ _ (Builtin.Bytes.containsIn "bytes.__contains__" _ _>>=λq=>ret _) _ _ l)
  refine ah<|ah<|ii<|bq (a:=r) B ?_;refine ah<|bq KBy.buffer_eq ?_;refine gc ?_;rw[am<|by rw[cd<|Int.not_lt.mpr f,cd<|Int.not_le.mpr S];exact tC];exact as<|as<|sn _ B a
 refine SeqRoads2.in_meets (dg l g z) FB.slot_bytes_contains FB.entry_bytes_contains (FB.args_bytes_contains_2 _ _) x<|sn _ B<|?_;exact J e h
set_option backward.match.sparseCases false in
theorem MW{a2:ab->ai->Prop}(h:IsTup l.heap b V.toArray)(i:tn O V U)(j:vq U=D w) (m:a4 (.bool<|w.contains r) l):ap (sj X) y (ih .In (.int r n)<|.ref b) a4 a2 l:=by
 have p:∀(V:List ab) U w,tn O V U->vq U=D w->(∀k∈V,∃L n,k=.int L n)/\V.any (λk=>match k with|.int L _=>L==r|_=>false)=w.contains r:=by
  intro V U w a;induction a generalizing w with
  |n=>intro e;obtain rfl:=ak e;exact⟨λk a=>(by cases a),B⟩
  |@c k s V U c _ o=>
   intro e;refine zr (Fi c e) λL n A f q t=>?_;subst f;subst t;obtain⟨S,g⟩:=o A q;refine⟨λk c=>?_,?_⟩
   ·rcases List.mem_cons.mp c with rfl|c
    ·exact vK _ _ B
    ·exact S k c
   ·refine ae my ?_;refine ae (G _ g) ?_;rw[lf]
    congr 1
    exact Bool.beq_comm
 obtain⟨S,g⟩:=p V U w i j;refine in_tupleAt (λk=>match k with|.int L _=>L==r|_=>false) (h) (λM u=>?_) ?_
 ·refine vT (S M<|by simpa using u) λL v f=>?_;subst f;exact EqAt.int_int _ _ _ _
 ·exact J List.any_toArray<|J g m
theorem MX{a2:ab->ai->Prop}(b1:tx X O l.heap d)(c:O b=.d L)(a7:O g=.d i)(k:d[L]?=D (.sW h a5))(a:a4 (decide<|L=i) l): ap (sj X) y (isSame (.ref b)<|.ref g) a4 a2 l:=by
 refine sh (b1.F b L c) λj S n=>?_;obtain⟨b9,o,q⟩:=b1.T g (sY.eT a7)|>.imp λj e=>lc e trivial;obtain⟨r,_,_,_,_,e,p,_⟩:=(sa (ak<|S.symm.trans k) n:tf X O l.heap b (.sW h a5)).i;by_cases f:b=g
 ·subst f;exact gc<|J (an<|gs b)<|as<|bd (sY.d.inj<|c.symm.trans a7)▸a
 ·refine gc<|(am λm=>f<|ei m)▸(ah<|fw e<|ah<|fw o ?_);exact J p<|as<|(cd λm:L=i=>f<|b1.inj b g L c<|m.symm▸a7)▸a
theorem Fj(a:rZ O z s):(z==.none)=Bc s:=by
 cases s with
 |e=>subst a;rfl
 |d g=>subst a;rfl
 |i r=>obtain⟨n,rfl⟩:=a;rfl
 |f w=>refine tP a λM n c v=>?_;subst c;rfl
 |m w=>refine tP a λM n c v=>?_;subst c;rfl
 |_=>refine sh a λb c v=>?_;subst c;rfl
end
section
noncomputable def vx:tM->gt
 |.b=>.Lt|.e=>.LtE|.d=>.Gt|.h=>.GtE|.c=>.Eq|.a=>.NotEq|.f=>.Is|.i=>.IsNot|.g=>.In
theorem so.gC(a:∀g,j=D g->∀a2,ap (sj L.sk) L.uO n (xp L p rZ (.a<|.d g,p.rS)) a2 p.rO):sy L p n rZ (se (j.map rN.d) p.rS):=@eh Bool (λj=>(∀s,j=D s->∀a2,ap _ L.uO n (xp L p rZ (.a<|.d s,p.rS)) a2 p.rO) ->sy L p n rZ (se _ p.rS)) j (λ_=>.aE) (λs a=>.aJ<|a s B) a
theorem Bj(x:ss c y T p)(a:tM)(d:rZ p.rP z s)(e:rZ p.rP k m):sy (c.sI y) p (ih (vx a) z k) rZ (se ((s.aH (r:=λb=>m.aH (r:=λg=>EZ a b g))).map rN.d) p.rS):=by
 cases s with
 |i b=>cases m with
  |i g=>
   obtain⟨n,rfl⟩:=d;obtain⟨f,rfl⟩:=e;cases a with
   |b=>exact .aJ λa2=>PyProof.Rows.lt_int<|.bP x.k B
   |e=>exact .aJ λa2=>PyProof.Rows.le_int<|.bP x.k B
   |d=>exact .aJ λa2=>PyProof.Rows.gt_int<|.bP x.k B
   |h=>exact .aJ λa2=>PyProof.Rows.ge_int<|.bP x.k B
   |_=>exact .aE
  |_=>exact .aE
 |_=>exact .aE
theorem Bk(b1:tx X O a d)(c:rZ O z s):uf O a z (yj d s):=by
 cases s with
 |b i=>
  refine sh c λb g f=>?_;subst g;refine sh (b1.F b i f) λj S h=>?_;have e:yj d (.b i)=((j.tb (w:=λU=>D<|.c U)).getD<|.b i):=by refine(?_:(((d[i]?).bind λj=>j.tb (w:=λU=>D<|rN.c U)).getD _)=_);refine J S ?_;rfl
  refine J e ?_;cases j with
  |sr U=>exact .inl ⟨U,b,B,B,h.elim λV v=>sn V v.1.isList v.2.1⟩
  |_=>exact .inr ⟨b,B,f⟩
 |_=>exact .inr c
theorem ss.hI(x:ss c y T p):y.units+200<=cLine:=aa (bv (ax ..) _) x.C.2
end
end
section
open PySem.SeqAt
section
variable{O:sw} {i:Int}
theorem zC(r:Int)(n:ct):(hs sH v).is r (.int r n)=true:=bd B
theorem MY(L i:Int)(z:ab)(q:List (Int×ab)):jh ((L,z)::q) i=if L=i then D z else jh q i:=by
 unfold jh;refine ae (G _<|or) ?_;by_cases a:L=i<;>simp[a]
def Fk(O:sw)(b:Option ab)(g:Option rN):Prop:=@eh rN (λ_=>Prop) g (b=none) λk=>∃z,b=D z/\rZ O z k
theorem Bl(a:sU (yP O) d W)(i:Int):Fk O (jh d i) (tc i W):=by
 induction a with
 |n=>exact B
 |@c b g w A c _ e=>
  refine(Prod.ext c.1 B:b=(g.1,b.2))▸(MY ..)▸((?_:Fk O _ (if i=g.1 then D g.2 else tc i A)));by_cases m:g.1=i
  ·refine(an m)▸(an m.symm)▸?_;exact sn _ B c.2
  ·refine(am m)▸?_;rw[am λf=>m f.symm];exact e
end
section
theorem ss.fH(x:ss c y T p)(a:p.rP b≠.b):(b==kx)=false:=beq_eq_false_iff_ne.mpr λf=>x.u.e.elim λj d=>a<|J f<|x.k.h.P _ j d
theorem MZ(x:ss c y T p)(g:rZ p.rP k (.p W)):sy (c.sI y) p (ih .In (.int r n) k) rZ (sv (.d (tc r W).isSome) p.rS):=by
 refine sh g λb h d=>?_;subst h;refine tp ((x.k.bJ d).d) λi j l m=>.aJ λa2=>wpAny_in_of (knd:=hs sH c.sc.v_) (k:=r) (zC r n) (x.fH<|sY.cG d) j.mapOf ?_;have f:=Bl l r;have e:(jh i r).isSome=(tc r W).isSome:=by
  cases a:tc r W with
  |none=>rw[a]at f;exact G _ f
  |some v=>rw[a]at f;exact f.elim λz f=>G _ f.1
 exact .bE x.k<|G kz e
theorem M0(x:ss c y T p)(e:rZ p.rP z (.b L))(f:rZ p.rP k (.b i)):sy (c.sI y) p (ih .IsNot z k) rZ (se (((p.rS[L]?).bind λj=>j.tb (h:=λ_ _=>D<|!decide (L=i))).map rN.d) p.rS):=by
 refine sh e λb d l=>?_;subst d;refine sh f λg d m=>?_;subst d;cases a:p.rS[L]? with
 |none=>exact .aE
 |some j=>cases j with
  |sW h a5=>exact .aJ λa2=>ah<|MX x.k.h l m a<|as<|.bP x.k B
  |_=>exact .aE
theorem M1(x:ss c y T p)(f:rZ p.rP z s)(e:rZ p.rP k m):sy (c.sI y) p (ih .In z k) rZ (se ((tm p.rS .g s m).map rN.d) p.rS):=by
 cases s with
 |i r=>
  obtain⟨n,rfl⟩:=f;cases m with
  |m w=>
   refine ul e λg q d h v=>?_;subst d;subst h;exact .dO λa=>.aJ λa2=>MV (av (tk a).1) (av (tk a).2)<|.bP x.k B
  |j U=>
   refine sh e λb d i=>?_;subst d;refine tp (x.k.bJ i) λV j l v=>.gC λg a a2=>sh (Option.map_eq_some_iff.mp a) λw o d=>?_;subst d;exact MW j l o<|.bP x.k B
  |p W=>exact MZ x e
  |_=>exact .aE
 |_=>exact .aE
theorem zD(x:ss c y T p)(e:tM)(b:rZ p.rP z s)(d:rZ p.rP k m):sy (c.sI y) p (ih (vx e) z k) rZ (se ((tm p.rS e s m).map rN.d) p.rS):=by
 cases e with
 |b=>exact Bj x .b b d
 |e=>exact Bj x .e b d
 |d=>exact Bj x .d b d
 |h=>exact Bj x .h b d
 |g=>exact M1 x b d
 |c=>exact .gC λg a a2=>((Fh x.k.h 9 (Bk x.k.h b) (Bk x.k.h d)<|ar (ci (af ..) _) x.hI) g a).b _ _ _ _<|.bP x.k B
 |a=>
  refine .gC λg a a2=>sh (Option.map_eq_some_iff.mp a) λh f j=>?_;subst j;exact((Fh x.k.h 9 (Bk x.k.h b) (Bk x.k.h d)<|ar (ci (af ..) _) x.hI) h f).c _ _ _ _<|.bP x.k B
 |f=>cases m with
  |e=>subst d;exact .aJ λa2=>ah<|isSame_none z▸as (as<|.bP x.k<|G kz<|Fj b)
  |_=>exact .aE
 |i=>cases m with
  |e=>subst d;exact .aJ λa2=>ah<|isSame_none z▸as (as<|.bP x.k<|G (λg=>kz<|!g)<|Fj b)
  |b i=>cases s with
   |b L=>exact M0 x b d
   |_=>exact .aE
  |_=>exact .aE
theorem M2(f:sd c w b)(h:sd c q g)(i:ot (vx a) q=false):sd c (.Compare w [vx a] [q] b6) (.aG a b g):=λy T p x=>by
 exact J (eval_Compare1 ..)<|J (markedBehindIn_of_false i)<|(f y T p x).aC λz s j d l=>(h y T j<|x.aF d).aZ.aC λk m P e n=>.aT<|.dN<|zD ((x.aF d).aF e) a (l.aQ e.r.y) n
theorem M3(g:sA L.sk p.rP p.rO p.rS)(a:sy L p n rZ (se (j.map rN.d) p.rS))(c:∀k,u k=ig k\/∃V,u k=gm V (ig k)):sy L p (n>>=u) yU (se j p.rS):=by
 have e:se j p.rS=rQ.aC (se (j.map .d) p.rS) λk d=>se (sP k) d:=by cases j<;>rfl
 exact e▸(a.aC λk s h l b=>(c k).elim (λe=>e▸yo l.n b) λf=>f.elim λV e=>J e<|(yo l.n b).aZ)
theorem M4(i:sd c w b)(j:sd c q g)(l:ot (vx a) q=false):uk c (.Compare w [vx a] [q] b6) (.aG a b g):=λy T p x=>by
 refine J (isTrue_Compare1 ..)<|J (markedBehindIn_of_false l) ?_;have e:vm c (.aG a b g) T p.rS=rQ.aC (sZ c b T p.rS) λk d=>rQ.aC (sZ c g T d) λv d=>se (tm d a k v) d:=by
  refine rQ.bX.trans<|G (rQ.aC _)<|funext λk=>funext λd=>rQ.bX.trans<|G (rQ.aC _)<|funext λv=>funext λd=>?_;refine(?_:rQ.aC (se ((tm d a k v).map rN.d) d) _=_);cases tm d a k v<;>rfl
 exact J e<|(i y T p x).aC λz s n h o=>(j y T n<|x.aF h).aZ.aC λk m P f r=>.aT<|M3 f.n (.dN<|zD ((x.aF h).aF f) a (o.aQ f.r.y) r) λk=>.inr ⟨_,B⟩
end
end
section
variable{c:sL} {y:bj} {T:sg} {p:sE} {s:rN} {n:ag} {e:Q} {b6:bp}
theorem M5(a:sd c n e):sd c (.UnaryOp .Invert n b6) (.eP e):=λy T p x=>by
 exact J (eval_UnaryOp ..)<|(a y T p x).aC λz s d l b=>.aT<|.aZ<|.bK b λr b8=>.aJ λa2=>invert_int<|.bE l.n ⟨_,B⟩
theorem Fl(a:sd c n e):sd c (.UnaryOp .USub n b6) (.bW e):=λy T p x=>by
 exact J (eval_UnaryOp ..)<|(a y T p x).aC λz s d l b=>.aT<|.aZ<|.bK b λr b8=>.aJ λa2=>PyProof.Rows.neg_int<|.bE l.n ⟨_,B⟩
set_option backward.match.sparseCases false in
noncomputable def xR(n:ag):Bool:=match n with|.Starred ..=>false|_=>true
theorem wT(a:xR n=true):dj (n::U) o=(false,bz n o)::dj U o:=by
 cases n<;>first|rfl|exact tC a
structure yV(c:sL)(n:ag)(e:Q):Prop where
 a:xR n=true
 b:sd c n e
abbrev uF(c:sL):List ag->Q->Prop:=vw<|yV c
abbrev vN(c:sL)(W:Q)(T:sg)(d:rR):rQ (List rN):=wL (td c.t_ c.tF) c.tF W T d
def M6(t:Nat)(O:sw)(b3:List ab)(a6:List rN):Prop:=tn O b3 a6/\b3.length=t
theorem CG:ef ((false,A)::O)=A>>=λk=>gm [k] (ef O)>>=λV=>ay<|k::V:=by
 rw[ef]
 rfl
theorem zE{U:List ag}{W:Q}(a:uF c U W):∀y T p,ss c y T p->sy (c.sI y) p (ef<|dd b6<|dj U c.rW.sb) (M6 U.length) (vN c W T p.rS):=by
 induction a with
 |n=>exactλy T p x=>.cM x.k ⟨.n,B⟩
 |c b _ g=>
  intro y T p x;refine(wT b.a)▸((?_:sy _ _ (ef<|(false,_)::dd b6 _) _ _));exact J CG<|(b.b y T p x).aC λz s h l i=>(g y T h<|x.aF l).aZ.aC λb3 a6 P d f=>.cM d.n ⟨.c (i.aQ d.r.y) f.1,G (·+1) f.2⟩
theorem M7(a:uF c U W)(d:U.length<=1000):sd c (.Tuple U i b6) (.q W):=λy T p x=>by
 refine .aT<|(zE a y T p x).aC λb3 a6 f l b=>?_;have w:=b.2▸d;exact .aJ λa2=>ej (.bH l.n B<|tv b3 ⟨_,cl _ B,B,0,B⟩ b.1<|aa w<|sz B)<|aa w<|by refine sa ch ?_;decide
theorem M8(a:uF c U W)(d:U.length<=1000):sd c (.List U b6) (.m W):=λy T p x=>by
 refine .aT<|(zE a y T p x).aC λb3 a6 f l b=>?_;have w:=b.2▸d;exact .aJ λa2=>ej (.bH l.n B<|tv b3 ⟨0,cl _ B⟩ b.1<|aa w<|sz B)<|aa w<|by refine sa ch ?_;decide
inductive ww(c:sL):List gt->List ag->Q->Prop
 |d {j:tM} {n:ag} {e:Q}:sd c n e->ww c [vx j] [n] (.p j e .n)
 |b {j a:tM} {o:List gt} {n b:ag} {a5:List ag} {e E X:Q}:sd c n e->ww c (vx a::o) (b::a5) (.p a E X) ->ww c (vx j::vx a::o) (n::b::a5) (.p j e<|.p a E X)
theorem so.cB{cB:sw->b1->a0->Prop}{u:Unit->au b1}{A:rQ a0}(a:sy L p (u ()) cB A):sy L p (release V b>>=u) cB A:=λq e=>I.Eo<|a q e
theorem Fm{j:Option Bool}(b':rR->rQ a0):(j.bind λn=>si n<|b' d)=rQ.aC (se (j.map rN.d) d) λk d=>(sP k).bind λn=>si n<|b' d:=by
 cases j<;>rfl
theorem so.eS{b:sw->b1->a0->Prop}{d f:au b1}{A:rQ a0}(g:h=i)(a:sy L p d b A):sy L p (if h then d else f) b (Mine.si i A):=by
 subst g;cases h
 ·exact .aE
 ·exact a
theorem Fn{o:List gt}{a5:List ag}{X:Q}(a:ww c o a5 X):∀y T p b s,ss c y T p->rZ p.rP b s->sy (c.sI y) p (compareChain b6 b o<|k_ a5 c.rW.sb) rZ (vs (td c.t_ c.tF) c.tF X s T p.rS)/\ sy (c.sI y) p (testChain b6 b o<|k_ a5 c.rW.sb) yU (rQ.aC (vs (td c.t_ c.tF) c.tF X s T p.rS) λk d=>se (sP k) d):=by
 induction a with
 |@d j n e r=>
  intro y T p b s x t
  constructor
  ·exact(r y T p x).aZ.aC λz m L l g=>.aT<|.dN<|zD (x.aF l) j (t.aQ l.r.y) g
  ·show sy _ _ _ _<|rQ.aC (rQ.aC (sZ c e T p.rS) λv d=>se ((tm d j s v).map rN.d) d) _;exact J rQ.bX<|(r y T p x).aZ.aC λz m L l g=>.aT<|.aC (.dN<|zD (x.aF l) j (t.aQ l.r.y) g) λh m P i u=>.aZ<|yo i.n u
 |@b j q o n S a5 e E X r _ O=>
  intro y T p b s x t
  constructor
  ·exact(r y T p x).aZ.aC λz m L l g=>.aT ((Fm λd=>vs (td c.t_ c.tF) c.tF (.p q E X) m T d)▸(so.aC (zD (x.aF l) j (t.aQ l.r.y) g).aZ λh A P i u=>.cB (sy.gH (x:=λn d=>si n<|vs (td c.t_ c.tF) c.tF (.p q E X) m T d) (yo i.n u).aZ λn R M w N=>.eS N (O y T M z m (((x.aF l).aF i).aF w)<|g.aQ (i.aM w).r.y).1)))
  ·show sy _ _ _ _<|rQ.aC (rQ.aC (sZ c e T p.rS) λv d=>(tm d j s v).bind λn=>si n<|vs (td c.t_ c.tF) c.tF (.p q E X) v T d) _;refine J rQ.bX ?_;refine(r y T p x).aZ.aC λz m L l g=>.aT ?_;refine(Fm λd=>vs (td c.t_ c.tF) c.tF (.p q E X) m T d)▸?_;refine(λf=>J rQ.bX f) ?_;refine so.aC (zD (x.aF l) j (t.aQ l.r.y) g).aZ λh A P i u=>.cB ((show rQ.aC ((sP A).bind λn=>si n<|vs (td c.t_ c.tF) c.tF (.p q E X) m T P.rS) (λk d=>se (sP k) d)=(sP A).bind λn=>si n (rQ.aC (vs (td c.t_ c.tF) c.tF (.p q E X) m T P.rS) λk d=>se (sP k) d)by cases sP A with
    |none=>rfl
    |some n=>cases n<;>rfl)▸?_)
   exact sy.gH (x:=λn d=>si n<|rQ.aC (vs (td c.t_ c.tF) c.tF (.p q E X) m T d) λk d=>se (sP k) d) (yo i.n u).aZ λn R M w N=>.eS N (O y T M z m (((x.aF l).aF i).aF w)<|g.aQ (i.aM w).r.y).2
variable{o:List gt}
theorem M9(i:sd c w b)(a:ww c (d::f::o) (g::h::a5) X)(j:lg (d::f::o) (g::h::a5)=false):sd c (.Compare w (d::f::o) (g::h::a5) b6) (.w b X):=λy T p x=>by
 refine(?_:sy _ _ (bz w c.rW.sb>>=λb=>compareChain b6 b (d::f::o)<|markedEach (d::f::o) (g::h::a5)<|k_ (g::h::a5) c.rW.sb) _ _);exact J (markedEach_of_false _ _ _ j)<|(i y T p x).aC λz s k l m=>(Fn a y T k z s (x.aF l) m).1
theorem M'(i:sd c w b)(a:ww c (d::f::o) (g::h::a5) X)(j:lg (d::f::o) (g::h::a5)=false):uk c (.Compare w (d::f::o) (g::h::a5) b6) (.w b X):=λy T p x=>by
 refine(?_:sy _ _ (bz w c.rW.sb>>=λb=>testChain b6 b (d::f::o)<|markedEach (d::f::o) (g::h::a5)<|k_ (g::h::a5) c.rW.sb) _ _);exact J (markedEach_of_false _ _ _ j)<|J (show vm c (.w b X) T p.rS=_ from rQ.bX)<|(i y T p x).aC λz s k l m=>(Fn a y T k z s (x.aF l) m).2
end
theorem M_:((tW.map ie).map (·.cps.toList)).Nodup:=by decide+kernel
theorem Fo(a:b<tW.length):((tW.map ie).map (·.cps.toList))[b]?=D (te b).cps.toList:=by
 unfold te;refine ae (ew) ?_;refine ae (G _<|ew) ?_;refine J (d_ a) ?_
 rfl
theorem Na(h:b<tW.length)(a7:g<tW.length)(a:te b=te g):b=g:=by
 have S:=Fo h;rw[a]at S;obtain⟨c,a'⟩:=List.getElem?_eq_some_iff.mp S;obtain⟨d,b2⟩:=List.getElem?_eq_some_iff.mp<|Fo a7;have e:=List.pairwise_iff_getElem.mp M_;rcases Nat.lt_trichotomy b g with f|f|f
 ·exact absurd (a'.trans b2.symm)<|e b g c d f
 ·exact f
 ·exact absurd (b2.trans a'.symm)<|e g b d c f
theorem Fp{e:jf}(a:e.key=.str (te L) n)(c:b<tW.length)(d:L<tW.length):e.key.isStr (te b)=decide (b=L):=by
 refine J a ?_;by_cases f:b=L
 ·subst f;exact(gs _).trans (bd B).symm
 ·exact J (cd f)<|beq_eq_false_iff_ne.mpr λm=>f<|Na c d m.symm
theorem CH(j:b<tW.length)(c:wP O W a5)(h:∀u∈a5,u.1<tW.length): (∀s,tV b a5=D s->∃e,W.find? (·.key.isStr<|te b)=D e/\rZ O e.val s)/\(tV b a5=none->W.find? (·.key.isStr<|te b)=none)/\W.any (·.refKey)=false:=by
 induction c with
 |n=>exact⟨λs a=>(sq a),λ_=>B,B⟩
 |@c e u W a5 a _ l=>
  obtain⟨⟨n,g⟩,i⟩:=a;refine ye (l λx m=>h x<|br _ m) λo p q=>?_;obtain⟨L,k⟩:=u;dsimp only at g i
  have a':=Fp g j<|h (L,k)<|bn ..;refine tG (λs d=>?_) (λd=>?_)<|?_
  ·replace d:(if b=L then D k else tV b a5)=D s:=d;refine J (or)<|J a' ?_;by_cases f:b=L
   ·replace d:=(an f)▸d;obtain rfl:=ak d;simp only[f,decide_true];exact sn e B i
   ·rw[am f]at d;simp only[f,decide_false];exact o s d
  ·replace d:(if b=L then D k else tV b a5)=none:=d;refine ae (or) ?_;refine J a' ?_;by_cases f:b=L
   ·rw[an f]at d;exact va d
   ·rw[am f]at d;simp only[f,decide_false];exact p d
  ·refine ae my ?_;refine ae (G _ q) ?_;simp[DictEntry.refKey,g]
theorem Nb(a8:j.data=.dict W h)(d:b<tW.length)(c:wP O W.toList a5)(f:∀u∈a5,u.1<tW.length)(a:tV b a5=D s): ∃k,lookIn (te b) j=D (D k)/\rZ O k s:=by
 refine sh ((CH d c f).1 s a) λe S g=>sn e.val (?_) g;unfold lookIn;refine J a8 ?_;dsimp only;exact J S B
theorem Nc(a8:j.data=.dict W g)(d:b<tW.length)(c:wP O W.toList a5)(e:∀u∈a5,u.1<tW.length)(a:tV b a5=none): lookIn (te b) j=D none:=by
 refine ye (CH d c e) λv S f=>?_;unfold lookIn;refine J a8 ?_;dsimp only;refine J (S a)<|J f ?_
 rfl
theorem Fq{a5:List (Nat×a0)}{s:a0}(a:tV b a5=D s):(b,s)∈a5:=by
 induction a5 with
 |nil=>exact sq a
 |cons u a5 c=>
  have a:(if b=u.1 then D u.2 else tV b a5)=D s:=a;by_cases f:b=u.1
  ·replace a:=(an f)▸a;obtain rfl:=ak a;subst f;exact bn ..
  ·rw[am f]at a;exact br _<|c a
theorem Nd(a:rZ O k s):handedIn k=true:=by
 cases s with
 |e=>subst a;rfl
 |d g=>subst a;rfl
 |i r=>obtain⟨n,rfl⟩:=a;rfl
 |f w=>refine tP a λM n c v=>?_;subst c;rfl
 |m w=>refine tP a λM n c v=>?_;subst c;rfl
 |_=>refine sh a λb c v=>?_;subst c;rfl
section
theorem Fs(c:wQ X O a b h a5):∃f d e W g,InstAt a b f (X.sM h) (D e)/\f.dict=D d/\O d=.e b/\a.get? d=D e/\e.data=.dict W g/\wP O W.toList a5:=by
 obtain⟨f,d,e,W,g,S,k,l,i,m,j,n,o⟩:=c.i;exact⟨f,d,e,W,g,⟨S,k,l.1,by refine J i ?_;exact j⟩,i,m,j,n,o⟩
end
section
variable{s:rN} {n:ag}
theorem Ft(x:ss c y T p)(r:wQ c.sc p.rP p.rO.heap b h a5):sy (c.sI y) p (getAttr (.ref b) (te i) true) rZ (se (tV i a5) p.rS):=.dV λs a a2=>by
 refine bk (x.u.a _ r.j) λR d=>?_;obtain⟨o,q,t,W,v,b1,S,w,z,f,g⟩:=Fs r;have l:=r.g _<|Fq a;exact sh (Nb f l.2 g (λu j=>(r.g u j).2) a) λk m e=>get_value (d.d.keeps x.k.h.C) b1 d.f (findObj_own d.g (d.i _ l.1 l.2) B m) (Nd e)<|.bE x.k e
theorem Fu{a1:Option (Nat×List (Nat×rN)) ->Prop}(x:ss c y T p)(d:rZ p.rP z s)(t:a1 none)(a:∀b h a5,z=.ref b->p.rP b≠.b->wQ c.sc p.rP p.rO.heap b h a5->a1 (D (h,a5))):a1 (xJ p.rS s):=by
 cases s with
 |s h a5=>exact d.elim λb f=>a b h a5 f.1 (sY.cG f.2)<|x.k.bJ f.2
 |b i=>
  refine sh d λb e g=>sh (x.k.h.F b i g) λj S k=>(?_:a1 ((p.rS[i]?).bind λj=>j.tb (h:=λh a5=>D (h,a5))))
  refine J S ?_;cases j with
  |sW h a5=>exact a b h a5 e (sY.eT g) k
  |_=>exact t
 |_=>exact t
theorem Fv(x:ss c y T p)(a:rZ p.rP z s):sy (c.sI y) p (getAttr z (te i) true) rZ (se (xK p.rS s i) p.rS):=Fu (a1:=λj=>sy (c.sI y) p (getAttr z (te i) true) rZ<|se (j.bind λm=>tV i m.2) p.rS) x a .aE λb h a5 e _ r=>J e<|Ft x r
inductive wU:ag->Prop
 |a {l:aj} {s:bp}:wU (.Name l s)
 |c {n:ag} {l:aj} {s:bp}:wU (.Attribute n l s)
 |d {n r:ag} {s:bp}:wU (.Subscript n r s)
 |b {h:Const} {i:Nat} {s:bp}:wU (.Constant h i s)
theorem CI(a:wU j):attributeBase j c o b=b:=by
 cases a<;>rfl
theorem so.hN{n:au ab}{b:sw->ab->a0->Prop}{A:rQ a0}(a:sy L p n b A)(c:∀k l a2 a4,a4 k l->ap (sj L.sk) L.uO (u k) a4 a2 l):sy L p (gm V n>>=u) b A:=λq e=>(rY.tD<|a q e).wr λk Y f=>toI<|c k Y _ _ f
theorem Nf(a:sd c n e)(a7:wU n):sd c (.Attribute n (te i) b6) (.aD e i):=λy T p x=>by
 exact J (arm_eval_Attribute ..)<|J (CI a7)<|(a y T p x).aC λz s d l b=>.aT<|.hN (Fv (x.aF l) b) λk Y a2 a4 a=>ah<|wpAny_letTemporaryGo<|as a
end
section
variable{c:sL}
theorem ss.hJ(x:ss c y T p):zB c.sc c.t_ c.tF y c.rW.uZ p:=⟨x.C,x.A,x.F,x.k,x.o.Qt⟩
theorem Ax(a:uF c U W):(dd b6<|dj U o).any (·.1)=false:=by
 induction a with
 |n=>rfl
 |c b _ d=>exact J (wT b.a) d
theorem CJ{a2:ab->ai->Prop}(a:uF c U W) (i:rY d y (ef<|dd b6<|dj U o) (λV Y=>a4 ⟨V,[]⟩ Y) a2 l):rY d y (evalArgs u true (dd b6<|dj U o) []) a4 a2 l:=by
 cases a with
 |n=>exactλb s r h=>I.Cg (i b s r h) b s r h
 |c e _=>rw[wT e.a]at i⊢;exact I.Ae i
abbrev wV(X:s_)(u:ab):Prop:=∀a,X.sN.StaysIn a->∃i,(i=Keeper.frame\/i=Keeper.machine\/i=qL)/\bo (sj X) a (keeperOf u) i
theorem Bm{R:dm}(b:R.In X.sN)(d:hg R u=true):wV X u:=λa g=>keeps_K d a<|b.keeps g
theorem CK{a1:sE->ab->a9->Prop}{b0:List rN->rR->rQ a9}(d:wV c.sc u)(a:uF c U W)(x:ss c y T p) (i:∀b3 a6 b,sJ (c.sI y) p b->tn b.rP b3 a6->so (c.sI y) b (aw u<|g++b3) a1 (b0 a6 b.rS)): so (c.sI y) p (hq b6 u g (dd b6<|dj U c.rW.sb) []) a1 (rQ.aC (vN c W T p.rS) b0):=(zE a y T p x).dM (R:=λb3 a4 a2 l=>c.sc.sN.StaysIn l.heap/\rY (sj c.sc) y (aw u<|g++b3) a4 a2 l) (λa4 a2 f=>I.xG (Ax a) d<|CJ a f) λb3 a6 b l h _ q e=>⟨l.n.h.C,(i b3 a6 b l h.1).bN l q e⟩
structure Ng(c:sL)(M:aj)(i:Bool)(u:Nat):Prop where
 a:vb c M (.ref<|bif i then c.sc.sM u else c.sc.vl u)
 b:wV c.sc (.ref<|bif i then c.sc.sM u else c.sc.vl u)
theorem so.gD{a1:sE->ab->a9->Prop}{A:rQ a9}(a:vb c M v)(x:ss c y T p)(i:so (c.sI y) p (hq b6 v [] (dd b6<|dj U c.rW.sb) []) a1 A):so (c.sI y) p (bz (.Call (.Name M s) U [] b6) c.rW.sb) a1 A:=λq e=>I.A8<|toI<|a.cN x.l x.k.h.C<|i q e
theorem Fw{M:aj}{i:Bool}{u:Nat}{s:bp}(b:Ng c M i u)(a:uF c U W){e:Q}(f:∀T d,sZ c e T d=rQ.aC (vN c W T d) λa6 d=>td c.t_ c.tF i u a6 d):sd c (.Call (.Name M s) U [] b6) e:=λy T p x=>by
 exact J (f ..)<|.gD b.a x<|CK b.b a x λb3 a6 g l h=>x.I c.tF i u a6 y c.rW.uZ g b3 c.rW.wR (x.aF l).hJ h
end
section
variable{c:sL} {T:sg} {p:sE} {s:rN} {O:ag} {b:al}
theorem Nh(O:ag)(j r:ab):∃d,subscripted O false j r=operate d (getItem j r):=by
 cases O with
 |Slice w a n s=>cases n<;>exact⟨_,B⟩
 |_=>exact⟨_,B⟩
theorem yq{b0 o:String}{a2:ab->ai->Prop}(d:l.TypeIs z b0)(e:Slot b0 "__getitem__" o)(f:ap (sj X) y (getItem z k) a4 a2 l):ap (sj X) y (ex g O z k) a4 a2 l:=(Nh O z k).elim λh a=>tail_any d e.lookup f a
theorem Fx(a:uS r A=D i):ic r A=D i/\ -2^62<=r/\r<2^62:=by
 unfold uS at a
 cases m:(decide (-4611686018427387904<=r)&&decide (r<4611686018427387904))with
 |false=>rw[m]at a;exact sq a
 |true=>
  rw[m]at a;exact⟨a,av (tk m).1,av (tk m).2⟩
theorem Fy(a:ic r A=D i):(0<=r/\r.toNat=i)\/(r<0/\ -(A:Int)<=r/\(r+A).toNat=i):=by
 unfold ic at a
 by_cases d:r<0
 ·simp only[d,if_true]at a;by_cases S:(decide (0<=r+A)&&decide (r+A<A))=true
  ·rw[an S]at a;exact .inr ⟨d,by have:=av (tk S).1;clear a S;omega,ak a⟩
  ·rw[am S]at a;exact sq a
 ·simp only[d,if_false]at a;by_cases S:(decide (0<=r)&&decide (r<A))=true
  ·rw[an S]at a;exact .inl ⟨Int.not_lt.mp d,ak a⟩
  ·rw[am S]at a;exact sq a
theorem so.gE{U:List rN}{d:rR}(a:∀i s,ic r U.length=D i-> -2^62<=r->r<2^62->U[i]?=D s->sy L p n rZ (sv s d)):sy L p n rZ (Mine.se ((uS r U.length).bind λi=>U[i]?) d):=by
 cases e:uS r U.length with
 |none=>exact .aE
 |some i=>
  have f:=Fx e;refine(?_:sy L p n rZ (Mine.se U[i]? d));cases g:U[i]? with
  |none=>exact .aE
  |some s=>exact a i s f.1 f.2.1 f.2.2 g
theorem CL: -2^62<=r-> -2^63<=r:=hu<|by decide
theorem Bn{r:Int}(a:r<2^62):r<2^63:=Int.lt_of_lt_of_le a<|by decide
theorem Fz(h:sA L.sk p.rP p.rO p.rS)(a:tf L.sk p.rP p.rO.heap b (.sr U)):sy L p (ex o O (.ref b)<|.int r n) rZ (se ((uS r U.length).bind λi=>U[i]?) p.rS):=.gE λi s j S l m=>by
 refine tp a λV d g v=>sh (g.eU m) λk e q=>.aJ λa2=>yq d.isList.typeIs slot_list_getitem<|(Fy j).elim (λf=>wpAny_getItem_list d.isList f.1 (Bn l) ?_<|.bP h q) λf=>wpAny_getItem_list_neg d.isList f.1 ?_ (CL S) ?_<|.bP h q
 ·exact ae (G _ f.2)<|List.getElem?_toArray.trans e
 ·exact fh▸g.aY▸f.2.1
 ·refine fh▸g.aY▸?_;exact ae (G _ f.2.2)<|List.getElem?_toArray.trans e
theorem Ni(h:sA L.sk p.rP p.rO p.rS)(a:uV L.sk p.rP p.rO.heap b (.j U)):sy L p (ex m O (.ref b)<|.int r n) rZ (se ((uS r U.length).bind λi=>U[i]?) p.rS):=.gE λi s d S j l=>by
 refine tp a λV f g v=>sh (g.eU l) λk e q=>?_;rw[<-g.aY]at d;exact .aJ λa2=>yq f.typeIs mz<|PyProof.Rows.getItem_tuple f (CL S) (Bn j) d (List.getElem?_toArray.trans e)<|.bP h q
theorem Nj{U:List Int}:(se (((uS r U.length).bind λi=>U[i]?).map rN.i) d:rQ rN)=se ((uS r (U.map rN.i).length).bind λi=>(U.map rN.i)[i]?) d:=by
 rw[a_];cases uS r U.length with
 |none=>rfl
 |some i=>exact G (λj=>se j d) List.getElem?_map.symm
theorem Nk(l:sA L.sk p.rP p.rO p.rS)(a:rZ p.rP z (.m U)):sy L p (ex w O z<|.int r n) rZ (se (((uS r U.length).bind λi=>U[i]?).map rN.i) p.rS):=by
 refine J Nj ?_;refine ul a λg e d m v=>?_;subst d;subst m;refine .gE λi s k S o f=>?_;rw[a_,a_,df]at k;replace f:=(ew)▸(ew)▸f;refine sh (Option.map_eq_some_iff.mp f) λt q d=>?_;subst d;refine sh (Option.map_eq_some_iff.mp q) λh u d=>?_;subst d;exact .aJ λa2=>yq (dg _ g e) ji (getItem_gives (dg _ _ e) B ji ou (ov _ _) (gives_bytes_getitem g r e n h (Bool.and_eq_true_iff.mpr ⟨bd<|CL S,bd<|Bn o⟩)<|(G (λj=>j.bind λi=>g[i]?) k).trans<|Array.getElem?_toList.symm.trans u)<|.bE l ⟨_,B⟩)
theorem Nl(g:sA L.sk p.rP p.rO p.rS)(a:wa L.sk p.rP p.rO.heap b W):sy L p (ex k O (.ref b)<|.int r n) rZ (se (tc r W) p.rS):=.dV λs e a2=>by
 refine tp a.d λl d h m=>?_;have f:=Bl h r;rw[e]at f;refine sh f λz i j=>?_;exact yq d.typeIs slot_dict_getitem<|wpAny_getItem_of (zC r n) d.mapOf i<|.bE g j
theorem FA(d:sA L.sk p.rP p.rO p.rS)(a:tf L.sk p.rP p.rO.heap b j)(e:rZ p.rP k m):sy L p (ex f O (.ref b) k) rZ (se (zx j m) p.rS):=.bK e λr n=>@sC.casesOn (λj=>tf L.sk p.rP p.rO.heap b j->sy L p (ex f O (.ref b)<|.int r n) rZ (se (j.tb (w:=λU=>(uS r U.length).bind λi=>U[i]?) (N:=tc r)) p.rS)) j (λ_ a=>Fz d a) (λ_ _ _=>.aE) (λ_ a=>Nl d a) (λ_ _=>.aE) a
theorem so.bU{n:au b1}{a1:sE->b1->a0->Prop}{u:sC->Option a0}(d:sA L.sk p.rP p.rO p.rS)(e:p.rP b=.d i)(a:∀j,p.rS[i]?=D j->tf L.sk p.rP p.rO.heap b j->so L p n a1 (Mine.se (u j) p.rS)):so L p n a1 (Mine.se ((p.rS[i]?).bind u) p.rS):=(d.h.F b i e).elim λj f=>sa f.1.symm<|a j f.1 f.2
theorem Nm(d:sA L.sk p.rP p.rO p.rS)(g:rZ p.rP z s)(e:rZ p.rP k m):sy L p (ex h O z k) rZ (se (uY p.rS s m) p.rS):=by
 have t:sy L p (ex h O z k) rZ (se (m.aH) p.rS):=.bK e λ_ _=>.aE;cases s with
 |b i=>exact g.elim λb f=>f.1▸.bU d f.2 λj _ a=>FA d a e
 |c U=>exact g.elim λb f=>f.1▸.bK e λr n=>Fz d<|d.bJ f.2
 |j U=>exact g.elim λb f=>f.1▸.bK e λr n=>Ni d<|d.bJ f.2
 |m U=>exact .bK e λr n=>Nk d g
 |_=>exact t
variable{r:Q}
theorem Nn(d:sd c n e)(f:sd c w r):sd c (.Subscript n w b6) (.aP e r):=λy T p x=>by
 exact J (m_ ..)<|(d y T p x).aC λz s g h i=>(f y T g<|x.aF h).aZ.aC λk m P a j=>.aT<|Nm a.n (i.aQ a.r.y) j
structure vO(c:sL)(Y:sg)(r:Nat)(M:aj)(j:sC)(b:al)(p:sE):Prop where
 Y:Y[r]?=D (.sl j)
 S:to c.rW.sb p.rO.heap M (.ref b)
 W:p.rP b=.b
 X:yR c.sc c.rW b
 I:tf c.sc p.rP p.rO.heap b j
theorem vO.aF{r:Nat}(a:vO c T r M j b p)(x:ss c y T p)(l:sJ (c.sI y) p d):vO c T r M j b d:=⟨a.Y,a.S.bI x.o.toFb l.r (T:=T) .aI,a.I.cJ.elim λe f=>l.r.z b e f.1 a.W id,a.X,a.I.cR l.r a.W id⟩
theorem ss.aW{r:Nat}{a1:sE->b1->a0->Prop}{n:au b1}{i:sC->rQ a0}(x:ss c y T p)(e:c.rW.tq r=D M)(a:∀j b,vO c T r M j b p->so L p n a1 (i j)):so L p n a1 ((sR T r).bind i):=by
 cases d:sR T r with
 |none=>exact .aE
 |some j=>exact(x.o.C r M (.sl j) e<|Av d).elim λb f=>a j b ⟨Av d,f.1,f.2.1,f.2.2.1,f.2.2.2⟩
theorem so.cN{a1:sE->b1->a0->Prop}{u:ab->au b1}{A:rQ a0}(x:ss c y T p)(d:to c.rW.sb p.rO.heap M k)(a8:ua M)(a:so (c.sI y) p (u k) a1 A):so (c.sI y) p (bz (.Name M b6) c.rW.sb>>=u) a1 A:=λq e=>rY.sf<|toI<|wb x.l d a8<|a q e
theorem No(d:c.rW.tq i=D M)(a8:ua M)(e:sd c w r):sd c (.Subscript (.Name M a6) w b6) (.E i r):=λy T p x=>by
 exact J (m_ ..)<|x.aW d λj b a=>.cN x a.S a8<|(e y T p x).aZ.aC λk m g l f=>.aT<|FA l.n (a.aF x l).I f
theorem Np(d:c.rW.tq i=D M)(a8:ua M):sd c (.Attribute (.Name M a6) (te t) b6) (.x i t):=λy T p x=>by
 refine J (arm_eval_Attribute ..)<|J (CI .a)<|x.aW d λj b a=>.cN x a.S a8<|.aT<|.hN ?_ λk Y a2 a4 a=>ah<|wpAny_letTemporaryGo<|as a;exact @sC.casesOn (λj=>tf c.sc p.rP p.rO.heap b j->sy (c.sI y) p (getAttr (.ref b) (te t) true) rZ (se (j.tb (h:=λ_ a5=>tV t a5)) p.rS)) j (λ_ _=>.aE) (λ_ _ a=>Ft x a) (λ_ _=>.aE) (λ_ _=>.aE) a.I
end
section
variable{P:a0->b1->Prop} {w:List a0} {A:List b1}
theorem sU.cW(a:sU P w A):∀i,sU P (w.take i)<|A.take i:=by
 induction a with
 |n=>exactλi=>J List.take_nil<|J List.take_nil .n
 |c c _ b=>exactλi=>@mu (λi=>sU P ((_::_).take i)<|(_::_).take i) i .n λi=>.c c<|b i
theorem sU.eV(a:sU P w A):∀i,sU P (w.drop i)<|A.drop i:=by
 induction a with
 |n=>exactλi=>J List.drop_nil<|J List.drop_nil .n
 |c c q b=>exactλi=>@mu (λi=>sU P ((_::_).drop i)<|(_::_).drop i) i (.c c q) λi=>b i
end
inductive wd:ab->Option Nat->Prop
 |b:wd .none none
 |c {t:Nat} {n:ct}:wd (.int t n) (D t)
theorem wd.cO(a:wd z j):IsPart z (j.map fx):=by cases a<;>constructor
theorem Nq(j:Option Nat)(t:Nat):(j.map fx).elim 0 (hv t)=min (j.getD 0) t:=@eh Nat (λj=>(j.map fx).elim 0 _=min (j.getD 0) t) j (Nat.zero_min t).symm λi=>clipAt_nat t i
theorem Nr(j:Option Nat)(t:Nat):(j.map fx).elim t (hv t)=min (j.getD t) t:=@eh Nat (λj=>(j.map fx).elim t _=min (j.getD t) t) j (Nat.min_self t).symm λi=>clipAt_nat t i
theorem Ns{b:Nat}:min (min g t -min b t) (t -b)=min (g -b) (t -b):=(Nat.le_total b t).elim (λa=>by refine J (hh a)<|sa (Nat.sub_min_sub_right ..) ?_;refine ae (Nat.min_assoc ..) ?_;exact G _<|Nat.min_self ..) λa=>by refine(qR a)▸?_;refine ae (Nat.min_zero ..) ?_;rw[Nat.min_zero]
theorem FC(U:List a0)(b g:Option Nat):(U.drop<|(b.map fx).elim 0<|hv U.length).take ((g.map fx).elim U.length (hv U.length) -(b.map fx).elim 0 (hv U.length))=wH U b g:=by
 refine J (Nq ..)<|J (Nr ..) ?_;refine ae (G _<|kmk_drop_min ..) ?_;unfold wH;refine J List.drop_take ?_;rw[List.take_eq_take_iff];exact J hw Ns
theorem FD(U:List a0)(b g:Option Nat):(wH U b g).length<=U.length:=J hw<|J ek<|aa (el ..)<|lh ..
theorem sU.iU{P:a0->b1->Prop}{w:List a0}{A:List b1}(a:sU P w A):sU P (wH w b g) (wH A b g):=by
 unfold wH;exact J a.aY<|(a.cW _).eV _
theorem Nt(U:Array ab)(i:Nat):((b_ i).filterMap λ(L:Nat)=>U[((0:Int)+(L:Int)*1).toNat]?).toArray=(U.toList.take i).toArray:=by
 exact(funext λL=>by exact J (Int.zero_add ..) (J (Int.mul_one ..)<|ae (G _<|na ..)<|(bt ..)▸B):(λ(L:Nat)=>U[(0+(L:Int)*1).toNat]?)=λL=>U[0+L]?)▸(G List.toArray<|List.filterMap_map.symm.trans<|pick_run U 0 i)
theorem Nu{a2:ab->ai->Prop}{V:List ab}(a:IsTup l.heap n V.toArray)(e:l.heap.IsSliceOf b .none (.int 3 b8) .none)(f:V.toArray.size=4) (g:a4 (.ref l.heap.objs.size) {l with heap:=l.heap.push {cls:=.type "tuple",data:=.seq (V.take 3).toArray}}):ap (sj X) y (getItem (.ref n)<|.ref b) a4 a2 l:=by
 refine tp e λo c h d=>?_;refine dz<|ah<|wpAny_sequenceKey a.typeIs B ?_;refine ah<|jj a.typeIs mz<|hx mz a.typeIs entry_tuple_getitem ?_<|args_tuple_getitem _ _;refine(?_:ap _ _ (Builtin.Tuple.tupleItemsOf _>>=_) _ _ l);refine ah<|tupleItemsOf_ a<|ah<|jk (sn o c h) ?_;refine uL (an B)<|ah<|ah<|ah<|cq c d (x:=.none) B<|ah<|cq c d (x:=.int 3 b8) B<|ah<|cq c d (x:=.none) B<|as ?_;refine ah<|slicePart_none ?_;refine(?_:ap _ _ (if((1:Int)==0)=true then _ else _) _ _ l);refine uL (am<|by decide)<|ah<|slicePart_none<|ah<|slicePart_int<|ah<|as ?_;refine f▸(show Builtin.Slice.sliceAdjust none (D 3) 1 ((4:Nat):Int)=(0,3)by decide)▸((?_:ap _ _ (ay ((0:Int),(1:Int),qS 0 3 1)) _ _ l));refine(show qS 0 3 1=3 by decide)▸(as<|(?_:ap _ _ (if((0:Int)==0&&(1:Int)==1&&(3:Nat)==4)=true then _ else _) _ _ l));refine uL (am<|by decide)<|(Nt ..)▸(ah<|ej (as<|sn _ B<|as g) ?_);refine(?_:((V.take 3).toArray).size<=gr);exact J fh<|J ek<|aa (hi ..)<|af ..
section
variable{c:sL} {y:bj} {p:sE} {v:ab} {O:ag} {b:al}
theorem so.cO{a1:sE->b1->a0->Prop}{n:au b1}(f:rZ p.rP z s){i:Option Nat->Option a0}{d:rR}(a:∀j,wd z j->so L p n a1 (Mine.se (i j) d)):so L p n a1 (Mine.se ((Ag s).bind i) d):=@rN.casesOn (λs=>rZ p.rP z s->so L p n a1 (Mine.se ((Ag s).bind i) d)) s (λf=>a _<|J f .b) (λ_ _=>.aE) (λr=>@Int.casesOn (λr=>rZ p.rP z _->so L p n a1 (Mine.se ((Ag _).bind i) d)) r (λt f=>f.elim λn e=>a _<|J e .c) λ_ _=>.aE) (λ_ _=>.aE) (λ_ _=>.aE) (λ_ _=>.aE) (λ_ _=>.aE) (λ_ _ _ _=>.aE) (λ_ _ _=>.aE) (λ_ _=>.aE) (λ_ _=>.aE) f
theorem Nv(f:sA L.sk p.rP p.rO p.rS)(a:tf L.sk p.rP p.rO.heap b (.sr U))(i:p.rO.heap.IsSliceOf a0 z k .none)(a7:wd z g)(j:wd k h):sy L p (ex m O (.ref b)<|.ref a0) rZ (sv (.c<|wH U g h) p.rS):=by
 refine tp a λV d l e=>.aJ λa2=>yq d.isList.typeIs slot_list_getitem (wpAny_getItem_list_slice d.isList i a7.cO j.cO .none sq ?_ ?_)
 rotate_left
 ·refine J fh ?_;exact aa e<|by refine sa ch ?_;decide
 exact J (slicePick_plain ..)<|J (show(V.toArray.toList.drop<|(g.map fx).elim 0<|hv V.toArray.size).take ((h.map fx).elim V.toArray.size (hv V.toArray.size) -(g.map fx).elim 0 (hv V.toArray.size))=wH V g h from FC V g h)<|.bH f B<|tv _ ⟨0,cl _ B⟩ l.iU<|aa (FD ..) e
theorem Nw(e:sA L.sk p.rP p.rO p.rS)(a:rZ p.rP v (.m U))(f:p.rO.heap.IsSliceOf a0 z k .none)(a7:wd z g)(j:wd k h):sy L p (ex o O v<|.ref a0) rZ (sv (.m<|wH U g h) p.rS):=by
 refine ul a λM n l m d=>?_;subst l;subst m;refine .aJ λa2=>yq (dg _ M n) ji<|getItem_meets (dg _ _ _) B ji ou (ov _ _) (KBc.meets_slice2 M n a0 a7.cO j.cO)<|tG f (aa (KBc.size_picked_le ..) ?_)<|λq i=>.bE e<|uQ _ _ B ((KBc.ints_picked B _ _).trans<|FC ..)<|aa (FD ..) d;rw[a_,df]at d;exact aa d<|by refine sa ch ?_;decide
theorem Nx(f:sA L.sk p.rP p.rO p.rS)(a:uV L.sk p.rP p.rO.heap b (.j U))(g:∃n,p.rO.heap.IsSliceOf a0 .none (.int 3 n) .none)(h:U.length=4):sy L p (ex i O (.ref b)<|.ref a0) rZ (sv (.j<|U.take 3) p.rS):=by
 refine tp a λV d e j=>.aJ λa2=>yq d.typeIs mz<|Nu d g.choose_spec (e.aY.trans h)<|.bH f B<|tv _ ⟨_,cl _ B,B,0,B⟩ (e.cW 3)<|?_;exact J ek<|aa (hi ..)<|sz B
inductive FE(N:rN)(p:sE):ab->rN×rN->Prop
 |mk {a0:al} {b g h:ab} {n:rN×rN}:p.rO.heap.IsSliceOf a0 b g h->rZ p.rP b n.1->rZ p.rP g n.2->rZ p.rP h N->FE N p (.ref a0) n
inductive xS(c:sL):Option ag->Q->Prop
 |b:xS c none .z
 |d {n:ag} {e:Q}:sd c n e->xS c (D n) e
variable{u:Option ag} {n:ag}
theorem xS.aJ(a:xS c u e)(x:ss c y T p):sy (c.sI y) p (evalPart u c.rW.sb) rZ (sZ c e T p.rS):=by
 cases a with
 |b=>exact .cM x.k B
 |d a=>exact a y T p x
theorem sJ.dK(a:sA L.sk p.rP p.rO p.rS)(j:Obj):sJ L p ⟨p.rP,{p.rO with heap:=p.rO.heap.push j},p.rS⟩:=⟨sQ.cY a.h λb m e=>cg _ e,a.hK<|a.h.cY λb m e=>cg _ e⟩
theorem FF{E:Option ag}(j:xS c u k)(l:xS c o q)(r:∀p,ss c y T p->sy (c.sI y) p (evalPart E c.rW.sb) rZ (sv N p.rS))(x:ss c y T p): so (c.sI y) p (bz (.Slice u o E b6) c.rW.sb) (FE N) (rQ.aC (sZ c k T p.rS) λb d=>rQ.aC (sZ c q T d) λg d=>sv (b,g) d):=As (arm_eval_Slice ..)<|(j.aJ x).aC λb s z f t=>(l.aJ<|x.aF f).aZ.aC λg m P i a7=>sy.fJ (x:=λ_ d=>sv _ d) (r P<|(x.aF f).aF i).aZ λh _ A a w e=>.aJ λa2=>ej<|.mk (.dK a.n _) ⟨Heap.IsSliceOf.new ..,t.aQ (i.aM a).r.y,a7.aQ a.r.y,(J (uh.a.inj<|G ij<|ak e) w)⟩
theorem wd.dH{a:ba}(a':d=none)(b2:o=D 3)(S:wd z d)(e:wd k o)(f:a.IsSliceOf a0 z k h):∃n,a.IsSliceOf a0 .none (.int 3 n) h:=by
 subst a' b2;cases S;cases e;exact⟨_,f⟩
theorem Ny(d:sA L.sk p.rP p.rO p.rS)(e:p.rO.heap.IsSliceOf a0 k g .none)(i:rZ p.rP z s)(l:rZ p.rP k m)(a7:rZ p.rP g h):sy L p (ex q O z<|.ref a0) rZ (se (yH s m h) p.rS):=by
 refine .cO l λr S=>.cO a7 λo j=>?_;cases s with
 |c U=>exact i.elim λb f=>f.1▸Nv d (d.bJ f.2) e S j
 |m U=>exact Nw d i e S j
 |j U=>exact i.elim λb f=>f.1▸.cF λa=>Nx d (d.bJ f.2) (wd.dH (av (tk (tk a).2).1) (av (tk (tk a).2).2) S j e)<|av (tk a).1
 |_=>exact .aE
theorem Nz(j:sd c n e)(l:xS c u a)(o:xS c q f):sd c (.Subscript n (.Slice u q none a6) b6) (.cL e a f):=λy T p x=>by
 refine J (m_ ..)<|(j y T p x).aC λz s h r t=>?_;have a':(rQ.aC (sZ c a T h.rS) λv d=>rQ.aC (sZ c f T d) λz d=>wt .a s v z d)=rQ.aC (rQ.aC (sZ c a T h.rS) λb d=>rQ.aC (sZ c f T d) λg d=>sv (b,g) d) λn d=>se (yH s n.1 n.2) d:=by
  exact J rQ.bX<|G _<|funext λb=>funext λd=>(rQ.bX (u:=λg d=>sv (b,g) d) (x:=λn d=>se (yH s n.1 n.2) d)).symm
 refine J a'<|(FF (N:=.e) l o (λp x=>.cM x.k B)<|x.aF r).aZ.aC λk m P i w=>.aT ?_;cases w with
 |mk S A E L=>exact Ny i.n (sa L S) (t.aQ i.r.y) A E
theorem NA(g:Array UInt8):qT g (sliceBounds none none (D<| -1) g.size).1 (sliceBounds none none (D<| -1) g.size).2.1 (-1)=g.toList.reverse.toArray:=by
 refine J (krv_bounds ..) ?_;unfold qT;refine J (krv_sliceRange ..)<|J (krv_range ..) ?_;exact ae (G _ List.filterMap_reverse)<|J (krv_all ..) B
theorem NB(g:Array UInt8)(n b8:ct)(b:al): Meets (Builtin.«bytes.__getitem__» ⟨[.bytes g n,.ref b],[]⟩) (λ_ P l=>l.heap.IsSliceOf b .none .none (.int (-1) b8)/\g.toList.reverse.toArray.size<=gr/\P (.ok<|.ret<|.bytes g.toList.reverse.toArray l.toks) {l with toks:=l.toks+1}):=by
 refine .of_wp λT v y P l f=>ye f λh i a=>?_;refine tp h λj d k a8=>?_;have e:l.TypeIs (.ref b) "slice" :=sn j d k;refine(?_:ap _ _ (Builtin.Bytes.payload (.bytes g n)>>=λq=>_) _ _ l);refine ah<|bq B ?_;refine(?_:ap _ _ (Builtin.Bytes.subscript? _>>=λq=>_) _ _ l);refine ah<|ah<|dp e slice_no_index<|as<|ah<|jk e ?_;refine ah (ah<|cq (x:=.int (-1) b8) d a8 B ?_)
 kby_int
 refine gc (KBy.ite_no (by decide)<|ah<|cq (x:=.none) d a8 B ?_)
 kby_none
 refine ah (cq (x:=.none) d a8 B ?_)
 kby_none
 refine as<|ah<|bq (sliceIndices_raw none none (D<| -1) g.size nofun) ?_;refine gc<|KBy.ite_no ?_ ?_
 ·exact(λa=>tC ((tk (tk (tk a).1).1).2:((-1)==1)=true))
 ·exact(NA ..)▸(ah<|ow (as<|sn _ B a) i)
theorem NC(d:sA L.sk p.rP p.rO p.rS)(e:p.rO.heap.IsSliceOf a0 .none .none (.int (-1) b8))(f:rZ p.rP z s):sy L p (ex k O z<|.ref a0) rZ (wJ .a s p.rS):=by
 cases s with
 |m w=>
  refine ul f λg n h i a=>?_;subst h;subst i;have j:g.toList.reverse.length<=2000000:=by rw[a_]at a;exact J jl a
  exact .aJ λa2=>yq (dg _ g n) ji (getItem_meets (dg _ _ _) B ji ou (ov _ _) (NB g n b8 a0) <|tG e (aa j<|by refine sa ch ?_;decide)<|.bE d<|uQ _ _ B List.map_reverse<|by refine J jl ?_;exact a)
 |_=>exact .aE
theorem ND(j:sd c n e):sd c (.Subscript n (.Slice none none (D<|.UnaryOp .USub (.Constant (.int 1) i E) l) L) b6) (.eA e):=λy T p x=>by
 refine J (m_ ..) ?_;refine(j y T p x).aC λz s M o q=>?_;refine sy.fJ (x:=λ_ d=>wJ .a s d) (FF (E:=D<|.UnaryOp .USub _ l) .b .b (λp x=>(Fl E9) y T p x)<|x.aF o).aZ λk m P a r e=>.aT ?_;obtain rfl:=uh.a.inj<|G ij<|ak e;cases r with
 |@mk a0 b g h _ S t w A=>
  obtain rfl:=(show b=.none from t)
  obtain rfl:=(show g=.none from w)
  exact A.elim λb8 f=>NC a.n (sa f S)<|q.aQ a.r.y
end
def wx(a:ba)(b3:Option ab):Prop:=b3=none\/∃b c V,b3=D (.ref b)/\a.get? b=D c/\c.data=.fields V/\V[2]?=D .none
theorem wv.gZ(c:wv X O a a8 b3):wx a b3:=by
 rcases c with c|⟨_,b,d,V,e,_,_,f,g,h⟩
 ·exact .inl c
 ·exact .inr<|xk b d V e f g h
theorem wx.aS(c:wx a b3)(i:∀g j V,a.get? g=D j->j.data=.fields V->V[2]?=D .none->a3.get? g=D j):wx a3 b3:=by
 rcases c with c|⟨e,f,V,h,k,b,d⟩
 ·exact .inl c
 ·exact .inr<|xk e f V h (i _ _ _ k b d) b d
theorem NE:gd fd "proto.unchain"=D Builtin.«proto.unchain»:=li<|by kernel_rfl
section
theorem NF{a4:a0->ai->Prop}{a2:ab->ai->Prop}(b3:wx l.heap y.handled)(c:l.heap.get? e=D g)(a8:g.data=.fields V)(o:2<V.size)(p:∀b d f,y.handled=D (.ref b) ->l.heap.get? b=D d->d.data=.fields f->f[2]?=D .none->b≠e) (a:∀a3 h,cf e l.heap a3->a3.get? e=D h->h.cls=g.cls->(∃i,h.data=.fields i/\i.size=V.size/\∀r,r≠2->i[r]?=V[r]?) ->a2 (.ref e) {l with heap:=a3}):ap (aq T v) y (raiseNew (.ref e):au a0) a4 a2 l:=by
 refine ah<|wpAny_handled ?_;rcases b3 with b3|⟨b,d,f,j,k,m,n⟩
 ·exact J b3<|ah<|as<|nb<|a l.heap g (.refl ..) c B<|tv V a8 B<|λ_ _=>B
 ·have q:=p b d f j k m n;refine j▸?_;dsimp only;refine(an (by simp[q]:(Value.ref b !=Value.ref e)=true))▸(ah<|dz<|wpAny_runValue<|codeAny_builtin NE ?_);refine ah<|cq k m n ?_;refine gc ?_;rw[an<|by decide];refine as<|ah<|ah<|fw c ?_;refine a8▸(uL (an o)<|wpAny_update c<|nb<|a _ _ (gu ..) (fy _ c<|lj<|jm a8 _) (Obj.cls_mapFields _ _)<|tv _ (jm a8 _) (by simp)<|λr s=>?_);simp[dq s]
theorem FG{a4:a0->ai->Prop}{a2:ab->ai->Prop}(b3:wx l.heap y.handled) (a:∀a3 e,(∀g j,l.heap.get? g=D j->a3.get? g=D j) ->(∃c,a3.get? e=D c/\c.cls=.type "StopIteration") ->a2 (.ref e) {l with heap:=a3}):ap (aq T v) y (newExc (.type "StopIteration") []>>=λe=>(raiseNew e:au a0)) a4 a2 l:=by
 refine ah ?_;simp only[newExc,newTuple];refine ah<|ej ?_<|by size_fits
 refine ah<|bq (a:=.none) (by first|rfl|(simp only[firstArgMember];rfl)) ?_;refine ej ?_<|by size_fits
 have i:∀g j,l.heap.get? g=D j->((l.heap.push {cls:=.type "tuple",data:=.seq ([]).toArray}).push {cls:=.type "StopIteration",data:=.fields<|#[.ref l.heap.objs.size,.none,.none,.none,.bool false,.none]++ownMembersOf (.type "StopIteration") []}).get? g=D j:=λg j e=>cg _<|cg _ e;refine NF (b3.aS λg j _ e _ _=>i g j e) (cl (l.heap.push {cls:=.type "tuple",data:=.seq ([]).toArray}) (o:={cls:=.type "StopIteration",data:=.fields<|#[.ref l.heap.objs.size,.none,.none,.none,.bool false,.none]++ownMembersOf (.type "StopIteration") []}) B) B (by refine J la ?_;refine(?_:2<6+_);lia) (λd p q S r s t f=>?_) λa3 h k a' b2 _=>?_
 ·rcases b3 with b3|⟨u,w,x,m,n,_⟩
  ·have S:=b3▸S;exact sq S
  ·have S:=m▸S;cases S;have o:=eg n;have b:d=l.heap.objs.size+1:=f.trans<|ox _ _;exact absurd o<|J b<|Nat.not_lt.mpr<|ea _
 ·refine a a3 _ (λg j e=>(k.2 g λf=>?_).trans<|i g j e)<|sn h a' b2;have b:g=l.heap.objs.size+1:=f.trans<|ox _ _;exact absurd (eg e)<|J b<|Nat.not_lt.mpr<|ea _
theorem CM{a4:a0->ai->Prop}{a2:ab->ai->Prop}(b3:wx l.heap y.handled)(b:l.heap.get? b7=D j)(a8:j.data=.fields #[c,M]) (a:∀a3 e,jn b7 l.heap a3->(∃j,a3.get? b7=D j) ->(∃d,a3.get? e=D d/\d.cls=.type "StopIteration") ->a2 (.ref e) {l with heap:=a3}):ap (aq T v) y (setField (.ref b7) 0 .none>>=λ_=>newExc (.type "StopIteration") []>>=λe=>(raiseNew e:au a0)) a4 a2 l:=by
 refine ah<|ll b a8 (by decide:0<2)<|FG (b3.aS λg h V e b2 b6=>?_) λa3 e i v=>?_
 ·refine(gv _ _ λf=>?_).trans e;subst f;obtain rfl:=ak<|b.symm.trans e;cases a8.symm.trans b2;exact sq b6
 ·exact a a3 e (λg h a7 m=>i g h<|(gv _ _<|dq a7).trans m) ⟨_,i _ _<|fy _ b<|lj<|jm a8 _⟩ v
theorem NG{a2:ab->ai->Prop}(b3:wx l.heap y.handled)(a:l.heap.IsListIter b7 w r)(c:l.heap.IsList w d)(f:d[r]?=none) (g:∀a3,jn b7 l.heap a3->(∃j,a3.get? b7=D j) ->a4 none {l with heap:=a3}):ap (aq T v) y (gq<|.ref b7) a4 a2 l:=by
 refine tp (id a) λj b o a8=>?_;obtain⟨p,h,_,q,i⟩:=c;refine ah (ii (jj a.typeIs slot_listiter_next <|hx slot_listiter_next a.typeIs entry_listiter_next ?_<|args_listiter_next _));refine(?_:ap _ _ (field _ 0>>=_) _ _ l);refine ah<|cq b a8 (x:=.ref w) B ?_;refine uL (am<|ey)<|ah<|cq b a8 (x:=.int r 0) B ?_;refine ah<|jo h i ?_;simp only[na,f];refine ah<|fa<|CM b3 b a8 λa3 e k m n=>?_;exact ah<|ik n nc<|as<|g _ k m
theorem NH{a2:ab->ai->Prop}(b3:wx l.heap y.handled)(a:l.heap.IsTupleIter b7 w r)(c:l.heap.IsTuple w d)(f:d[r]?=none) (g:∀a3,jn b7 l.heap a3->(∃j,a3.get? b7=D j) ->a4 none {l with heap:=a3}):ap (aq T v) y (gq<|.ref b7) a4 a2 l:=by
 refine tp (id a) λj b o a8=>?_;obtain⟨p,h,_,q,i⟩:=c;refine ah (ii (jj a.typeIs qU <|hx qU a.typeIs F.entry_tuple_iterator_next ?_<|F.args_tuple_iterator_next_1 _));refine(?_:ap _ _ (field _ 0>>=_) _ _ l);refine ah<|cq b a8 (x:=.ref w) B ?_;refine uL (am<|ey)<|ah<|cq b a8 (x:=.int r 0) B ?_;refine ah<|jo h i ?_;simp only[na,f];refine ah<|fa<|CM b3 b a8 λa3 e k m n=>?_;exact ah<|ik n nc<|as<|g _ k m
theorem NI{d:Int}{a2:ab->ai->Prop}(b3:wx l.heap y.handled)(a:IsRangeIter l.heap b7 c b d)(h:b<=0) (k:∀a3,jn b7 l.heap a3->(∃j,a3.get? b7=D j) ->a4 none {l with heap:=a3}):ap (aq T v) y (gq<|.ref b7) a4 a2 l:=by
 have f:l.TypeIs (.ref b7) "range_iterator" :=sn _ a B;refine ah (ii (jj f qV <|hx qV f F.entry_range_iterator_next ?_<|F.args_range_iterator_next_1 _));refine(?_:ap _ _ (field _ 0>>=_) _ _ l);refine ah<|cq a B (x:=ev c) B ?_;refine ah<|cq a B (x:=ev b) B ?_;refine ah<|cq a B (x:=ev d) B ?_;refine(?_:ap _ _ (if b<=0 then _ else _) _ _ l);refine uL (an h)<|ah<|fa ?_;refine ah<|FG b3 λa3 e i ⟨m,a',b2⟩=>ah<|ik (sn m a' b2) nc ?_;exact as<|k _ (λg n _ e=>i g n e) ⟨_,i _ _ a⟩
theorem NJ{a2:ab->ai->Prop}(b3:wx l.heap y.handled)(a:oy l.heap b7 g n r)(c:g[r]?=none) (d:∀a3,jn b7 l.heap a3->(∃j,a3.get? b7=D j) ->a4 none {l with heap:=a3}):ap (aq T v) y (gq<|.ref b7) a4 a2 l:=by
 refine tp (id a) λj b k a8=>ah (ii (jj (KBw.iter_typeIs a) KBw.slot_next <|hx KBw.slot_next (KBw.iter_typeIs a) KBw.entry_next ?_<|KBw.args_next _));refine(?_:ap _ _ (field _ 0>>=_) _ _ l);refine ah<|cq b a8 (x:=.bytes g n) B ?_;refine uL (am<|ey)<|ah<|cq b a8 (x:=.int r 0) B ?_;refine ah<|bq B ?_;simp only[na,c];refine ah<|fa<|CM b3 b a8 λa3 e f h i=>?_;exact ah<|ik i nc<|as<|d _ f h
end
inductive ug(O:sw)(a:ba)(b7:al)(w:List rN):Prop
 |n {b:al} {V:List ab} {U:List rN} (r:Nat) (S:a.IsListIter b7 b r) (f:a.IsList b V.toArray) (h:tn O V U) (j:O b=.g (.c U)) (e:U.drop r=w)
 |o {b:al} {V:List ab} {U:List rN} (r:Nat) (S:a.IsTupleIter b7 b r) (f:a.IsTuple b V.toArray) (h:tn O V U) (j:O b=.g (.j U)) (e:U.drop r=w)
 |p {g:Array UInt8} {n:ct} (r:Nat) (S:oy a b7 g n r) (e:((g.toList.map<|λz=>(z.toNat:Int)).map rN.i).drop r=w)
 |s {c d:Int} (i:Nat) (S:IsRangeIter a b7 c (i:Int) d) (e:(b_ i).map (λL:Nat=>rN.i<|c+d*(L:Int))=w)
section
theorem ug.cK(c:ug O a b7 w):∃j,a.get? b7=D j:=by
 cases c with
 |n r S=>exact S.imp λj f=>f.1
 |o r S=>exact S.imp λj f=>f.1
 |p r S=>exact S.imp λj f=>f.1
 |s i S=>exact⟨_,S⟩
theorem ug.aS(c:ug O a b7 w)(q:∀b,O b≠.b->b2 b=O b)(g:∀j,a.get? b7=D j->a3.get? b7=D j)(m:∀b k j,O b=.g k->a.get? b=D j->a3.get? b=D j):ug b2 a3 b7 w:=by
 cases c with
 |n r S h l d e=>exact .n r (S.imp λj f=>⟨g j f.1,f.2⟩) (h.imp λj f=>⟨m _ _ j d f.1,f.2⟩) (l.aQ q) ((q _<|sY.cG d).trans d) e
 |o r S h l d e=>exact .o r (S.imp λj f=>⟨g j f.1,f.2⟩) (h.imp λj f=>⟨m _ _ j d f.1,f.2⟩) (l.aQ q) ((q _<|sY.cG d).trans d) e
 |p r S e=>exact .p r (S.imp λj f=>⟨g j f.1,f.2⟩) e
 |s i S e=>exact .s i (g _ S) e
theorem ug.bI(c:ug O a b7 w)(e:sQ a9 O a b2 a3)(d:O b7=.b)(g:¬a9 b7):ug b2 a3 b7 w:=c.aS e.y (λj m=>e.cR d g m) λb k j q m=>e.fN m (E6 q)<|by exact J q<|λf=>sY.noConfusion f
theorem CN{a0:Type}{w A:List a0}{c:a0}(a:w.drop r=c::A):w[r]?=D c/\w.drop (r+1)=A:=⟨by refine ae (az<|List.head?_drop) ?_;refine ae (G _ a) ?_;rfl,by refine ae (az List.tail_drop) ?_;refine ae (G _ a) ?_;rfl⟩
theorem NK{a:Int}:c+a*((L+1:Nat):Int)=(c+a)+a*(L:Int):=by refine J (lm ..) ?_;refine ae (G _<|Int.mul_add ..) ?_;refine J Int.natCast_one<|J (Int.mul_one ..) ?_;rw[oz<|a*_];exact sa (Int.add_assoc ..) B
theorem NL{b:Int}(a:(b_ i).map (λL:Nat=>rN.i<|c+b*(L:Int))=s::A):∃R,i=R+1/\s=.i c/\(b_ R).map (λL:Nat=>rN.i<|(c+b)+b*(L:Int))=A:=by
 cases i with
 |zero=>exact Ei a
 |succ i=>
  rw[qW,ge,fj]at a;injection a with S d
  exact tv i B (S.symm.trans<|G rN.i<|by refine ae (G _<|G _ Int.natCast_zero) ?_;refine ae (G _<|Int.mul_zero ..) ?_;exact(Int.add_zero ..))<|(ln λL _=>G rN.i NK.symm).trans d
theorem CO{a2:ab->ai->Prop}(A:O b7=.b)(c:ug O l.heap b7 (s::w)) (v:∀k a3 b8,rZ O k s->cf b7 l.heap a3->ug O a3 b7 w->a4 (D k) {l with heap:=a3,toks:=b8}):ap (sj X) y (gq<|.ref b7) a4 a2 l:=by
 cases c with
 |@n b V U r S o p q e=>
  obtain⟨a',b2⟩:=CN e;obtain⟨k,x,z⟩:=p.eU a';exact wpAny_pyNext_list_item S o (List.getElem?_toArray.trans x) λa3 d a=>v k a3 l.toks z a<|.n _ d (o.imp λj f=>⟨(a.2 b λm=>sY.cG q<|m▸A).trans f.1,f.2⟩) p q b2
 |@o b V U r S o p q e=>
  obtain⟨a',b2⟩:=CN e;obtain⟨k,x,z⟩:=p.eU a';exact wpAny_pyNext_tuple_item S o (List.getElem?_toArray.trans x) λa3 d a=>v k a3 l.toks z a<|.o _ d (o.imp λj f=>⟨(a.2 b λm=>sY.cG q<|m▸A).trans f.1,f.2⟩) p q b2
 |@p g n r S e=>
  obtain⟨a',b2⟩:=CN e;replace a':=(ew)▸a';replace a':=(ew)▸a';refine sh (Option.map_eq_some_iff.mp a') λt E u=>?_;subst u;refine sh (Option.map_eq_some_iff.mp E) λh L u=>?_;subst u;exact KBw.next_item S (Array.getElem?_toList.symm.trans L) λa3 d a=>v _ a3 _ ⟨_,B⟩ a<|.p _ d b2
 |@s c P i S e=>
  refine tp (NL e) λR u M N=>?_;subst u;subst M;subst N;refine wpAny_pyNext_range_item S (Int.natCast_pos.mpr<|bu _) λa3 d a=>?_;rw[lm,Int.natCast_one,o_]at d;exact v _ a3 _ ⟨_,B⟩ a<|.s R d B
theorem CQ{a2:ab->ai->Prop}(b3:wx l.heap y.handled)(c:ug O l.heap b7 []) (a:∀a3,jn b7 l.heap a3->(∃j,a3.get? b7=D j) ->a4 none {l with heap:=a3}):ap (sj X) y (gq<|.ref b7) a4 a2 l:=by
 cases c with
 |@n b V U r S d f h e=>exact NG b3 S d (pa<|by refine fh▸f.aY▸?_;exact List.drop_eq_nil_iff.mp e) a
 |@o b V U r S d f h e=>exact NH b3 S d (pa<|by refine fh▸f.aY▸?_;exact List.drop_eq_nil_iff.mp e) a
 |@p g n r S e=>
  refine NJ b3 S (pa ?_) a;have:=List.drop_eq_nil_iff.mp e;rw[a_,a_,df]at this;exact this
 |@s c k i S e=>
  cases i with
  |zero=>exact NI b3 S (Int.le_refl _) a
  |succ i=>rw[qW]at e;exact Cb e
end
structure Bo(E p:sE)(k:ab)(w:List rN):Prop where
 a:∃b1,k=.ref b1/\E.rO.heap.get? b1=none/\p.rP b1=.b/\ug p.rP p.rO.heap b1 w
section
theorem sA.bT(a:sA X O l d):O l.heap.objs.size=.b:=(a.h.bH<|uW _).1
theorem CR(d:sA L.sk p.rP p.rO p.rS)(f:rZ p.rP z s):so L p (gn z) (Bo p) (se (tN s) p.rS):=by
 have i:∀{j:Obj} {w:List rN},ug p.rP (p.rO.heap.push j) p.rO.heap.objs.size w->tB L p (Bo p) _ _ {p.rO with heap:=p.rO.heap.push j}:=λa=>.mk (.dK d _) ⟨_,B,uW _,d.bT,a⟩;cases s with
 |m w=>
  refine ul f λg n c l v=>?_;subst c;subst l;exact .aJ λa2=>KBw.pyIter_bytes<|i<|.p 0 (tv _ (cl _ B) B B) B
 |c w=>
  refine sh f λb c e=>?_;subst c;exact tp (d.bJ e) λV k m r=>.aJ λa2=>wpAny_pyIter_list k.isList<|i<|.n 0 (tv _ (cl _ B) B B) (k.isList.push _) m e B
 |o b g h=>
  refine sh f λq c e=>?_;subst c;obtain⟨t,u,x,y,o⟩:=d.bJ e;refine .cF λa=>.aJ λa2=>wpAny_pyIter_range o (tk a).1<|i<|.s _ ?_<|List.map_map.symm;exact J (le<|av (tk a).2)<|cl _ B
 |_=>exact .aE
theorem NM(a:sA L.sk p.rP p.rO p.rS)(e:rZ p.rP z (.j w)):so L p (gn z) (Bo p) (sv w p.rS):=by
 refine sh e λb f c=>?_;subst f;exact tp (a.bJ c) λV d g h=>.aJ λa2=>wpAny_pyIter_tuple d<|.mk (.dK a _) ⟨_,B,uW _,a.bT,.o 0 (tv _ (cl _ B) B B) (d.push _) g c B⟩
end
namespace BA
theorem FH:Slot "bytearray" "__len__" "bytearray.__len__" :=.of (owner:="bytearray") (n:="__len__") (by refine ae (em ..) ?_;refine sa en ?_;kernel_rfl) (by decide+kernel) (by decide+kernel) (by decide+kernel) (by first|exact .inl (by decide+kernel)|exact .inr<|by decide+kernel)<|by refine ae (lp ..) ?_;kernel_rfl
theorem NN:gd fd "bytearray.__len__"=D Builtin.«bytearray.__len__»:=li<|by kernel_rfl
end BA
theorem NO{a2:ab->ai->Prop}(a:l.heap.get? b=D {cls:=.type "bytearray",data:=.bytearray U h})(d:U.size<=2000000) (e:∀n b8,a4 (.int (U.size:Nat) n) {l with toks:=b8}):ap (sj X) y (aw (.builtin "len") [.ref b]) a4 a2 l:=by
 have c:l.TypeIs (.ref b) "bytearray" :=sn _ a B;refine call_function_entry kind_len plain_len entry_len (args_len1 _)<|ah<|as ?_;refine ah (jj c BA.FH <|hx BA.FH c BA.NN ?_<|by kernel_rfl);refine ah<|as ?_;refine ah<|ah<|ah<|fw a ?_;refine as<|as ?_;refine ah<|mv<|as<|sn _ B<|?_;refine ah<|dz<|as ?_;refine ah<|wpAny_letGo ?_;exact uL (am<|by exact Int.not_lt.mpr<|dx _)<|uL (am<|by exact Int.not_le.mpr<|ht (Int.ofNat_le.mpr d)<|by decide)<|ah<|mv<|as<|sn _ B<|e _ _
namespace BA
theorem NP:fk (.type "bytes") "__bytes__"=ay (D<|.builtin "bytes.__bytes__"):=by refine ae (em ..) ?_;refine sa en ?_;kernel_rfl
theorem NQ:fk (.type "int") "__bytes__"=ay none:=by refine ae (em ..) ?_;refine sa en ?_;kernel_rfl
theorem NR:fk (.type "bytearray") "__bytes__"=ay none:=by refine ae (em ..) ?_;refine sa en ?_;kernel_rfl
theorem NS:fk (.type "bytearray") "__index__"=ay none:=by refine ae (em ..) ?_;refine sa en ?_;kernel_rfl
theorem CS:fk (.type "bytearray") "__buffer__"=ay (D<|.builtin "bytearray.__buffer__"):=by refine ae (em ..) ?_;refine sa en ?_;kernel_rfl
theorem NT:fk (.type "bytearray") "__release_buffer__"=ay (D<|.builtin "bytearray.__release_buffer__"):=by refine ae (em ..) ?_;refine sa en ?_;kernel_rfl
theorem Ay:jp (.type "bytearray") (.type "bytearray")=ay true:=by refine ae (lp ..) ?_;kernel_rfl
theorem yW:fk (.type "bytes") "__buffer__"=ay (D<|.builtin "bytes.__buffer__"):=by refine ae (em ..) ?_;refine sa en ?_;kernel_rfl
theorem NU:fk (.type "bytes") "__release_buffer__"=ay none:=by refine ae (em ..) ?_;refine sa en ?_;kernel_rfl
end BA
section
variable{a2:ab->ai->Prop}
theorem CT (a:∀y:bj,ap (aq T v) y (Builtin.«bytes.__new__» ⟨[.type "bytes",c],[]⟩) (λg Y=>∃k,g=.done (.ret k)/\Y.TypeIs k "bytes" /\a4 k Y) (λ_ _=>False) l):ap (aq T v) y (aw (.type "bytes") [c]) a4 a2 l:=by
 refine callType_codes (Q₁:=λb d=>d.TypeIs b "bytes" /\a4 b d) F.bm_called (F.bm_typeCall _) F.entry_object_init ?_ λb d e=>?_
 ·refine codeAny_of_tree<|ah<|bq (F.bm_newCall _)<|as ⟨nd F.bm_plain _,codeAny_builtin F.bm_entry ?_⟩;refine wpAny_mono (a _) (λg Y f=>?_) λ_ _ f=>f.elim;refine tp f λk h i j=>?_;subst h;exact⟨i,j⟩
 ·exact tG e.1 (F.args_object_init_2 b _)<|object_init_meets F.bm_called.init.lookup F.bm_called.made B T v y.in1 _ d<|tG e.1 B e.2
theorem NV(a:a4 (.bytes g n) l):ap (aq T v) y (aw (.type "bytes") [.bytes g n]) a4 a2 l:=by
 refine CT λy=>ah<|bq B ?_;refine ca B<|ah<|bq jq ?_;refine ca B<|ah<|bq (F.bm_bind _) ?_;refine ah<|bq B ?_;refine ah<|bq B ?_;refine ca B<|ah<|dp (dg l g n) BA.NP ?_;refine ah<|fa ?_;refine ah<|jk (dg l g n) ?_;exact ne B<|as<|tv _ B (dg _ _ _) a
theorem NW(a:0<=i)(S:i<=1000000)(b:∀n b8,a4 (.bytes (Array.replicate i.toNat 0) n) {l with toks:=b8}):ap (aq T v) y (aw (.type "bytes") [.int i n]) a4 a2 l:=by
 refine CT λy=>ah<|bq B ?_;refine ca B<|ah<|bq jq ?_;refine ca B<|ah<|bq (F.bm_bind _) ?_;refine ah<|bq B ?_;refine ah<|bq B ?_;refine ca B<|ah<|dp (mw l i n) BA.NQ ?_;refine ah<|bq (a:=false) B ?_;refine ca B<|ah<|dp (mw l i n) F.slot_int_index.lookup ?_;refine ca B<|ah<|ii<|bq (a:=i) B ?_;refine ca (by simp only[Builtin.Bytes.fitsIndex,Bool.not_eq_false',Bool.and_eq_true,decide_eq_true_eq];exact lc (hu (by decide) a)<|ht S<|by decide)<|gc ?_;rw[am<|by exact Int.not_lt.mpr a];refine gc ?_;rw[am<|by exact Int.not_lt.mpr<|hu S<|by decide];refine ca (by simp only[Builtin.Bytes.tooLong,decide_eq_false_iff_not,ch];exact Nat.not_lt.mpr<|aa ((Int.toNat_le (n:=1000000)).mpr S)<|by decide)<|ah<|fa ?_;refine ah<|ow ?_<|by refine J Array.size_replicate<|J ch ?_;exact aa ((Int.toNat_le (n:=1000000)).mpr S)<|by decide
 exact as<|tv _ B (dg _ _ _)<|b _ _
theorem Bp{b0:String}{a' o:String}(a:l.TypeIs k b0)(b:fk (.type b0) (a':aj)=ay (D<|.builtin o))(c:(!o.endsWith ("."++a'))=false)(a8:o.dropRight (a'.length+1)=b0)(d:jp (.type b0) (.type b0)=ay true)(e:a4 true l):ap (aq T v) y (Builtin.Bytes.slotIsOwn k a') a4 a2 l:=by
 refine ah<|dp a b ?_;exact ca c<|J a8<|ik a d e
theorem FI(a:l.heap.get? b=D j)(c:j.cls=.type "bytearray")(d:a4 false l):ap (aq T v) y (qX<|.ref b) a4 a2 l:=ah<|Bp (sn j a c) BA.NT (by decide+kernel) (by decide+kernel) BA.Ay<|as d
theorem NX(a:a4 false l):ap (aq T v) y (qX<|.bytes g n) a4 a2 l:=ah<|ah<|dp (dg l g n) BA.NU<|as<|as a
theorem NY{o:String}(a:l.heap.get? b=D {cls:=.type "bytearray",data:=.bytearray U h})(d:a4 (D U) l):ap (aq T v) y (qY o (.ref b) e) a4 a2 l:=by
 have c:l.TypeIs (.ref b) "bytearray" :=sn _ a B;refine ah<|dp c BA.CS ?_;refine ah<|Bp c BA.CS (by decide+kernel) (by decide+kernel) BA.Ay ?_;refine ca B<|ah<|dp c BA.CS ?_;refine ah<|FI a B ?_;refine ca B<|ah<|ah<|ah<|fw a ?_;exact as<|as<|as d
theorem NZ{o:String}(b:a4 (D g) l):ap (aq T v) y (qY o (.bytes g n) c) a4 a2 l:=by
 have a:=dg l g n;refine ah<|dp a BA.yW ?_;refine ah<|Bp a BA.yW (by decide+kernel) (by decide+kernel) jq ?_;refine ca B<|ah<|dp a BA.yW ?_;refine ah<|NX ?_;exact ca B<|ah<|as<|as b
theorem N0(a:l.heap.get? b=D {cls:=.type "bytearray",data:=.bytearray U h})(d:U.size<=2000000)(e:∀n b8,a4 (.bytes U n) {l with toks:=b8}):ap (aq T v) y (aw (.type "bytes") [.ref b]) a4 a2 l:=by
 have c:l.TypeIs (.ref b) "bytearray" :=sn _ a B;refine CT λy=>ah<|bq B ?_;refine ca B<|ah<|bq jq ?_;refine ca B<|ah<|bq (F.bm_bind _) ?_;refine ah<|bq B ?_;refine ah<|bq B ?_;refine ca B<|ah<|dp c BA.NR ?_;refine ah<|ah ?_;refine ah<|fw a ?_;refine as<|as ?_;refine ca B<|ah<|dp c BA.NS ?_;refine ne B ?_
 first
  |refine(?_)
  |(refine wpAny_bind ?_;show wpAny _ _ (Builtin.Bytes.buffer? "bytes.__new__" _ true>>=_) _ _ _)
 refine ah<|NY a ?_;refine ah<|fa ?_;refine ah<|ow ?_<|by refine J ch ?_;exact aa d<|by decide
 first
  |exact as ⟨_,B,dg _ _ _,e _ _⟩
  |exact wpAny_bind<|wpAny_pure<|wpAny_pure ⟨_,rfl,typeIs_bytes _ _ _,e _ _⟩
end
theorem FJ(a:tn O V U):∀{w:List Int},vq U=D w->IntsAre V w:=by
 induction a with
 |n=>exactλe=>sa (ak e) .nil
 |c b _ c=>
  intro w e;refine zr (Fi b e) λL n A d S f=>?_;subst d;subst f;exact .cons _ n<|c S
theorem N1(w:List Int):w.sum=zw w:=by
 induction w with
 |nil=>rfl
 |cons b w a=>(refine ae List.sum_cons ?_;refine ae (G _ a) ?_);rfl
theorem FK(a:0<=b/\b<256):((b.toNat.toUInt8.toNat:Nat):Int)=b:=by
 exact ae (G _ oq)<|ae (G _<|fi<|(Int.toNat_lt a.1).mpr a.2)<|le a.1
theorem FL(a:Bb w=true):∀t∈w,0<=t/\t<256:=λt b=>have f:=tk (List.all_eq_true.mp a t b);⟨av f.1,av f.2⟩
theorem FM(a:ItemsOf a1 V i)(d:∀r k,a1 r k->rZ O k (u r)):tn O V.toList ((b_ i).map u):=by
 have f:∀(w:List ab) L,(∀r k,w[r]?=D k->rZ O k (u<|L+r)) ->tn O w ((eb L w.length).map u):=by
  intro w;induction w with
  |nil=>intro L _;exact .n
  |cons c w g=>
   intro L b;refine J il<|J List.range'_succ<|J ge<|.c (by simpa using b 0 c B)<|g _ λr k e=>?_;have:=b (r+1) k<|by simpa using e
   rwa [show L+1+r=L+(r+1)by exact dw L 1 r]
 have:=f V.toList 0 λr k e=>by
  exact J (bt ..)<|d r k<|a.2 r k<|by simpa using e
 exact(J lq<|sa a.1<|sa df this)
section
theorem N2{a2:ab->ai->Prop}(P:y.handled=none)(R:g.size<=2000000) (S:∀a3 b8 m v,(∀g j,l.heap.get? g=D j->a3.get? g=D j) ->a3.get? l.heap.objs.size=D {cls:=.type "list",dict:=none,data:=.seq m v,slots:=#[]} -> ItemsOf (λr k=>∃h z,g[r]?=D h/\k=.int (h.toNat:Int) z) m g.size->a4 (.ref l.heap.objs.size) {l with heap:=a3,toks:=b8}):ap (sj X) y (aw (.type "list") [.bytes g n]) a4 a2 l:=by
 refine callType_codes (Q₁:=λM a=>M=.ref l.heap.objs.size/\a={l with heap:=l.heap.push {cls:=.type "list",data:=.seq #[]}}) F.called_list (F.typeCall_list_1 _) F.entry_list_init (code_list_new _ ⟨B,B⟩) λM a T=>?_;obtain⟨rfl,rfl⟩:=T;have d:(l.heap.push {cls:=.type "list",data:=.seq #[]}).get? l.heap.objs.size=D {cls:=.type "list",data:=.seq #[]}:=cl _ B;refine⟨(sn _ d B),F.args_list_init_2 _ _,?_⟩;generalize o:({l with heap:=l.heap.push {cls:=.type "list",data:=.seq #[]}}:ai)=f;have d:f.heap.get? l.heap.objs.size=D {cls:=.type "list",data:=.seq #[]}:=sa o d;have i:∀c j,l.heap.get? c=D j->f.heap.get? c=D j/\c≠l.heap.objs.size:=λc j e=>⟨by refine o▸?_;exact cg _ e,et<|eg e⟩
 have a':∀a3 b8,({f with heap:=a3,toks:=b8}:ai)={l with heap:=a3,toks:=b8}:=λa3 b8=>o▸B;refine(?_:ap _ _ (do let i<-Builtin.List.listItems _;Builtin.List.listUpdate _<|λ_=>#[];letGo i.toList.reverse;Builtin.List.listExtendWith _ _ .none) _ _ f);refine ah<|ah<|jo d B<|as ?_;refine ah<|pb d B ?_;refine ah<|wpAny_letGo ?_;generalize w:({f with heap:=f.heap.update l.heap.objs.size<|Obj.mapSeq λ_=>(#[]:Array ab)}:ai)=a;have p:∃t,a.heap.get? l.heap.objs.size=D {cls:=.type "list",data:=.seq #[] t}:=⟨_,by rw[<-w];exact(fy (Obj.mapSeq<|λ_=>(#[]:Array ab)) d B)⟩
 obtain⟨t,p⟩:=p;have N:∀c j,l.heap.get? c=D j->a.heap.get? c=D j:=λc j e=>w▸((gv _ _<|dq (i c j e).2).trans (i c j e).1);have U:∀a3 b8,({a with heap:=a3,toks:=b8}:ai)={l with heap:=a3,toks:=b8}:=λa3 b8=>w▸(o▸B);have V:l.heap.objs.size≠a.heap.objs.size:=et<|eg p;have x:=dg a g n;refine ah<|jk x ?_;have W:(nf "bytes" ==nf "list")=false:=B;have a0:(nf "bytes" ==nf "tuple")=false:=B;simp only[(B:Builtin.List.listSameRef (.ref l.heap.objs.size) (.bytes g n)=false),W,a0,ng,mn,if_false];refine ah<|KBw.pyIter_bytes ?_;refine ah<|dz ?_;have a1:∀(b:ai) (A:Nat),(∃b8,b={l with heap:=b.heap,toks:=b8}) ->oy b.heap a.heap.objs.size g n 0->b.heap.get? l.heap.objs.size=D {cls:=.type "list",data:=.seq #[] A} ->(∀c j,l.heap.get? c=D j->b.heap.get? c=D j) -> h_ _ y.in1 (.builtin "list.extend.loop" ⟨[.ref l.heap.objs.size,.ref a.heap.objs.size,.none],[]⟩) (wants (λq b=>q=.none/\a4 (.ref l.heap.objs.size) b) a2) b:=λb A ⟨b8,E⟩ a5 a6 a7=>by
  refine codeAny_extend_loopS (KBw.walks (prog:=sH) (w:=X.v_) (A:=y.in1.in1) P a.heap.objs.size g n).toS (by refine J ch ?_;exact aa R<|by decide) _ (λs=>V<|List.mem_singleton.mp s) _ g.size 0 _ #[] A B (cc _) a5 a6 (ItemsOf.nil _) λY m v s a8 a9=>J (Moved.eq_with s)<|⟨B,?_⟩;refine J E<|S Y.heap Y.toks m v (λc u e=>s.heap c u (λL=>?_)<|a7 c u e) a8 a9;rcases List.mem_cons.mp L with c0|L
  ·exact(i c u e).2 c0
  ·have:=N c u e;have O:=eg this;rw[List.mem_singleton.mp L]at O;exact kv _ O
 refine ah (dp x FB.slot_bytes_len.lookup ?_)
 wp_delta
 refine ah<|ik x (T:="bytes") (b:=true) jq ?_;refine ah<|jk (dg _ g n) ?_;refine as<|uL (am<|by decide)<|as ⟨nd F.plain_extend_loop _,a1 _ t ⟨a.toks,U _ _⟩ (tv _ (cl _ B) B B) (cg _ p) λc j e=>cg _<|N c j e⟩
end
section
variable{p:sE} {b:al}
theorem CU(c:sA L.sk p.rP p.rO p.rS)(a:tf L.sk p.rP p.rO.heap b j):sy L p (aw (.builtin "len") [.ref b]) rZ (se ((yI j).map H) p.rS):=by
 cases j with
 |sr U=>
  refine tp a λV d e f=>.aJ λa2=>len_list d.isList ?_<|.bE c ⟨_,G (λi:Nat=>Value.int i _) e.aY⟩;exact J fh (ht (Int.ofNat_le.mpr f)<|by decide)
 |tH g=>
  refine tp a λU S h k=>?_;subst h;exact .aJ λa2=>NO S k λn b8=>.bE c ⟨_,by rw[a_,df]⟩
 |_=>exact .aE
theorem N3(a:sA L.sk p.rP p.rO p.rS)(c:rZ p.rP z s):sy L p (aw (.builtin "len") [z]) rZ (se ((E0 p.rS s).map H) p.rS):=by
 cases s with
 |c U=>exact c.elim λb f=>f.1▸CU (j:=.sr U) a (a.bJ f.2)
 |b i=>
  refine sh c λb d h=>?_;subst d;refine sh (a.h.F b i h) λj S k=>(?_:sy L p _ rZ (se (((p.rS[i]?).bind yI).map H) p.rS))
  exact J S<|CU a k
 |m w=>
  refine ul c λg n d l e=>?_;subst d;subst l;rw[a_,df]at e;exact .aJ λa2=>len_bytes (aa e<|af ..) (.bE a ⟨_,by rw[a_,df]⟩)
 |_=>exact .aE
theorem N4(a:sA L.sk p.rP p.rO p.rS)(k:L.uO.handled=none)(c:rZ p.rP z s):sy L p (aw (.type "bytes") [z]) rZ (se (E1 s) p.rS):=by
 cases s with
 |i i=>
  obtain⟨n,rfl⟩:=c;refine .cF λh=>.aJ λa2=>NW (av (tk h).1) (av (tk h).2) λn b8=>.bE a<|uQ _ _ B (?_)<|?_
  ·refine ae (G _ Array.toList_replicate) ?_;refine ae List.map_replicate ?_;rfl
  ·exact J pc<|aa (Int.toNat_le_toNat<|av (tk h).2)<|af ..
 |m w=>
  refine ul c λg n d e l=>?_;subst d;exact .aJ λa2=>NV<|.bP a<|uQ g n B e l
 |c U=>
  refine sh c λb d m=>?_;subst d;refine tp (a.bJ m) λV o q f=>(?_:sy L p _ rZ (se ((vq U).bind _) p.rS))
  cases a':vq U with
  |none=>exact .aE
  |some w=>
   have j:=FJ q a';exact .cF λh=>.aJ λa2=>call_bytes_ints o.isList j (FL h) (aa f<|by refine sa ch ?_;decide) k λa3 n b8 r=>.mk (.cU a r) ⟨_,_,B,(by refine ae (G _ List.toList_toArray) ?_;exact ae fj<|(ln λb t=>FK<|(FL h) b t).trans<|pd w),j.length▸f⟩
 |_=>exact .aE
theorem N5(a:sA L.sk p.rP p.rO p.rS)(e:L.uO.handled=none)(f:rZ p.rP z s):sy L p (aw (.builtin "sum") [z]) rZ (se (s.aH (w:=λU=>(vq U).map λw=>.i<|zw w)) p.rS):=by
 cases s with
 |c U=>
  refine sh f λb g h=>?_;subst g;refine tp (a.bJ h) λV i j m=>(?_:sy L p _ rZ (se ((vq U).map _) p.rS))
  cases a':vq U with
  |none=>exact .aE
  |some w=>
   have c:=FJ j a';refine bk c.allInts.items λn d=>.aJ λa2=>sum_intListG e (sa d i.isList) λa3 b8 k l=>.mk (.cU a l) ⟨_,G (λr=>Value.int r k) ?_⟩;rw[preSum_eq,qZ<|by rw[a_];refine J df ?_;exact bg _,<-nums_intItems,<-d,c.numsOf,N1]
 |_=>exact .aE
theorem N6(a:sA L.sk p.rP p.rO p.rS)(f:rZ p.rP z s):sy L p (aw (.type "tuple") [z]) rZ (se (s.aH (w:=λU=>D<|.j U)) p.rS):=by
 cases s with
 |c U=>
  refine sh f λb h i=>?_;subst h;refine tp (a.bJ i) λV k l c=>.aJ λa2=>call_tuple_list k.isList (λa3 d=>.bV a (λg j e=>cg _<|d g j e) ?_ (cl _ B)<|tv V ⟨_,cl _ B,B,0,B⟩ l c)<|aa c<|by refine sa ch ?_;decide
  cases m:p.rO.heap.get? a3.objs.size with
  |none=>rfl
  |some j=>exact sq<|(uW a3).symm.trans<|d _ _ m
 |_=>exact .aE
theorem N7{b:Int}(d:sA L.sk p.rP p.rO p.rS)(j:L.uO.handled=none)(l:rZ p.rP z (.o b g h))(a:(yG b g h&&tQ (wI b g h).length)=true):sy L p (aw (.type "list") [z]) rZ (sv (.c<|(wI b g h).map rN.i) p.rS):=by
 refine sh l λq m o=>?_;subst m;obtain⟨v,w,x,y,s⟩:=d.bJ o;have S:=tk (tk a).1;have c:=vJ (tk a).2;unfold wI at c
 rw[a_,fl]at c;refine .aJ λa2=>call_list_range j s S.1 (le<|av S.2).symm (aa c<|af ..) λa3 b8 t A u f i=>.bV d u (uW _) f<|tv t.toList ⟨_,f⟩ (?_)<|?_
 ·exact J fj<|FM i λr k ⟨n,e⟩=>⟨n,e.trans<|(Int.mul_comm ..)▸B⟩
 ·exact J df<|J i.1<|aa c<|af ..
theorem N8{g:Array UInt8}:(b_ g.size).map (λr=>rN.i<|(g[r]?.map<|λh:UInt8=>(h.toNat:Int)).getD 0)=(g.toList.map<|λz=>(z.toNat:Int)).map rN.i:=by
 apply List.ext_getElem
 ·refine ae (a_ ..) ?_;rw[a_,a_];exact ae fl df
 ·intro r S a;rw[a_,fl]at S;refine ae (pe ..) ?_;refine(pe ..)▸(pe ..)▸(List.getElem_range ..)▸(Array.getElem?_eq_getElem S)▸?_
  rfl
theorem N9(e:sA L.sk p.rP p.rO p.rS)(f:L.uO.handled=none)(i:rZ p.rP z (.m w)):sy L p (aw (.type "list") [z]) rZ (sv (.c<|w.map rN.i) p.rS):=by
 refine ul i λg n j l a=>?_;subst j;subst l;rw[a_,df]at a;refine .aJ λa2=>N2 f a λa3 b8 m q o c d=>.bV e o (uW _) c<|tv m.toList ⟨_,c⟩ (?_)<|by refine J df<|J d.1 ?_;exact a
 exact sa N8<|FM d λr k ⟨h,z,a',b2⟩=>a'▸b2▸⟨_,B⟩
theorem N'(c:sA L.sk p.rP p.rO p.rS)(e:L.uO.handled=none)(d:rZ p.rP z s):sy L p (aw (.type "list") [z]) rZ (se (E2 s) p.rS):=by
 cases s with
 |o b g h=>exact .cF λa=>N7 c e d a
 |m w=>exact N9 c e d
 |c U=>
  refine sh d λb j k=>?_;subst j;refine tp (c.bJ k) λV l m f=>?_;refine bk l λt n=>?_;exact .aJ λa2=>call_list_seq b (.inl B) n B B (λa3 q o i=>.bV c o (uW _) i<|tv V ⟨_,i⟩ m f) (aa f<|by refine sa ch ?_;decide)
 |_=>exact .aE
theorem so.dP{b0:List ab->au ab}{d:rR}(a:tn p.rP b3 a6)(c:∀z s,rZ p.rP z s->sy L p (b0 [z]) rZ (Mine.se (i s) d)):sy L p (b0 b3) rZ (Mine.se (Mine.xL a6 i) d):=by
 cases a with
 |n=>exact .aE
 |c b q=>cases q with
  |n=>exact c _ _ b
  |c _ _=>exact .aE
theorem so.gF{b0:List ab->au ab}{d:rR}(a:tn p.rP b3 a6)(e:∀b g n c,sy L p (b0 [.int b n,.int g c]) rZ<|Mine.se (i b g) d):sy L p (b0 b3) rZ (Mine.se (Mine.Bd a6 i) d):=by
 cases a with
 |n=>exact .aE
 |c b q=>cases q with
  |n=>exact .aE
  |c g q=>cases q with
   |n=>exact .bK (b0:=λz=>b0 [z,_]) b λr n=>.bK (b0:=λz=>b0 [.int r n,z]) g λf c=>e r f n c
   |c _ _=>exact .aE
noncomputable def Az:ue->ab
 |.a=>.builtin "len" |.b=>.type "bytes" |.e=>.type "list" |.k=>.type "tuple" |.f=>.builtin "min" |.h=>.builtin "max"
 |.c=>.type "range" |.i=>.builtin "sum" |.g=>.builtin "abs" |.j=>.builtin "chr" |.l=>.builtin "divmod" |.d=>.builtin "str.join"
theorem N_(c:sA L.sk p.rP p.rO p.rS)(d:PylongRoom (sj L.sk) L.uO p.rO)(a:tn p.rP b3 a6):sy L p (aw (.type "range") b3) rZ (se (E3 a6) p.rS):=by
 cases a with
 |n=>exact .aE
 |c b q=>cases q with
  |n=>exact .bK (b0:=λz=>aw _ [z]) b λr n=>.aJ λa2=>call_range_1 (.bH c B ⟨by decide,_,_,_,cl _ B⟩)
  |c g q=>cases q with
   |n=>exact .aE
   |c h q=>cases q with
    |n=>exact .bK (b0:=λz=>aw _ [z,_,_]) b λr n=>.bK (b0:=λz=>aw _ [.int r n,z,_]) g λe f=>.bK (b0:=λz=>aw _ [.int r n,.int e f,z]) h λi j=>.cF λa=>.aJ λa2=>call_range_3 (Aw a) (.bH c B ⟨Aw a,_,_,_,cl _ B⟩)<|.inr d
    |c _ _=>exact .aE
theorem Oa{b:Int}:rZ p.rP (if g>b then .int g z else .int b n) (.i<|if b<g then g else b):=by
 show rZ p.rP (if b<g then .int g z else .int b n) _
 split<;>exact⟨_,B⟩
theorem Ob(c:sA L.sk p.rP p.rO p.rS)(f:PylongRoom (sj L.sk) L.uO p.rO)(d:tn p.rP b3 a6)(j:g≠.d)(a7:g.dD=true->L.uO.handled=none):sy L p (aw (Az g) b3) rZ (se (uo p.rS g a6) p.rS):=by
 cases g with
 |a=>exact .dP (b0:=λb3=>aw _ b3) d λz s a=>N3 c a
 |b=>exact .dP (b0:=λb3=>aw _ b3) d λz s a=>N4 c (a7 B) a
 |e=>exact .dP (b0:=λb3=>aw _ b3) d λz s a=>N' c (a7 B) a
 |k=>exact .dP (b0:=λb3=>aw (.type "tuple") b3) d λz s a=>N6 c a
 |f=>exact .gF (b0:=λb3=>aw _ b3) d λb g n i=>.aJ λa2=>min_two_ints (a7 B) λa3 b8 e=>.mk (.cU c e) (by split<;>exact⟨_,B⟩)
 |h=>exact .gF (b0:=λb3=>aw _ b3) d λb g n i=>.aJ λa2=>max_two_ints (a7 B) λa3 b8 e=>.mk (.cU c e) Oa
 |c=>exact N_ c f d
 |i=>exact .dP (b0:=λb3=>aw _ b3) d λz s a=>N5 c (a7 B) a
 |g=>exact .dP (b0:=λb3=>aw (.builtin "abs") b3) d λz s a=>.bK (b0:=λz=>aw _ [z]) a λr n=>.aJ λa2=>call_abs_int λz b8=>.bE c ⟨_,G (λr=>Value.int r z) (by
    split
    ·exact(Int.ofNat_natAbs_of_nonpos<|Int.le_of_lt ‹_›).symm
    ·exact(Int.natAbs_of_nonneg<|Int.not_lt.mp ‹_›).symm)⟩
 |j=>exact .dP (b0:=λb3=>aw (.builtin "chr") b3) d λz s a=>.bK (b0:=λz=>aw _ [z]) a λr n=>.cF λh=>.aJ λa2=>chr_of_range (av (tk h).1) (Int.le_of_lt<|Int.lt_trans (av (tk h).2)<|by decide) (.bE c<|uQ _ _ B B<|by show 1<=2000000;decide)
 |l=>exact .gF (b0:=λb3=>aw _ b3) d λb g n i=>.cF λa=>.aJ λa2=>divmod_int (Aw a) (.bH c B<|tv _ ⟨_,cl _ B,B,0,B⟩ (.c ⟨_,B⟩<|.c ⟨_,B⟩ .n)<|by show 2<=2000000;decide)<|.inr f
 |d=>exact absurd B j
end
namespace I
theorem CV{a2:ab->ai->Prop}(a7:wU j)(f:(dd b6<|dj U o).any (·.1)=false)(g:U.length<30)(h:(b.endLine==b6.line)=true) (a:rY d y (bz j o) (λz c=>∀i,rY d y (ez z a' i) (λu e=>rY d y (hq b6 u.1 u.2 (dd b6<|dj U o) []) a4 a2 e) a2 c) a2 l):rY d y (bz (.Call (.Attribute j a' b) U [] b6) o) a4 a2 l:=by
 show rY d y (do
  let k<-attributeBase j a' o (bz j o)
  hd b.atName
  methodCall j a' b b6 o k (U.length+([]).length) (dd b6<|dj U o) (backToKw b6<|keywordEach [] o)) _ _ l
 refine J (CI a7)<|a.wr λz c m=>.tz ?_;have n:methodCallForm (U.length+([]:List Keyword).length) (dd b6<|dj U o) (backToKw b6<|keywordEach [] o)=true:=Bool.and_eq_true_iff.mpr ⟨Bool.and_eq_true_iff.mpr ⟨List.not_any_eq_all_not.symm.trans<|G (!·) f,B⟩,bd<|g⟩;unfold methodCall;refine J n<|rY.sf<|rY.tD ?_;exact(m _).uE λu e p=>rY.sf<|uM (an<|show(!true||(b.endLine==b6.line))=true from h)<|rY.sF p
end I
section
variable{c:sL} {y:bj} {p:sE} {z:ab} {b6:bp} {U:List ag} {a9:Type} {a1:sE->a3->a9->Prop} {L:vv} {a':aj} {b:al}
theorem so.hO{b4:sE->ab->a0->Prop}{a1:sE->ab->a9->Prop}{A:rQ a0}{b0:a0->rR->rQ a9}(d:vb c M v)(g:wV c.sc v)(h:xR n=true)(x:ss c y T p)(j:so (c.sI y) p (bz n c.rW.sb) b4 A) (i:∀z s a,sJ (c.sI y) p a->b4 a z s->so (c.sI y) a (aw v [z]) a1 (b0 s a.rS)):so (c.sI y) p (bz (.Call (.Name M s) [n] [] b6) c.rW.sb) a1 (rQ.aC A b0):=j.dM (R:=λz a4 a2 l=>c.sc.sN.StaysIn l.heap/\rY (sj c.sc) y (aw v [z]) a4 a2 l) (λa4 a2 f=>I.A8<|toI<|d.cN x.l x.k.h.C<|J (wT h)<|I.xG B g<|I.Ae<|I.yF<|f.uE λz l f=>I.zs f) λz s a l k _ q e=>⟨l.n.h.C,(i z s a l k).bN l q e⟩
theorem so.gG(x:ss c y T p)(a:to c.rW.sb p.rO.heap M k)(a8:ua M):so (c.sI y) p (bz (.Name M b6) c.rW.sb) (λ_ z (_:Unit)=>z=k) (sv () p.rS):=.aJ λa2=>wb x.l a a8<|.bP x.k B
theorem CW(g:ue):wV X (Az g):=λa _=>sn .machine (.inr<|.inl B)<|hj<|by cases g<;>rfl
theorem ss.dD(x:ss c y T p)(a:(!(h&&c.tF))=true)(e:h=true):y.handled=none:=by
 subst e;cases d:c.tF with
 |true=>have a:=d▸a;exact tC a
 |false=>exact wv.aE<|sa d x.F
theorem Oc(d:g≠.d)(e:vb c M (Az g))(a:uF c U W):sd c (.Call (.Name M s) U [] b6) (.k g W):=λy T p x=>.gD e x<|CK (CW g) a x λb3 a6 i l f=>.gB λh=>Ob l.n (x.aF l).hH f d<|(x.aF l).dD h
theorem Od(d:vb c M (.builtin "isinstance"))(g:vb c a (.type "int"))(h:xR n=true)(i:sd c n e):sd c (.Call (.Name M s) [n,.Name a j] [] b6) (.fX e):=λy T p x=>(i y T p x).dM (R:=λz a4 a2 l=>rY (sj c.sc) y (bz (.Name a j) c.rW.sb) (λv l=>rY (sj c.sc) y (aw (.builtin "isinstance") [z,v]) a4 a2 l) a2 l) (λa4 a2 f=>I.A8 (toI (d.cN x.l x.k.h.C (by
   refine J (wT h) ?_;rw[wT B];exact I.xG (a1:=λ_=>True) B (λ_ _=>sn .machine (.inr<|.inl B)<|hj B)<|I.Ae<|I.yF<|f.uE λz l f=>I.yF<|f.uE λv l f=>I.zs ⟨trivial,f⟩))))
  λz s m l k _ q e=>toI<|g.cN x.l l.n.h.C<|so.bN l (.bK (b0:=λz=>aw (.builtin "isinstance") [z,.type "int"]) k λr b8=>.aJ λa2=>IsiPair.int_int<|tB.bP l.n B) q<|e
theorem Oe(e:vb c M (.builtin "len"))(f:c.rW.tq r=D d)(a8:ua d):sd c (.Call (.Name M s) [.Name d h] [] b6) (.y r):=λy T p x=>x.aW f λj b a=>.hO e (CW .a) B x (.gG x a.S a8) λz _ i l g=>J g<|CU l.n (a.aF x l).I
theorem Of(e:sA L.sk p.rP p.rO p.rS)(a:tf L.sk p.rP p.rO.heap b j):sy L p (aw (.type "bytes") [.ref b]) rZ (se (j.tb (M:=λg=>D<|rN.m g)) p.rS):=by
 cases j with
 |tH g=>
  refine tp a λU S f d=>?_;subst f;exact .aJ λa2=>N0 S d λn b8=>.bE e ⟨_,_,B,B,by rw[a_];refine J df ?_;exact d⟩
 |_=>exact .aE
theorem Og(e:vb c M (.type "bytes"))(f:c.rW.tq r=D d)(a8:ua d):sd c (.Call (.Name M s) [.Name d h] [] b6) (.C r):=λy T p x=>x.aW f λj b a=>.hO e (CW .b) B x (.gG x a.S a8) λz _ i l g=>J g<|Of l.n (a.aF x l).I
def we(c:sL)(y:bj)(b6:bp)(a':aj)(U:List ag)(p:sE)(z:ab)(a1:sE->ab->a9->Prop)(A:rQ a9):Prop:=∀q,A=D q->∃u,(∀a a2 a4,a4 u p.rO->ap (sj c.sc) y (ez z a' a) a4 a2 p.rO)/\rY (sj c.sc) y (hq b6 u.1 u.2 (dd b6<|dj U c.rW.sb) []) (tB (c.sI y) p a1 q) (tS (c.sI y) p q) p.rO
theorem we.mk{a1:sE->ab->a9->Prop}{A:rQ a9}(a:g=true->(∀d a2 a4,a4 u p.rO->ap (sj c.sc) y (ez z a' d) a4 a2 p.rO)/\so (c.sI y) p (hq b6 u.1 u.2 (dd b6<|dj U c.rW.sb) []) a1 A):we c y b6 a' U p z a1 (Mine.si g A):=by
 cases g with
 |false=>exactλq e=>sq e
 |true=>exactλq e=>sn u ((a B).1)<|(a B).2 q e
theorem so.dQ{b4:sE->ab->a0->Prop}{a1:sE->ab->a9->Prop}{A:rQ a0}{b0:a0->rR->rQ a9}(a7:wU n)(g:uF c U W)(h:U.length<30)(j:(k.endLine==b6.line)=true)(m:so (c.sI y) p (bz n c.rW.sb) b4 A) (i:∀z s a,sJ (c.sI y) p a->b4 a z s->we c y b6 a' U a z a1 (b0 s a.rS)):so (c.sI y) p (bz (.Call (.Attribute n a' k) U [] b6) c.rW.sb) a1 (rQ.aC A b0):=m.dM (R:=λz a4 a2 l=>∀d,rY (sj c.sc) y (ez z a' d) (λu o=>rY (sj c.sc) y (hq b6 u.1 u.2 (dd b6<|dj U c.rW.sb) []) a4 a2 o) a2 l) (λa4 a2 f=>I.CV a7 (Ax g) h j f) λz s a l r _ q e d=>(i z s a l r q e).elim λu f=>toI<|f.1 d _ _<|rY.tr f.2 (λ_ _=>.bB l) λ_ _=>.bB l
theorem Oh{b:al}{R:dm}(d:Au X R h)(b5:X.sN.StaysIn l.heap)(r:wQ X O l.heap b h a5)(e:sK.c h A=D u)(f:au Bool)(a2:ab->ai->Prop)(a4:ab×List ab->ai->Prop)(a:a4 (.ref<|X.vl u,[.ref b]) l):ap (sj X) y (ez (.ref b) (te A) f) a4 a2 l:=by
 obtain⟨v,w,g,W,x,b1,S,E,M,i,j⟩:=Fs r;refine ye (d.m A u e) λk n o=>?_;have q:tV A a5=none:=by
  cases m:tV A a5 with
  |none=>rfl
  |some s=>exact tC<|o.symm.trans (r.g _<|Fq m).1
 refine method_fn (d.d.keeps b5) b1 d.f d.j k (d.e A u<|.inl e).1 ?_ a;refine(?_:(lookIn (te A) g).map _=_);refine ae (G _<|Nc i n j (λu t=>(r.g u t).2) q) ?_
 rfl
theorem Oi(t:sd c n e)(a7:wU n)(g:uF c U W)(v:U.length<30)(w:(E.endLine==b6.line)=true):sd c (.Call (.Attribute n (te A) E) U [] b6) (.f A e W):=λy T p x=>.dQ a7 g v w (t y T p x) λz s a l i=>Fu (a1:=λj=>we c y b6 (te A) U a z (λp=>rZ p.rP)<|(j.bind λm=>sK.c m.1 A).bind λu=>rQ.aC (vN c W T a.rS) λV d=>td c.t_ c.tF false u (s::V) d) (x.aF l) i (λ_ e=>sq e) λb h a5 M _ r=>by
   refine(?_:we c y b6 (te A) U a z _ ((sK.c h A).bind _));cases k:sK.c h A with
   |none=>exactλ_ e=>sq e
   |some u=>
    refine bk (x.u.a _ r.j) λR f=>?_;exactλq e=>sn (.ref<|c.sc.vl u,[z]) (J M<|Oh f l.n.h.C r k) (CK (g:=[z]) (b0:=λV d=>td c.t_ c.tF false u (s::V) d) (Bm f.d (f.e A u<|.inl k).2) g (x.aF l) (λb3 a6 P o N=>x.I c.tF false u (s::a6) y c.rW.uZ P (z::b3) c.rW.wR ((x.aF l).aF o).hJ<|.c (i.aQ o.r.y) N) q e)
theorem we.hB{a1:sE->ab->a9->Prop}{o:String}{b0:List rN->rR->rQ a9}(d:uF c U W)(x:ss c y T p)(h:g=true->∀j a2 a4,a4 (.builtin o,[z]) p.rO->ap (sj c.sc) y (ez z a' j) a4 a2 p.rO)(k:wV c.sc (.builtin o)) (i:g=true->∀b3 a6 a,sJ (c.sI y) p a->tn a.rP b3 a6->so (c.sI y) a (aw (.builtin o)<|z::b3) a1 (b0 a6 a.rS)):we c y b6 a' U p z a1 (Mine.si g<|rQ.aC (vN c W T p.rS) b0):=.mk λa7=>⟨h a7,(zE d y T p x).dM (R:=λb3 a4 a2 l=>c.sc.sN.StaysIn l.heap/\rY (sj c.sc) y (aw (.builtin o)<|[z]++b3) a4 a2 l) (λa4 a2 f=>I.xG (Ax d) k<|CJ d f) λb3 a6 a l m _ q e=>⟨l.n.h.C,(i a7 b3 a6 a l m.1).bN l q e⟩⟩
theorem CX{x:List rN->rR->rQ b1}:rQ.aC (vN c (.c e .n) T d) x=rQ.aC (sZ c e T d) λk d=>x [k] d:=rQ.bX (A:=sZ c e T d) (u:=λk d=>rQ.aC (vN c .n T d) λV d=>sv (k::V) d)
theorem Oj{x:List rN->rR->rQ b1}:rQ.aC (vN c (.c e<|.c E .n) T d) x=rQ.aC (sZ c e T d) λk d=>rQ.aC (sZ c E T d) λv d=>x [k,v] d:=(rQ.bX (A:=sZ c e T d) (u:=λk d=>rQ.aC (vN c (.c E .n) T d) λV d=>sv (k::V) d)).trans<|G (rQ.aC _)<|funext λk=>funext λd=>rQ.bX.trans CX
theorem sD{b':Prop}(a:false=true):b':=tC a
theorem FN{a0:Type}{u:sC->Option a0}{i:Nat}{d:rR}(e:d[i]?=D g)(a:((d[i]?).bind u).isSome=true):(u g).isSome=true:=by have a:=e▸a;exact a
theorem Ok(h:sA L.sk p.rP p.rO p.rS)(d:rZ p.rP z s)(a:Ak p.rS s=true):∃b t g,z=.ref b/\p.rO.heap.get? b=D {cls:=.type "list",data:=.seq g t}:=@rN.casesOn (λs=>rZ p.rP z s->Ak p.rS s=true->∃b t g,z=.ref b/\p.rO.heap.get? b=D {cls:=.type "list",data:=.seq g t}) s (λ_=>sD) (λ_ _=>sD) (λ_ _=>sD) (λ_ _=>sD) (λ_ _=>sD) (λ_ _=>sD) (λ_ _=>sD) (λ_ _ _ _=>sD) (λ_ _ _=>sD) (λ_ _=>sD) (λi d a=>d.elim λb f=>(h.h.F b i f.2).elim λj v=>@sC.casesOn (λj=>((j.tb (w:=λ_=>D ())):Option Unit).isSome=true->tf L.sk p.rP p.rO.heap b j->_) j (λU _ k=>k.elim λV m=>m.1.elim λt e=>zq b t _ f.1 e) (λ_ _=>sD) (λ_=>sD) (λ_=>sD) (FN v.1 a) v.2) d a
theorem Ol(e:sA L.sk p.rP p.rO p.rS)(d:rZ p.rP z s)(a:zy p.rS s=true):∃b W,z=.ref b/\wa L.sk p.rP p.rO.heap b W:=@rN.casesOn (λs=>rZ p.rP z s->zy p.rS s=true->∃b W,z=.ref b/\wa L.sk p.rP p.rO.heap b W) s (λ_=>sD) (λ_ _=>sD) (λ_ _=>sD) (λ_ _=>sD) (λ_ _=>sD) (λ_ _=>sD) (λ_ _=>sD) (λ_ _ _ _=>sD) (λ_ _ _=>sD) (λW d _=>d.elim λb f=>uw b W f.1<|e.bJ f.2) (λi d a=>d.elim λb f=>(e.h.F b i f.2).elim λj v=>@sC.casesOn (λj=>((j.tb (N:=λ_=>D ())):Option Unit).isSome=true->tf L.sk p.rP p.rO.heap b j->_) j (λ_=>sD) (λ_ _=>sD) (λW _ g=>uw b W f.1 g) (λ_=>sD) (FN v.1 a) v.2) d a
theorem FO{o:String}(d:sA (c.sI y).sk p.rP p.rO p.rS)(h:rZ p.rP z s)(a:Ak p.rS s=true)(i:Slot "list" a' o)(j:gw (.builtin o)=ay (.type "method_descriptor"))(k:au Bool)(a2:ab->ai->Prop)(a4:ab×List ab->ai->Prop)(l:a4 (.builtin o,[z]) p.rO):ap (sj c.sc) y (ez z a' k) a4 a2 p.rO:=by
 refine zp (Ok d h a) λb t n m e=>?_;subst m;exact im (sn _ e B) pf i j (λg f=>by obtain rfl:=gx f;exact sn _ e B) l
theorem FP{o:String}(N:wa c.sc O l.heap b W)(a:Slot "dict" a' o)(d:gw (.builtin o)=ay (.type "method_descriptor"))(e:au Bool)(a2:ab->ai->Prop)(a4:ab×List ab->ai->Prop)(g:a4 (.builtin o,[.ref b]) l):ap (sj c.sc) y (ez (.ref b) a' e) a4 a2 l:=N.d.elim λh f=>im f.1.typeIs PySem.F.plainAttrs_dict a d f.1.mapOf.noDict g
theorem CY{o:String}(e:sA (c.sI y).sk p.rP p.rO p.rS)(f:rZ p.rP z s)(a:zy p.rS s=true)(g:Slot "dict" a' o)(h:gw (.builtin o)=ay (.type "method_descriptor"))(d:au Bool)(a2:ab->ai->Prop)(a4:ab×List ab->ai->Prop)(i:a4 (.builtin o,[z]) p.rO):ap (sj c.sc) y (ez z a' d) a4 a2 p.rO:=by
 refine tP (Ol e f a) λb W j N=>?_;subst j;exact FP N g h d a2 a4 i
theorem yr{o:String}:keeperOf (.builtin o)=ay .machine->wV X (.builtin o):=λe a _=>sn .machine (.inr<|.inl B)<|hj e
end
section
variable{i:Int}
theorem Om(L i:Int)(v:ab)(q:List (Int×ab)):without ((L,v)::q) i=if L=i then without q i else(L,v)::without q i:=by
 refine ae List.filter_cons ?_;by_cases m:L=i
 ·refine(an m)▸?_;refine ae (am<|by simp[m]) ?_;rfl
 ·refine(am m)▸?_;refine ae (an<|by simp[m]) ?_;rfl
theorem On(a:sU (yP O) d W):(d.map (·.1)).Nodup->sU (yP O) (without d i) (uH i W):=by
 induction a with
 |n=>exactλ_=>.n
 |@c b g w A c q e=>
  intro t;have t:=List.nodup_cons.mp t;refine(Prod.ext c.1 B:b=(g.1,b.2))▸(Om ..)▸((?_:sU _ _ (if i=g.1 then A else g::uH i A)));by_cases m:g.1=i
  ·exact(an m)▸(an m.symm)▸m▸(az<|without_of_not_mem w g.1<|sa c.1 t.1)▸q
  ·refine(am m)▸?_;rw[am λf=>m f.symm];exact .c ⟨B,c.2⟩<|e t.2
end
section
variable{k:ab} {N:rN} {a9:Type} {b4:sE->b1->a0->Prop} {b:al}
theorem tB.bM{b8:ct}(a:sA L.sk p.rP p.rO p.rS)(c:p.rP b=.d i)(d:cf b p.rO.heap a3)(e:∃j,a3.get? b=D j)(f:tf L.sk p.rP a3 b A)(g:rZ p.rP k s): xp L p rZ (.a s,p.rS.set i A) k {p.rO with heap:=a3,toks:=b8}:=.mk ⟨sQ.cZ a.h c (.inl B) d e,a.dE<|a.h.cZ c (.inl B) d e f⟩ g
theorem sU.iV{P:a0->b1->Prop}{w:List a0}{A:List b1}(a:sU P w A):sU P w.dropLast A.dropLast:=J q_<|J q_<|sa a.aY<|a.cW _
theorem Oo{a2:ab->ai->Prop}(e:l.heap.PlainList b d)(f:d.size<=2000000) (g:∀a3,a3.PlainList b (d.push c) ->cf b l.heap a3->a4 .none {l with heap:=a3}):ap (sj X) y (aw (.builtin "list.append") [.ref b,c]) a4 a2 l:=by
 refine bk e λt a=>hx pg (sn _ a B) entry_list_append ?_<|args_list_append _ _;refine(?_:ap _ _ (updateSeq b (·.push c)>>=λ_=>ret .none) _ _ l);exact ah<|pb a B (as<|sn .none B<|g _ ⟨_,fy _ a B⟩<|gu ..)<|aa f<|by refine sa ch ?_;decide
theorem CZ{a2:ab->ai->Prop}(a:tf X O l.heap b (.sr U))(e:rZ O v m)(f:U.length<=1000000) (g:∀a3,cf b l.heap a3->(∃j,a3.get? b=D j) ->tf X O a3 b (.sr<|U++[m]) ->a4 .none {l with heap:=a3}):ap (sj X) y (aw (.builtin "list.append") [.ref b,v]) a4 a2 l:=by
 refine tp a λV h c i=>Oo h (by refine J fh ?_;exact i) λa3 d n=>g a3 n ⟨_,d.choose_spec⟩<|tv (V++[v]) (?_) (c.eD<|.c e .n)<|?_
 ·exact sa (List.push_toArray ..) d
 ·exact J bm<|J c.aY<|aa (bw f)<|af ..
theorem Op(c:sA L.sk p.rP p.rO p.rS)(e:rZ p.rP z s)(f:rZ p.rP v m):sy L p (aw (.builtin "list.append") [z,v]) rZ (wK .d s m p.rS):=by
 cases s with
 |b i=>
  refine sh e λb g d=>?_;subst g;refine sh (c.h.F b i d) λj S h=>(?_:sy L p _ rZ ((p.rS[i]?).bind _))
  refine S▸?_;cases j with
  |sr U=>exact .gB λa=>.aJ λa2=>CZ h f (vJ a) λa3 l n o=>.bM c d l n o B
  |_=>exact .aE
 |_=>exact .aE
theorem Oq(c:sA L.sk p.rP p.rO p.rS)(l:rZ p.rP z s):sy L p (aw (.builtin "list.pop") [z]) rZ (wJ .d s p.rS):=by
 cases s with
 |b i=>
  refine sh l λb m d=>?_;subst m;refine sh (c.h.F b i d) λj S n=>(?_:sy L p _ rZ ((p.rS[i]?).bind _))
  refine S▸?_;cases j with
  |sr U=>
   refine tp n λV o a e=>?_;obtain⟨t,q⟩:=o;refine(?_:sy L p _ rZ ((U.getLast?).bind _));cases r:U.getLast? with
   |none=>exact .aE
   |some h=>
    refine sh (a.eU<|List.getLast?_eq_getElem?.symm.trans r) λM f u=>?_;rw[<-a.aY]at f;refine .aJ λa2=>Copied.pop_at q (List.getElem?_toArray.trans f) (λa3 v g=>.bM c d v ⟨_,g⟩ (tv V.dropLast ⟨t+1,by refine ae g ?_;exact J (List.pop_toArray ..) B⟩ a.iV<|?_) u)<|aa e<|by refine sa ch ?_;decide
    exact J List.length_dropLast<|aa (el ..) e
  |_=>exact .aE
 |_=>exact .aE
noncomputable def yX{a9:Type}(a6:List rN)(i:rN->Option a9):Option a9:=a6.casesOn none λk q=>q.casesOn (i k) λ_ _=>none
def FQ{a9:Type}(a6:List rN)(i:rN->rN->Option a9):Option a9:=a6.casesOn none λk q=>yX q<|i k
theorem so.hP{b0:List ab->au b1}{i:rN->rQ a0}(a:tn p.rP b3 a6)(c:∀z s,rZ p.rP z s->so L p (b0 [z]) b4 (i s)):so L p (b0 b3) b4 (Mine.yX a6 i):=by
 cases a with
 |n=>exact .aE
 |c b q=>cases q with
  |n=>exact c _ _ b
  |c _ _=>exact .aE
theorem so.iS{b0:List ab->au b1}{i:rN->rN->rQ a0}(a:tn p.rP b3 a6)(c:∀z s k m,rZ p.rP z s->rZ p.rP k m->so L p (b0 [z,k]) b4 (i s m)):so L p (b0 b3) b4 (Mine.FQ a6 i):=by
 cases a with
 |n=>exact .aE
 |c b q=>exact .hP (b0:=λb3=>b0<|_::b3) q λk m a=>c _ _ k m b a
variable{o:String} {a1:sE->ab->a9->Prop}
theorem we.kC{A:rQ a9}(a:sA c.sc p.rP p.rO p.rS)(d:g=true->∀f a2 a4,a4 (.builtin o,[z]) p.rO->ap (sj c.sc) y (ez z a' f) a4 a2 p.rO)(h:wV c.sc (.builtin o))(i:g=true->so (c.sI y) p (aw (.builtin o) [z]) a1 A):we c y b6 a' [] p z a1 (Mine.si g A):=.mk λa7=>⟨d a7,λq e=>I.xG B h<|I.Cg ⟨a.h.C,i a7 q e⟩⟩
theorem we.iL{b0:rN->rR->rQ a9}(f:uF c [h] (.c L .n))(x:ss c y T p)(j:g=true->∀n a2 a4,a4 (.builtin o,[z]) p.rO->ap (sj c.sc) y (ez z a' n) a4 a2 p.rO)(q:wV c.sc (.builtin o)) (i:∀v m e,sJ (c.sI y) p e->rZ e.rP v m->so (c.sI y) e (aw (.builtin o) [z,v]) a1 (b0 m e.rS)):we c y b6 a' [h] p z a1 (Mine.si g<|rQ.aC (sZ c L T p.rS) b0):=by
 have a:rQ.aC (sZ c L T p.rS) b0=rQ.aC (vN c (.c L .n) T p.rS) λa6 d=>yX a6 λk=>b0 k d:=(CX (x:=λa6 d=>yX a6 λk=>b0 k d)).symm;exact J a<|.hB f x j q λ_ b3 a6 e l r=>.hP (b0:=λb3=>aw (.builtin o)<|z::b3) r λv m a=>i v m e l a
theorem we.hC{b0:rN->rN->rR->rQ a9}(e:uF c [f,h] (.c L<|.c E .n))(x:ss c y T p)(j:g=true->∀n a2 a4,a4 (.builtin o,[z]) p.rO->ap (sj c.sc) y (ez z a' n) a4 a2 p.rO)(q:wV c.sc (.builtin o)) (i:∀k s v m a,sJ (c.sI y) p a->rZ a.rP k s->rZ a.rP v m->so (c.sI y) a (aw (.builtin o) [z,k,v]) a1 (b0 s m a.rS)):we c y b6 a' [f,h] p z a1 (Mine.si g<|rQ.aC (sZ c L T p.rS) λs d=>rQ.aC (sZ c E T d)<|b0 s):=by
 exact J ((Oj (x:=λa6 d=>FQ a6 λk v=>b0 k v d)).symm)<|.hB e x j q λ_ b3 a6 a l r=>.iS (b0:=λb3=>aw (.builtin o)<|z::b3) r λk s v m S t=>i k s v m a l S t
theorem wa.iD{X:s_}{a:ba}(N:a.DictOf (hs sH X.v_) b c):(c.map (·.1)).Nodup:=by obtain⟨_,_,_,_,_,_,_,_,f⟩:=N;exact f
theorem wa.cJ{X:s_}{a:ba}(N:a.DictOf (hs sH X.v_) b c):∃j,a.get? b=D j:=by refine zp N λj v v f v=>?_;exact⟨j,f⟩
theorem Os(a:sU (yP O) c W)(a8:rZ O k N):rZ O ((jh c r).getD k) ((tc r W).getD N):=by
 have f:=Bl a r;cases e:tc r W with
 |none=>rw[e]at f;refine J (f) ?_;exact a8
 |some v=>rw[e]at f;refine sh f λz a' b2=>?_;exact J a' b2
theorem C0(a:sA L.sk p.rP p.rO p.rS)(d:(b==kx)=false)(c:wa L.sk p.rP p.rO.heap b W)(e:rZ p.rP z s)(a8:rZ p.rP k N):sy L p (aw (.builtin "dict.get") [.ref b,z,k]) rZ (se (Aj s N W) p.rS):=.bK (b0:=λz=>aw (.builtin "dict.get") [.ref b,z,k]) e λr n=>.aJ λa2=>c.d.elim λg f=>call_meetsIn ph f.1.typeIs PySem.F.entry_dict_get (PySem.F.args_dict_get_3 _ _ _) (meets_dict_get_default (hs sH L.sk.v_) b (zC r n) d k)<|sn _ f.1.mapOf<|.bE a<|Os f.2.1 a8
theorem Ot(x:ss c y T p)(a:rZ p.rP v m)(d:rZ p.rP z s)(a8:rZ p.rP k N):sy (c.sI y) p (aw (.builtin "dict.get") [v,z,k]) rZ (se (E4 p.rS m s N) p.rS):=by
 cases m with
 |p W=>exact a.elim λb f=>J f.1<|C0 x.k (x.fH<|sY.cG f.2) (x.k.bJ f.2) d a8
 |b i=>
  refine sh a λb g e=>?_;subst g;refine sh (x.k.h.F b i e) λj S h=>(?_:sy (c.sI y) p _ rZ (se ((p.rS[i]?).bind _) p.rS))
  refine S▸?_;cases j with
  |tw W=>exact C0 x.k (x.fH<|sY.eT e) h d a8
  |_=>exact .aE
 |_=>exact .aE
theorem Ou(h:c.rW.tq r=D M)(a8:ua M)(e:uF c [n,s] (.c L<|.c E .n))(t:(u.endLine==b6.line)=true):sd c (.Call (.Attribute (.Name M a6) "get" u) [n,s] [] b6) (.F r L E):=λy T p x=>x.aW h λj b a=>by
  cases j with
  |tw W=>
   refine so.dQ (b0:=λ_ d=>rQ.aC (sZ c L T d) λi d=>rQ.aC (sZ c E T d) λN d=>se (Aj i N W) d) .a e (hy<|bu _) t (.gG x a.S a8) λz _ S l w=>?_;subst w;exact .hC (g:=true) e (x.aF l) (λ_=>FP (a.aF x l).I ph ra) (yr B) λk m v q P g A O=>C0 g.n (beq_eq_false_iff_ne.mpr λf=>x.u.e.elim λj R=>sq<|(f▸a.X.2.1).symm.trans R) ((a.aF x l).aF (x.aF l) g).I A O
  |_=>exact .aE
inductive AA(O:sw):List ab->Option rN->Prop
 |b:AA O [] none
 |c {k:ab} {N:rN}:rZ O k N->AA O [k] (D N)
theorem AA.iM{N:Option rN}(a:AA O b3 N)(k v:ab):argsOk "dict.pop" ⟨k::v::b3,[]⟩/\(b3=[]\/∃N,b3=[N]):=by
 cases a with
 |b=>exact⟨PySem.F.args_dict_pop_2 _ _,.inl B⟩
 |c=>exact⟨rb _ _ _,.inr ⟨_,B⟩⟩
theorem FR{N:Option rN}(x:ss c y T p)(t:rZ p.rP v m)(u:rZ p.rP z s)(a8:AA p.rP b3 N):sy (c.sI y) p (aw (.builtin "dict.pop")<|v::z::b3) rZ (Al p.rS m s N):=by
 cases m with
 |b i=>
  refine sh t λb w g=>?_;subst w;refine sh (x.k.h.F b i g) λj S A=>(?_:sy (c.sI y) p _ rZ ((p.rS[i]?).bind _))
  refine S▸?_;cases j with
  |tw W=>
   refine .iT (n:=λz=>aw (.builtin "dict.pop")<|.ref b::z::b3) u λr n=>tp A.d λh a l q=>?_;have d:=Bl l r;cases e:tc r W with
   |some M=>
    rw[e]at d;exact sh d λf E L=>.aJ λa2=>call_meetsIn nh a.typeIs rc (a8.iM _ _).1 (meets_dict_pop_there (hs sH c.sc.v_) b (zC r n) b3 (a8.iM (.ref b) z).2 B) ⟨h,f,a,aa q<|by refine sa ch ?_;decide,E,λa3 c0 O=>.bM x.k g O (wa.cJ c0) ⟨(tv _ c0 (On l<|wa.iD a)<|aa (List.length_filter_le _ _) q)⟩ L⟩
   |none=>
    rw[e]at d;cases a8 with
    |b=>exact .aE
    |c P=>exact .aJ λa2=>call_meetsIn nh a.typeIs rc (rb _ _ _) (meets_dict_pop_default (hs sH c.sc.v_) b (zC r n) (x.fH<|sY.eT g) B _) ⟨h,a,d,.bE x.k P⟩
  |_=>exact .aE
 |_=>exact .aE
end
theorem Heap.hD{V:Array ab}(a:V[r]?=D k):r<V.size:=(Array.getElem?_eq_some_iff.mp a).1
section
variable{X:s_} {P:tT} {a2:ab->ai->Prop} {O:sw} {a:ba} {a9:al->Prop} {l:ai} {d:rR} {b7:al->Prop} {R:Option ab->Prop} {e b:al} {h:Nat} {T:sg} {s:ab} {c0:List cj}
def zF(a:ba)(e:al):al->Prop:=λb=>b=e\/∃c V,a.get? e=D c/\c.data=.fields V/\V[1]?=D (.ref b)
theorem u_.eK(f:u_ X R b7 O a e h)(v:zF a e b):b7 b/\O b=.b/\∃j V,a.get? b=D j/\j.data=.fields V:=by
 obtain⟨k,V,i,_,c,g⟩:=f.z;rcases v with rfl|⟨u,w,m,n,o⟩
 ·exact tG f.A f.y<|uw k V i c
 ·obtain rfl:=ak<|m▸i;have c:=n▸c;cases c;have g:=o▸g;cases g with
  |a p q x r t=>exact tG p q<|uw _ _ r t
theorem to.cE(c:to P.sb a M z)(f:to P.sb a M k):z=k:=by
 rcases c with⟨i,t,S,g⟩|⟨i,u,S,g⟩<;>rcases f with⟨j,v,m,n⟩|⟨j,w,m,n⟩
 ·have g:=n▸(Ns.cE S m)▸g;exact(ak g).symm
 ·cases i.symm.trans j
 ·cases i.symm.trans j
 ·obtain rfl:=ak<|S.symm.trans m;refine sh g λx o p=>sh n λy q r=>?_;obtain rfl:=ak<|o.symm.trans q;cases p.symm.trans r
  rfl
theorem tA.bY(c:tA X P O a T)(v:∀b j,a9 b->a.get? b=D j->∃V,j.data=.fields V):vH a9 P a T where
 E f:=by
  obtain⟨A,j,W,E,g,i,_⟩:=c.Qu;obtain⟨V,m⟩:=v _ _ f g;cases i.symm.trans m
 w M h t f:=by
  obtain⟨_,_,k,j,g,i⟩:=c.Qs M h t;obtain⟨V,m⟩:=v _ _ f g;cases i.symm.trans m
 z r M j b u m w f:=by
  obtain⟨a5,n,_,_,p⟩:=c.C r M (.sl j) u m;obtain rfl:=gx<|to.cE n w;refine sh p.cJ λL g i=>?_;obtain⟨V,q⟩:=v _ _ f g;exact i V q
 F o x U y f:=by
  obtain⟨_,N,j,n,_,z,p⟩:=c.Qt o x;obtain rfl:=ak<|n.symm.trans y;obtain⟨V,q⟩:=v _ _ f z;exact p V q
theorem tA.gS(c:tA X P O a T)(g:u_ X R b7 O a e h):vH (zF a e) P a T:=c.bY λ_ j v m=>(g.eK v).2.2.elim λb9 f=>f.elim λV f=>⟨V,ak (f.1.symm.trans m)▸f.2⟩
theorem uN.jY(b1:tx X O a d):∀{c0:List cj},uN O a c0->a.FunFrames X.sN c0:=@λc0=>uP (@λ_=>trivial) (λo q g=>@λc=>by
  obtain⟨i,U,j,S,k,n,p⟩:=c o bn;refine⟨i,(yf U j S (?_) n p),g λe r=>c e<|br _ r⟩;cases m:X.sN.get? U with
  |none=>rfl
  |some f=>cases(b1.P U f m).symm.trans k) c0
theorem uN.cS(c:uN O a c0)(a7:g∈c0.filterMap (·.frame)):O g=.c:=by
 refine sh (List.mem_filterMap.mp a7) λe f m=>?_;obtain⟨_,U,j,S,i,_⟩:=c e f;obtain rfl:=ak<|m.symm.trans S;exact i
theorem Ov(b1:tx X O a d)(c:uN O a c0)(g:Heap.SlotsOnly (c0.filterMap (·.frame)) a a3):sQ a9 O a O a3/\tx X O a3 d:=by
 have i:∀b,O b≠.c->a3.get? b=a.get? b:=λb t=>g.2.1 b λn=>t<|c.cS n;have k:∀b j,a.get? b=D j->∃b9,a3.get? b=D b9:=λb j e=>(g.2.2 b j e).elim λa0 m=>⟨_,m⟩
 refine⟨⟨k,λ_ _=>B,λ_ _ _ e _=>e,λb j e _=>(g.2.2 b j e).imp λa0 f=>⟨f,λt=>?_⟩,b1.I⟩,b1.eY k (λb j e _ t _=>(i b t).trans e) λb j e=>(i b ?_).trans<|b1.C b j e⟩
 ·have:=f.symm.trans<|(i b t).trans e;cases j;cases this
  rfl
 ·exact J (b1.P b j e) nofun
theorem sA.gA(c:sA X O l d)(i:X.sN.get? e=none)(q:O e=.b)(v:a9 e)(f:cf e l.heap a3)(g:∃j,a3.get? e=D j){b8:ct}:sQ a9 O l.heap O a3/\sA X O {l with heap:=a3,toks:=b8} d:=⟨sQ.aW c.h (by unfold uz;refine J q ?_;exact v) f g,c.dE<|c.h.aW (.inl q) i f g⟩
theorem sQ.eX(c:sQ a9 O a g i)(M:sQ j g i b2 a3)(f:∀b,j b->a9 b):sQ a9 O a b2 a3:=c.aM M λb _ _ m=>f b m
structure AB(X:s_)(R:Option ab->Prop)(b7:al->Prop)(O:sw)(l:ai)(d:rR)(e:al)(h:Nat)(Y:ai):Prop where
 a:sQ (zF l.heap e) O l.heap O Y.heap
 b:sA X O Y d
 c:u_ X R b7 O Y.heap e h
theorem FS{V:Array ab}(a:r<V.size):(V.setIfInBounds r k)[r]?=D k:=by simp[a]
theorem zG(w:∀b,b7 b->X.sN.get? b=none)(z:sA X O l d)(c:yn X s b7 O l.heap e h) (a:∀Y,AB X (λj=>j=D (u.elim lr λu=>ev u)) b7 O l d e h Y->a4 () Y):ap (sj X) y (hr (.ref e) u) a4 a2 l:=by
 refine wp c.z λn V g A i o=>?_;generalize m:V[1]?=k at o
 cases o with
 |b M=>exact sq M
 |@a b0 N a5 k p q r t v E L S=>
  refine ah<|cq g i m ?_;refine uL (an<|B) ?_;have b5:=Heap.hD L;refine ll t v b5 ?_;have a8:=jm v (·.setIfInBounds 3<|u.elim .none λu=>ev u);have x:=fy (ni (·.setIfInBounds 3<|u.elim .none λu=>ev u)) t<|lj a8;have f:=sA.gA (b8:=l.toks) z (a9:=zF l.heap e) (w _ p) q (.inr<|uQ n V g i m) (gu ..) ⟨_,x⟩;exact a _ ⟨f.1,f.2,c.A,c.y,n,V,(gv _ _ r).trans g,A,i,(J m<|.a p q r x a8 ((rd<|yd B).trans E) (FS b5) B)⟩
theorem Ow{U:al}{a4:a0->ai->Prop}(i:∀b,b7 b->X.sN.get? b=none)(n:sA X O l d)(c:yn X s b7 O l.heap e h)(p:o.frame=D U) (a:∀Y,AB X (λj=>j=D (ev U)) b7 O l d e h Y->a2 (.ref e) Y):ap (sj X) y (mo t (.ref e) o:au a0) a4 a2 l:=by
 refine wp c.z λu V q v r g=>?_;generalize m:V[1]?=k at g
 cases g with
 |b M=>exact sq M
 |@a b0 w a5 k x z A E L N S W=>
  refine ah<|cq q r m<|gc ?_;exact J (am<|ey)<|J p<|ah<|zG i n c λY f=>nb<|a Y f
theorem Ox(n:y.frames=D c0)(p:o.frame=D U)(q:∃g i,c0=g::i/\g.frame=D U)(j:sA X O l d)(k:uN O l.heap c0) (a:∀a3,sQ Mine.Ar O l.heap O a3->sA X O {l with heap:=a3} d->a4 (.ref U) {l with heap:=a3}):ap (sj X) y (PySem.frameOf o) a4 a2 l:=by
 refine tP q λg i r m=>?_;subst r;refine ah<|wpAny_frameEnvs n ?_;rw[show((g::i).dropWhile λc=>c.frame !=o.frame)=g::i by refine ae List.dropWhile_cons ?_;refine J m<|sa p ?_;exact am<|by rw[bne_self_eq_false];exact ey];refine ah<|ah<|wpAny_readyFrames_fun (uN.jY j.h k) λt u=>as ?_;rw[m];have f:=Ov (a9:=Mine.Ar) j.h k u;exact as<|a t f.1<|j.hK f.2
theorem FT{y:bj}(z:∀b,b7 b->X.sN.get? b=none)(A:y.frames=D c0)(M:o.frame=D U)(N:∃r S,c0=r::S/\r.frame=D U)(W:sA X O l d)(a0:uN O l.heap c0) (a3:l.heap.get? e=D t)(i:E7 X t h)(j:t.data=.fields V)(a5:V[1]?=D k)(u:b7 e)(n:O e=.b)(a6:∀b,l.heap.get? b=none->b7 b) (a:∀Y,sQ (λb=>b=e) O l.heap O Y.heap->sA X O Y d->yn X (ev U) b7 O Y.heap e h->a4 () Y): ap (sj X) y (do setField (.ref e) 1 (<-EntryCells.newEntry p (<-PySem.frameOf o) .none (ev U) .none (<-entryPlaceOf U (p !=.none)))) a4 a2 l:=by
 refine ah<|Ox A M N W a0 λc q v=>ah<|wpAny_entryPlaceOf λg a7=>?_;refine ah<|ej ?_<|a7.sizeOk5 _ _ _ _ _;have L:=q.cR n id a3;have w:=c_<|eg L;have a1:=sJ.dK (L:=⟨X,y,U⟩) (p:=⟨O,{l with heap:=c},d⟩) v {cls:=.type "traceback",dict:=none,data:=.fields ([p,.ref U,.none,ev U,.none]++(if g.isEmpty then .replicate 6 .none else g)).toArray};have E:=cg {cls:=.type "traceback",dict:=none,data:=.fields ([p,.ref U,.none,ev U,.none]++(if g.isEmpty then .replicate 6 .none else g)).toArray} L;have b5:=Heap.hD a5;refine ll E j b5 ?_;have a8:=jm j (·.setIfInBounds 1<|.ref c.objs.size);have x:=fy (ni (·.setIfInBounds 1<|.ref c.objs.size)) E<|lj a8;have f:=sA.gA (b8:=l.toks) a1.n (a9:=λb=>b=e) (z _ u) n B (gu ..) ⟨_,x⟩;refine a _ (((q.eX a1.r λ_=>id).aQ λ_ _ _=>nj).eX f.1 λ_=>id) f.2 ⟨u,n,_,_,x,⟨(Obj.cls_mapFields _ _).trans i.1,i.2.1,λb3 m=>?_⟩,a8,?_⟩
 ·cases a8.symm.trans m;exact(rd<|yd B).trans<|i.2.2 V j
 ·exact J (FS b5)<|.a (a6 _<|q.bT<|uW _) ((v.h.bH<|uW c).1) w ((gv _ _<|dq w).trans<|cl _ B) B (by simp) (by simp) B
theorem Bq(u:∀b,b7 b->X.sN.get? b=none)(E:y.frames=D c0)(w:o.frame=D U)(L:∃N a',c0=N::a'/\N.frame=D U) (g:sA X O l d)(S:uN O l.heap c0)(c:Bf X U b7 O l.heap e h)(W:∀b,l.heap.get? b=none->b7 b) (a:∀Y,AB X (λj=>j=D (ev U)) b7 O l d e h Y->a4 () Y):ap (sj X) y (fb (.ref e) o) a4 a2 l:=by
 refine wp c.z λa0 V n x p a3=>?_;have r:∀{Y:ai} b,b=e->zF l.heap e b:=λb=>.inl;generalize m:V[1]?=k at a3
 unfold fb;refine J w ?_;cases a3 with
 |b M=>
  refine ah<|cq n p m ?_;exact uL (am<|show¬((.none !=lr)=true)from ey)<|FT u E w L g S n x p m c.A c.y W λY a1 g c=>a Y ⟨a1.aQ λb _ _=>.inl,g,c⟩
 |@a b0 b5 a5 k a6 z a7 q t b1 A i=>
  refine ah<|cq n p m ?_;refine uL (an<|B)<|ah<|cq q t A<|gc ?_;rcases i with i|i|i
  ·exact va i
  ·obtain rfl:=ak i;refine J (am<|ey) ?_;refine ah<|ll q t (Heap.hD A) ?_;have a8:=jm t (·.setIfInBounds 3 lr);have f:=sA.gA (b8:=l.toks) g (a9:=zF l.heap e) (u _ a6) z (.inr<|uQ a0 V n p m) (gu ..) ⟨_,(fy (ni (·.setIfInBounds 3 lr)) q<|lj a8)⟩;have b2:uN O (l.heap.update b0<|ni (·.setIfInBounds 3 lr)) c0:=λb3 b4=>(S b3 b4).imp id λv=>v.imp λb6 v=>v.imp λj v=>vS v.1 v.2.1 ((gv _ _ λm=>sY.dF ((G O m).trans v.2.1) z).trans v.2.2.1) v.2.2.2;exact FT u E w L f.2 b2 ((gv _ _ a7).trans n) x p m c.A c.y (λb m=>W b<|f.1.bT m) λY a1 g c=>a Y ⟨f.1.eX a1 λb=>.inl,g,c⟩
  ·obtain rfl:=ak i;rw[an<|gs _];exact as<|a _ ⟨g.h.aX,g,c.A,c.y,a0,V,n,x,p,(J m<|.a a6 z a7 q t b1 A B)⟩
theorem FU(a:a4 () l):ap (sj X) y (ia c) a4 a2 l:=ah<|wpAny_stack_any λE=>ah<|mm<|ah<|dz<|wpAny_point<|mm a
end
section
variable{X:s_} {P:tT} {O:sw} {a a3:ba} {c:aj} {z:ab} {b b4:al}
structure vy(P:tT)(a a3:ba)(c:aj)(z:ab)(b4:al):Prop where
 r:ud P b4
 o:b4=P.sb.locals\/P.sb.cells.lookup c=D b4
 l:cf b4 a a3
 s:∃j,a3.get? b4=D j/\∀V,j.data≠.fields V
 p:to P.sb a3 c z
 n:∀M k,M≠c->(to P.sb a3 M k↔to P.sb a M k)
 u:∃A,a3.Ns P.sb.locals A
 w:∀M h,P.sb.cells.lookup M=D h->∃k,a3.IsCell h k
theorem Oy(c:a.Ns b A)(M:a.IsCell b k):False:=by
 refine zr c λj W g S d v=>sh M λb9 e f=>?_;obtain rfl:=ak<|S.symm.trans e;cases d.symm.trans f
theorem xq(c:a.Ns b A):∃j,a.get? b=D j/\∀V,j.data≠.fields V:=c.elim λj f=>f.elim λ_ f=>f.elim λ_ f=>sn j f.1<|λV m=>nomatch m.symm.trans f.2.1
theorem Br(c:a.IsCell b k):∃j,a.get? b=D j/\∀V,j.data≠.fields V:=c.elim λj f=>sn j f.1<|λV m=>nomatch m.symm.trans f.2
theorem FV(d:cf b4 a a3)(e:h≠b4):a3.IsCell h k↔a.IsCell h k:=by unfold Heap.IsCell;rw[d.2 h e]
theorem FW(t:a.Ns b A)(d:a3.Ns b a7)(e:a7 M=A M):(∃A,a3.Ns b A/\A M=D k)↔∃A,a.Ns b A/\A M=D k:=⟨λf=>f.elim λm v=>sn A t<|e▸Ns.cE v.1 d▸v.2,λf=>f.elim λm v=>sn a7 d<|e.symm▸Ns.cE v.1 t▸v.2⟩
theorem C1{a2:ab->ai->Prop}(R:ty P)(j:Fb X P O l.heap)(g:P.sb.kindOf c=D .local\/(P.uc=true/\P.sb.kindOf c=D .cell/\∃h,P.sb.cells.lookup c=D h)) (a:∀a3 b8 b4,vy P l.heap a3 c z b4->a4 () {l with heap:=a3,toks:=b8}):ap (sj X) y (storeName P.sb c z) a4 a2 l:=by
 refine bk j.Qu λA m=>?_;have o:∀{M h},P.sb.cells.lookup M=D h->h≠P.sb.locals:=λd f=>(j.Qs _ _ d).2.2.elim λv i=>Oy m<|f▸i;rcases g with g|⟨t,g,h,d⟩
 ·refine wpAny_storeName_local g m (λa3 n e=>?_)<|by refine J R.d ?_;rfl
  exact a a3 _ _ ⟨j.Qw,.inl B,e,xq n,.inl ⟨g,_,n,an B⟩,λM k p=>or_congr (jr λ_=>FW m n<|am p)<|jr λ_=>exists_congr λh=>jr λd=>FV e<|o d,⟨_,n⟩,λM h d=>(j.Qs M h d).2.2.imp λv i=>i.sameBut e<|o d⟩
 ·obtain⟨_,u,v,i⟩:=j.Qs c h d;refine wpAny_storeName_cell R.d g d i λa3 q e=>?_;have s:=m.sameBut e<|dq<|o d;refine a a3 _ _ ⟨u.2 t,.inr d,e,Br q,.inr ⟨g,h,d,q⟩,λM k p=>or_congr (jr λ_=>FW m s B)<|jr λ_=>exists_congr λr=>jr λw=>FV e λf=>p<|R.k M c h (sa f w) d,⟨_,s⟩,λM r x=>?_⟩;by_cases f:r=h
  ·subst f;exact⟨_,q⟩
  ·exact(j.Qs M r x).2.2.imp λv i=>i.sameBut e f
theorem vy.cS(E:vy P a a3 c z b4)(d:Fb X P O a):O b4=.c\/O b4=.b:=E.o.elim (λf=>.inl<|(G O f).trans d.Qv) λf=>.inr (d.Qs c b4 f).1
theorem vy.cJ{b:al}(E:vy P a a3 c z b4)(e:∃j,a.get? b=D j):∃j,a3.get? b=D j:=by
 by_cases f:b=b4
 ·subst f;exact E.s.imp λj f=>f.1
 ·exact e.imp λj m=>(E.l.2 b f).trans m
theorem Fb.fA(d:Fb X P O a)(v:ud P b):X.sN.get? b=none:=by
 cases m:X.sN.get? b with
 |none=>rfl
 |some j=>exact sq<|v.1.symm.trans<|d.Qx b j m
theorem vy.eP(E:vy P a a3 c z b4)(e:Fb X P O a)(b1:tx X O a d):tx X O a3 d/\sQ (ud P) O a O a3:=have q:=E.cS e;have g:=E.s.imp λj f=>f.1;⟨b1.aW q.symm (e.fA E.r) E.l g,sQ.aW b1 (q.elim (λq=>by unfold uz;refine q▸?_;exact E.r) λq=>by unfold uz;refine q▸?_;exact E.r) E.l g⟩
theorem vy.jS(E:vy P a a3 c z b4)(d:Fb X P O a)(g:∀b,P.zA≠D (c,b)):Fb X P O a3:=⟨E.u,d.Qv,d.Qw,d.Qx,λb j m=>E.cJ<|d.Qy b j m,λb m=>E.cJ<|d.Qz b m,λM h m=>⟨(d.Qs M h m).1,(d.Qs M h m).2.1,E.w M h m⟩,λe i=>(d.Qt e i).imp id λv=>v.elim λU v=>v.elim λj v=>by
  by_cases f:U=b4
  ·subst f;exact E.s.elim λb9 m=>uQ U b9 v.1 v.2.1 m
  ·exact yf U j v.1 v.2.1 ((E.l.2 U f).trans v.2.2.1) v.2.2.2,λM b m=>(E.n M _ λe=>g b<|sa e m).mpr<|d.Ra M b m⟩
theorem vy.cK(E:vy P a a3 c z b4)(e:Fb X P O a)(g:O b=.b)(h:yR X P b)(i:tf X O a b j):tf X O a3 b j:=by
 refine i.aS (λ_ _=>B) (λj m=>(E.l.2 b<|λf=>E.o.elim (λm=>sY.dF ((G O<|f.trans m).trans e.Qv) g) λm=>h.2.2 c<|J f m).trans m) λN j d k=>(E.l.2 N λf=>?_).trans k;have d:=f▸d;rcases E.cS e with q|q<;>cases q.symm.trans d
def ys(X:s_)(P:tT)(O:sw)(a:ba)(z:ab)(w:sm):Prop:=@sm.casesOn (λ_=>Prop) w True (λs=>rZ O z s) λj=>∃b,z=.ref b/\O b=.b/\yR X P b/\tf X O a b j
theorem vD{T:sg}(m:(T.set r b1)[L]?=D v):(L=r/\v=b1)\/(L≠r/\T[L]?=D v):=by
 by_cases e:L=r
 ·subst e;rw[List.getElem?_set_self']at m;exact .inl ⟨B,(Option.map_eq_some_iff.mp m).elim λ_ f=>f.2.symm⟩
 ·rw[jg<|dq e]at m;exact .inr ⟨e,m⟩
theorem tA.jI{b1:sm}(R:ty P)(g:tA X P O a T)(E:vy P a a3 c z b4)(m:P.tq r=D c)(A:∀b,P.zA≠D (c,b))(N:ys X P O a z b1) (a8:∀j,b1=.sl j->∀L M b9,P.tq L=D M->L≠r->T[L]?=D (.sl b9) ->¬to P.sb a M z):tA X P O a3 (T.set r b1):=by
 have d:∀{L M},P.tq L=D M->L≠r->M≠c:=λS n f=>n<|R.inj _ _ c (sa f S) m;refine⟨E.jS g.toFb A,λL M w e h=>?_,λL i M f j b9 b e h l U o p=>?_⟩
 ·rcases vD h with⟨rfl,rfl⟩|⟨n,h⟩
  ·obtain rfl:=ak<|m.symm.trans e;exact @sm.casesOn (λw=>ys X P O a z w->wS X P O a3 c w) w id (λs v=>sn z E.p v) (λj v=>bk v λb v=>zn b (sa v.1 E.p) v.2.1 v.2.2.1<|E.cK g.toFb v.2.1 v.2.2.1 v.2.2.2) N
  ·have u:=λ{k}=>(E.n M k<|d e n).mpr;exact @sm.casesOn (λw=>wS X P O a M w->wS X P O a3 M w) w id (λs v=>v.imp λz v=>⟨u v.1,v.2⟩) (λj v=>v.imp λb v=>vS (u v.1) v.2.1 v.2.2.1<|E.cK g.toFb v.2.1 v.2.2.1 v.2.2.2)<|g.C L M w e h
 ·rcases vD h with⟨rfl,a'⟩|⟨q,x⟩<;>rcases vD U with⟨rfl,b2⟩|⟨t,y⟩
  ·rfl
  ·obtain rfl:=ak<|m.symm.trans e;exact absurd (to.cE o E.p▸(E.n f _<|d l t).mp p)<|a8 _ a'.symm i f b9 l t y
  ·obtain rfl:=ak<|m.symm.trans l;exact absurd (to.cE p E.p▸(E.n M _<|d e q).mp o)<|a8 _ b2.symm L M j e q x
  ·exact g.F L i M f j b9 b e x l y ((E.n M _<|d e q).mp o)<|(E.n f _<|d l t).mp p
end
structure ts(c:sL)(p a:sE):Prop where
 e:sQ (ud c.rW) p.rP p.rO.heap a.rP a.rO.heap
 f:sA c.sc a.rP a.rO a.rS
section
variable{c:sL} {y:bj} {T:sg} {p:sE} {M:aj} {b6:bp} {r:Nat} {a2:ab->ai->Prop} {b8:ct}
theorem ts.aM(b:ts c p a)(g:ts c a P):ts c p P:=⟨b.e.eX g.e λ_=>id,g.f⟩
theorem sJ.bF(b:sJ (c.sI y) p a):ts c p a:=⟨b.r.aQ λ_ _ _=>nj,b.n⟩
theorem ts.aX(a:sA c.sc p.rP p.rO p.rS):ts c p p:=⟨a.h.aX,a⟩
theorem vy.jT(E:vy P a a3 M z b4)(b:Fb X P O a):∃j,a.get? b4=D j/\∀V,j.data≠.fields V:=E.o.elim (λf=>J f<|b.Qu.elim λA t=>xq t) λf=>(b.Qs M b4 f).2.2.elim λk v=>Br v
theorem AC(i:∀b j,b≠b4->a.get? b=D j->a3.get? b=D j)(d:∀j V,a.get? b4=D j->j.data=.fields V->V[2]?≠D .none):At O a O a3:=λb j V q m N n=>⟨q,i b j (λf=>d j V (sa f m) N n) m⟩
theorem Bs{a:ba}(b:∃j,a.get? b4=D j/\∀V,j.data≠.fields V)(j:Obj)(V:Array ab)(m:a.get? b4=D j)(N:j.data=.fields V):V[2]?≠D .none:=λ_=>b.elim λb9 v=>v.2 V<|J (ak<|v.1.symm.trans m) N
theorem SameBut.eL(d:cf b4 a a3)(b:al)(j:Obj)(e:b≠b4)(m:a.get? b=D j):a3.get? b=D j:=(d.2 b e).trans m
structure vc(P:tT)(M:aj)(r:Nat):Prop where
 a:P.tq r=D M
 d:∀b,P.zA≠D (M,b)
 c:P.sb.kindOf M=D .local\/(P.uc=true/\P.sb.kindOf M=D .cell/\∃h,P.sb.cells.lookup M=D h)
theorem ss.eQ(x:ss c y T p)(E:vy c.rW p.rO.heap a3 M z b4)(a:vc c.rW M r)(b:ys c.sc c.rW p.rP p.rO.heap z b1) (a8:∀j,b1=.sl j->∀L f b9,c.rW.tq L=D f->L≠r->T[L]?=D (.sl b9) ->¬to c.rW.sb p.rO.heap f z):ts c p ⟨p.rP,{p.rO with heap:=a3,toks:=b8},p.rS⟩/\ss c y (T.set r b1) ⟨p.rP,{p.rO with heap:=a3,toks:=b8},p.rS⟩:=have f:=E.eP x.o.toFb x.k.h;⟨⟨f.2,x.k.dE f.1⟩,x.eB (AC (SameBut.eL E.l)<|Bs<|E.jT x.o.toFb) (x.k.dE f.1)<|x.o.jI x.l E a.a a.d b a8⟩
theorem FX(x:ss c y T p)(a:vc c.rW M r)(b:ys c.sc c.rW p.rP p.rO.heap z b1)(a8:∀j,b1=.sl j->∀L f b9,c.rW.tq L=D f->L≠r->T[L]?=D (.sl b9) ->¬to c.rW.sb p.rO.heap f z) (d:∀Y,ts c p ⟨p.rP,Y,p.rS⟩ ->ss c y (T.set r b1) ⟨p.rP,Y,p.rS⟩ ->a4 () Y):ap (sj c.sc) y (storeName c.rW.sb M z) a4 a2 p.rO:=C1 x.l x.o.toFb a.c λa3 b8 b4 E=>(x.eQ E a b a8).elim<|d _
theorem Bt(x:ss c y T p)(a:vc c.rW M r)(b:rZ p.rP z s)(d:∀Y,ts c p ⟨p.rP,Y,p.rS⟩ ->ss c y (T.set r<|.rL s) ⟨p.rP,Y,p.rS⟩ ->a4 () Y):ap (sj c.sc) y (storeName c.rW.sb M z) a4 a2 p.rO:=FX x a (b1:=.rL s) b (λ_=>nofun) d
inductive xr(P:tT):List ag->List Nat->Prop
 |n:xr P [] []
 |c {M:aj} {b6:bp} {W:List ag} {r:Nat} {a0:List Nat}:vc P M r->xr P W a0->xr P (.Name M b6::W) (r::a0)
theorem FY{M:aj}:gf (.Name M b6::W) o=(false,fc (.Name M b6) o)::gf W o:=B
theorem xr.fG(a:xr P W a0):(gf W P.sb).length=a0.length/\(gf W P.sb).findIdx? (·.1)=none:=by
 induction a with
 |n=>exact⟨B,B⟩
 |c _ _ b=>exact FY▸il▸(az il)▸(az b.1)▸(List.findIdx?_cons)▸(az b.2)▸⟨B,B⟩
theorem Oz{W:List ag}{a0:List Nat}(a:xr c.rW W a0):∀{b3:List ab} {a6:List rN} {p:sE} {T:sg} {a4:Unit->ai->Prop},tn p.rP b3 a6->a6.length=a0.length->ss c y T p-> (∀Y,ts c p ⟨p.rP,Y,p.rS⟩ ->ss c y (yJ T a0 a6) ⟨p.rP,Y,p.rS⟩ ->a4 () Y) ->ap (sj c.sc) y (ls ((gf W c.rW.sb).map (·.2)) b3) a4 a2 p.rO:=by
 induction a with
 |n=>
  intro b3 a6 p T a4 a w x d;cases a with
  |n=>exact as<|d p.rO (.aX x.k) x
  |c _ _=>cases w
 |@c M b6 W r a0 e _ f=>
  intro b3 a6 p T a4 a w x d;cases a with
  |n=>cases w
  |@c z s b3 a6 h i=>
   exact J FY<|J ge<|ah<|dz<|pi<|Bt x e h λY b b0=>f (p:=⟨p.rP,Y,p.rS⟩) i (fm w) b0 λj g k=>d j (b.aM g) k
theorem C2(a:sA X O l d)(q:O b4=.b\/O b4=.c)(g:X.sN.get? b4=none)(i:∀b j,b≠b4->l.heap.get? b=D j->a3.get? b=D j)(k:∃j,a3.get? b4=D j): sQ (λb=>b=b4) O l.heap O a3/\sA X O {l with heap:=a3,toks:=b8} d:=by
 have h:∀b j,l.heap.get? b=D j->∃b9,a3.get? b=D b9:=λb j m=>by
  by_cases f:b=b4
  ·subst f;exact k
  ·exact⟨j,i b j f m⟩
 refine⟨⟨h,λ_ _=>B,λ_ _ _ e _=>e,λb j m n=>sn j.slots (i b j (λf=>n ?_) m)<|λ_=>B,a.h.I⟩,a.dE<|a.h.eY h (λb j m o s _=>i b j (λf=>q.elim (λq=>o<|f▸q) λq=>s<|f▸q) m) λb j m=>i b j (λf=>?_)<|a.h.C b j m⟩
 ·subst f;unfold uz;rcases q with q|q<;>exact q▸B
 ·subst f;exact sq<|g.symm.trans m
theorem sJ.cV(l:sJ L p a)(d:sA L.sk p.rP p.rO p.rS)(t:p.rO.heap.get? b=none)(q:a.rP b=.b\/a.rP b=.c)(i:∀g j,g≠b->a.rO.heap.get? g=D j->a3.get? g=D j)(e:∃j,a3.get? b=D j):sJ L p ⟨a.rP,{a.rO with heap:=a3,toks:=b8},a.rS⟩:=have f:=C2 l.n q (d.h.bH t).2 i e;⟨l.r.aM f.1 λg j m v=>(va (((G p.rO.heap.get? v).symm.trans m).symm.trans t):False),f.2⟩
theorem OA:∀(w:List rN) (l:ai) {a4:List ab->ai->Prop},O b7=.b->ug O l.heap b7 w-> (∀a3 b8 b3,cf b7 l.heap a3->tn O b3 w->ug O a3 b7 [] ->a4 b3 {l with heap:=a3,toks:=b8}) ->ap (sj X) y (draw (.ref b7) w.length) a4 a2 l:=@λw=>uP (@λl a4 q c a=>as<|a l.heap l.toks [] (.refl ..) .n c) (λs w b=>@λl a4 q c a=>by
  exact ah<|CO q c λk a3 b8 d e f=>ah<|dz<|b {l with heap:=a3,toks:=b8} q f λg h b3 i j m=>as<|a g h (k::b3) (e.trans i) (.c d j) m) w
inductive zH(w:List rN):rN->Prop
 |c:zH w (.j w)
 |h:zH w (.c w)
theorem zH.kD(g:zH w s)(a:sA L.sk p.rP p.rO p.rS)(d:rZ p.rP z s):(∃b0 k,p.rO.TypeIs z b0/\fk (.type b0) "__iter__"=ay (D k))/\so L p (gn z) (Bo p) (sv w p.rS):=by
 cases g with
 |c=>
  refine⟨?_,NM a d⟩;obtain⟨b,rfl,e⟩:=d;exact(a.bJ e).elim λV f=>⟨_,_,f.1.typeIs,F.slot_tuple_iter.lookup⟩
 |h=>
  refine⟨?_,CR a d⟩;obtain⟨b,rfl,e⟩:=d;exact(a.bJ e).elim λV f=>uw _ _ f.1.isList.typeIs F.slot_list_iter.lookup
theorem FZ(x:ss c y T p)(i:rZ p.rP z s)(n:zH w s):so (c.sI y) p (unpackItems z w.length none) (λo b3 (_:Unit)=>tn o.rP b3 w) (sv () p.rS):=by
 obtain⟨⟨b0,k,t,u⟩,v⟩:=n.kD (L:=c.sI y) x.k i;intro q e;obtain rfl:=ak e;refine .sf<|toI<|ah<|dp t u<|as ?_;refine uM (am<|ey)<|.sf<|.tD<|rY.tr (v _ B) (λb7 R f=>?_) λ_ _ f=>nomatch f
 cases f with
 |@mk S _ _ _ _ l A=>
  refine wo A.a λb1 E b a M=>?_;subst E;refine toI<|ah<|dz<|OA w _ a M λa3 b8 b3 L d h=>?_;have Y:=l.cV (b8:=b8) x.k b (.inl a) (λg j N m=>(L.2 g N).trans m) h.cK;rw[am<|by refine sa d.aY ?_;exact kv _];refine ah<|dz<|CQ (x.aF Y).F.gZ h λU O P=>?_;rw[am<|show¬(none.isSome=true)from ey];exact as<|.mk (Y.cV x.k b (.inl a) O P) d
inductive wW(P:tT):ag->List Nat->Bool->Prop
 |b {M:aj} {b6:bp} {r:Nat}:vc P M r->wW P (.Name M b6) [r] false
 |a {W:List ag} {i:Nat} {b6:bp} {a0:List Nat}:xr P W a0->wW P (.Tuple W i b6) a0 true
theorem OB(a:up a0 true s T=D N):∃w,zH w s/\w.length=a0.length/\yJ T a0 w=N:=by
 have i:∀{w:List rN},Mine.si (w.length==a0.length) (D<|yJ T a0 w)=D N->w.length=a0.length/\yJ T a0 w=N:=λ{w} a=>by
  cases m:w.length==a0.length with
  |false=>rw[m]at a;exact sq a
  |true=>rw[m]at a;exact⟨ei m,ak a⟩
 cases s with
 |j w=>exact⟨w,.c,i a⟩
 |c w=>exact⟨w,.h,i a⟩
 |_=>exact sq a
theorem C3{a2:ab->ai->Prop}(a:wW c.rW n a0 E)(x:ss c y T p)(d:rZ p.rP z s)(a7:up a0 E s T=D N) (e:∀Y b2,ts c p ⟨b2,Y,p.rS⟩ ->ss c y N ⟨b2,Y,p.rS⟩ ->a4 () Y):rY (sj c.sc) y (fc n c.rW.sb z) a4 a2 p.rO:=by
 cases a with
 |b h=>
  obtain rfl:=ak a7;exact toI<|pi<|Bt x h d λY b b0=>e Y _ b b0
 |a a=>
  refine tp (OB a7) λw i g j=>?_;subst j;refine uM (arm_assign_Tuple ..)<|.tz ?_;unfold unpack;refine J a.fG.1<|J a.fG.2<|sa g<|.sf<|.tD<|rY.tr (FZ x d i _ B) (λb3 m f=>?_) λ_ _ f=>nomatch f
  cases f with
  |@mk o _ _ _ _ l k=>exact toI<|Oz a k g (x.aF l) λY b b0=>e Y _ (l.bF.aM b) b0
end
structure wX(o:cj)(w:List (aj×dr))(L s:List (aj×al)):Prop where
 b:∀c h,s.lookup c=D h->o.cells.lookup c=D h
 d:∀c,(L.lookup c).isSome=true->(s.lookup c).isSome=true
 f:∀c,(c,lt)∈w->(s.lookup c).isSome=true
theorem wY{a0 b1:Type}[BEq a0](c M:a0)(h:b1)(w:List (a0×b1)):((M,h)::w).lookup c=if(c==M)=true then D h else w.lookup c:=by
 refine ae lu ?_;cases a:c==M<;>rfl
theorem OC(w:List (aj×dr)):∀(L:List (aj×al)),(∀c∈w,c.2=.free->∃h,o.cells.lookup c.1=D h) ->(∀c h,L.lookup c=D h->o.cells.lookup c=D h) -> ∃s,(forIn w L λc j=>if(c.snd==lt)=true then do
       let p<-cellOf o c.fst
       ay (js<|(c.fst,p)::j)
      else ay (js j):au (List<|aj×al))=ay s/\wX o w L s:=by
 induction w with
 |nil=>exactλL _ d=>⟨L,B,d,λ_=>id,λ_=>nofun⟩
 |cons b q k=>
  intro L S d;obtain⟨c,i⟩:=b;have l:=λM a=>S M<|br (c,i) a;rw[nk];cases g:i==.free with
  |true=>
   obtain rfl:=ei g;obtain⟨h,n⟩:=S _ bn B;obtain⟨s,a',m⟩:=k ((c,h)::L) l λM r f=>by
    rw[wY]at f;by_cases e:(M==c)=true
    ·rw[an e]at f;exact J (ei e)<|sa f n
    ·rw[am e]at f;exact d M r f
   refine⟨s,?_,m.b,λM a=>m.d M ?_,λM a=>(List.mem_cons.mp a).elim (λf=>m.d M ?_)<|m.f M⟩
   ·simp only[gs,if_true,cellOf,n];exact a'
   ·refine ae (G _<|wY ..) ?_;by_cases e:(M==c)=true
    ·refine ae (G _<|an e) ?_;rfl
    ·exact ae (G _<|am e) a
   ·refine ae (G _<|wY ..) ?_;refine ae (G _<|an<|beq_iff_eq.mpr<|G ij f) ?_;rfl
  |false=>
   refine sh (k L l d) λs a' m=>⟨s,?_,m.b,m.d,λM a=>(List.mem_cons.mp a).elim (λf=>?_)<|m.f M⟩
   ·simp only[g,mn,if_false];exact a'
   ·refine Ej f λa' b2=>?_;subst a';subst b2;exact A4 g
theorem F0(a:∀c∈a5.names,c.2=.free->∃h,o.cells.lookup c.1=D h):∃s,closureFor a5 o=ay s/\wX o a5.names [] s:=by
 obtain⟨s,a',m⟩:=OC a5.names [] a λ_ _=>sq;refine sn s (?_) m;simp only[closureFor];refine J a' ?_;rfl
theorem wX.iE(m:wX o w L s)(a:(c,lt)∈w):s.lookup c=o.cells.lookup c:=by
 exact bk (Option.isSome_iff_exists.mp<|m.f c a) λh e=>ae e<|J (m.b c h e) B
theorem yY{a0 b1:Type}[BEq a0][LawfulBEq a0]{w:List (a0×b1)}{c:a0}{i:b1}(a:w.lookup c=D i):(c,i)∈w:=by
 induction w with
 |nil=>exact sq a
 |cons b w d=>
  obtain⟨M,L⟩:=b;rw[wY]at a;by_cases e:(c==M)=true
  ·replace a:=(an e)▸a;obtain rfl:=ak a;exact J (ei e) bn
  ·rw[am e]at a;exact br _<|d a
theorem OD{a0 b1:Type}[BEq a0][LawfulBEq a0]{h:a0->b1->Bool}{g:b1}{c:a0}(w:List (a0×b1)):(w.map λ(t,i)=>if h t i then(t,g)else(t,i)).lookup c=(w.lookup c).map λi=>if h c i then g else i:=by
 induction w with
 |nil=>rfl
 |cons b w a=>
  obtain⟨M,i⟩:=b;refine ae (G _ ge)<|(?_:nl c ((if h M i=true then(M,g)else(M,i))::_)=_);refine(show(if h M i=true then(M,g)else(M,i))=(M,if h M i=true then g else i)by split<;>rfl)▸?_;refine ae (wY ..) ?_;rw[wY];refine ae (G _ a) ?_;by_cases e:(c==M)=true
  ·refine ae (an e) ?_;refine J (an e)<|J (ei e) ?_;rfl
  ·refine ae (am e) ?_;exact J (am e) B
theorem F1{o:cj}(d:o.scope.kind=.function){b:List (aj×dr)}{c:aj}(a:b.lookup c=D .free)(e:o.kindOf c=D .cell): (b.map λ(t,i)=>if(i==lt&&o.scope.kind==.function&&o.kindOf t==D .cell)then(t,jt)else(t,i)).lookup c=D .cell:=by
 rw[OD (h:=λt i=>i==lt&&o.scope.kind==.function&&o.kindOf t==D .cell)];refine ae (G _ a) ?_;refine J d<|J e ?_;rfl
section
variable{P:tT} {a5:cy} {S:List Nat} {d:Nat->Option aj} {s:List (aj×al)} {a2:al} {a7:ba}
structure yZ(P:tT)(a5:cy)(S:List Nat)(d:Nat->Option aj):Prop where
 a:a5.kind=.function
 e:∀c∈a5.names,c.2=.local->a5.names.lookup c.1=D .local
 g:∀c∈a5.names,c.2≠.cell
 b:∀c∈a5.names,c.2=.free->∃h,P.sb.cells.lookup c.1=D h
 f:∀r c,d r=D c->(a5.names.lookup c=D .local/\S.contains r=false)\/(a5.names.lookup c=D .free/\P.tq r=D c/\P.sb.kindOf c=D .cell)
 inj:∀r L c,d r=D c->d L=D c->r=L
noncomputable def xs(P:tT)(a5:cy)(d:Nat->Option aj)(s:List (aj×al))(a2:al)(a7:ba):tT:={sb:=compEnvC a5 s a2 P.sb,uZ:=P.uZ,tq:=d,wR:=P.wR,yQ:=a7,uc:=false,zz:=λ_=>False}
theorem OE(R:ty P)(E:yZ P a5 S d)(m:wX P.sb a5.names [] s)(b:∀e∈P.uZ,e.frame≠D a2):ty (xs P a5 d s a2 a7):=by
 refine⟨E.a,R.i,R.j,R.f,?_,λc M h g i=>R.k c M h (m.b c h g)<|m.b M h i,E.inj,λr c j=>(E.f r c j).imp (λf=>lookup_relabel_local f.1) λf=>⟨F1 R.d f.1 f.2.2,?_⟩⟩
 ·exact wp R.g λk l a n t o=>yf k l a n (λe p=>b e<|by refine J a ?_;exact br _ p) o
 ·exact(E.b _ (yY f.1) B).imp λh q=>(m.iE<|yY f.1).trans q
theorem OF:(xn S T)[r]?=(T[r]?).map λk=>if S.contains r then k else sm.rT:=by
 refine ae (ew) ?_;refine ae (G _<|List.getElem?_zipIdx) ?_;cases T[r]? with
 |none=>rfl
 |some k=>simp
structure OG(P:tT)(b:tT)(d:sg)(r:Nat)(c:aj)(k:sm):Prop where
 e:P.tq r=D c
 d:d[r]?=D k
 f:∀a v,to P.sb a c v↔to b.sb a c v
theorem Bu(R:ty P)(E:yZ P a5 S d)(m:wX P.sb a5.names [] s)(p:d r=D c)(i:(xn S T)[r]?=D k)(j:k≠.rT):OG P (xs P a5 d s a2 a7) T r c k:=by
 rw[OF]at i;refine sh (Option.map_eq_some_iff.mp i) λv q e=>?_;rcases E.f r c p with⟨b,g⟩|⟨b,g,h⟩
 ·rw[g]at e;exact absurd e.symm j
 ·cases l:S.contains r with
  |false=>rw[l]at e;exact absurd e.symm j
  |true=>
   rw[l]at e;obtain rfl:=e;have n:(xs P a5 d s a2 a7).sb.kindOf c=D .cell:=F1 R.d b h;exact⟨g,q,λa v=>or_congr ⟨λf=>absurd (h.symm.trans f.1) nofun,λf=>absurd (n.symm.trans f.1) nofun⟩ (and_congr ⟨λ_=>n,λ_=>h⟩ (exists_congr λo=>and_congr_left λ_=>by
    show P.sb.cells.lookup c=D o↔s.lookup c=D o;rw[m.iE<|yY b]))⟩
theorem OH(R:ty P)(E:yZ P a5 S d)(g:tA X P O a T)(m:wX P.sb a5.names [] s) (n:∃A,a.Ns a2 A)(o:O a2=.c)(p:a7.get? a2=none)(q:X.sN.StaysIn a7)(t:∀b j,a7.get? b=D j->∃b9,a.get? b=D b9):tA X (xs P a5 d s a2 a7) O a (xn S T):=by
 refine⟨⟨n,o,⟨p,id⟩,q,t,λb=>nj,λc h f=>have v:=g.Qs c h<|m.b c h f;⟨v.1,⟨v.2.1.1,tC⟩,v.2.2⟩,g.Qt,nofun⟩,λr c w i l=>?_,λr L c M j b9 b i l u x y N=>?_⟩
 ·cases w with
  |rT=>trivial
  |rL k=>
   have f:=Bu (a2:=a2) (a7:=a7) R E m i l nofun
   exact(g.C r c (.rL k) f.e f.d).imp λz v=>⟨(f.f _ _).mp v.1,v.2⟩
  |sl j=>
   have f:=Bu (a2:=a2) (a7:=a7) R E m i l nofun
   exact(g.C r c (.sl j) f.e f.d).imp λb v=>⟨(f.f _ _).mp v.1,v.2.1,⟨tC,v.2.2.1.2.1,λM e=>v.2.2.1.2.2 M<|m.b M b e⟩,v.2.2.2⟩
 ·have f:=Bu (a2:=a2) (a7:=a7) R E m i l nofun
  have v:=Bu (a2:=a2) (a7:=a7) R E m u x nofun
  exact g.F r L c M j b9 b f.e f.d v.e v.d ((f.f _ _).mpr y)<|(v.f _ _).mpr N
end
set_option genInjectivity false in
structure vd where
 ta:sL
 tL:bj
 yt:sg
 tU:sE
 xT:ag
 xt:ag
 zI:ag
 uG:cy
 Bv:bp
 zJ:List Nat
 zK:Bool
 zL:List Nat
 yu:Q
 zM:Nat->Option aj
 wf:List (aj×al)
 wZ:Option (ab->au Unit)
 yv:ab->ai->Prop
 ve:ab->ai->Prop
 vP:uh (List rN)×rR
 vf:al
 vE:al
 vn:al
 xU:ba
namespace vd
abbrev vQ(h:vd):sL:=⟨h.ta.sc,xs h.ta.rW h.uG h.zM h.wf h.vn h.xU,h.ta.t_,h.ta.vC.map λ_=>none⟩
abbrev ur(h:vd):es:=sj h.ta.sc
abbrev xV(h:vd):vv:=h.ta.sI h.tL
abbrev yw(h:vd):cs->ai->Prop:=I.yh (o:=h.ta.rW.sb) h.ur h.tL h.ve h.wZ h.yv (.ref h.vE) h.vn
abbrev zN(h:vd):ab->ai->Prop:=ui h.ur h.tL h.vQ.rW.sb λe Y=>h.yw (.error e) Y
def yx(h:vd)(s:rN)(d:rR):rQ rN:=(up h.zJ h.zK s<|xn h.zL h.yt).bind λo=>sZ h.ta h.yu o d
end vd
structure uU(h:vd):Prop where
 q:yZ h.ta.rW h.uG h.zL h.zM
 r:wX h.ta.rW.sb h.uG.names [] h.wf
 g:ss h.ta h.tL h.yt h.tU
 s:wW h.vQ.rW h.xt h.zJ h.zK
 u:sd h.vQ h.xT h.yu
 x:h.tU.rO.heap.get? h.vf=none
 k:h.tU.rO.heap.get? h.vE=none
 i:h.tU.rO.heap.get? h.vn=none
 t:h.vf≠h.vE
 l:∃j,h.xU.get? h.vf=D j
 n:∃j,h.xU.get? h.vE=D j
 o:h.xU.get? h.vn=none
 y:∀b j,h.tU.rO.heap.get? b=D j->∃b9,h.xU.get? b=D b9
 A:h.ta.sc.sN.StaysIn h.xU
 C:∀e Y,tS h.xV h.tU h.vP e Y->h.ve e Y
structure CB(h:vd)(b3:List ab)(a6:List rN)(p:sE):Prop where
 Qs:sJ h.xV h.tU p
 Qt:p.rP h.vE=.b
 Qw:p.rO.heap.PlainList h.vE b3.toArray
 Qu:tn p.rP b3 a6
 Qx:∃A,p.rO.heap.Ns h.vn A
 Qv:p.rP h.vn=.c
 Qy:∀b j,h.xU.get? b=D j->∃b9,p.rO.heap.get? b=D b9
structure AD(h:vd)(w:List rN)(b3:List ab)(a6:List rN)(p:sE):Prop extends CB h b3 a6 p where
 m:p.rP h.vf=.b
 n:ug p.rP p.rO.heap h.vf w
 s:a6.length+w.length<=1000000
 t:rQ.aC (tO h.yx w p.rS) (λV d=>sv (a6++V) d)=D h.vP
inductive C4(h:vd)(t:Nat)(l:ai):Prop
 |mk {w:List rN} {b3:List ab} {a6:List rN} {O:sw} {d:rR}:w.length=t->AD h w b3 a6 ⟨O,l,d⟩ ->C4 h t l
section
variable{h:vd} {b3:List ab} {a6 w:List rN} {b8:ct}
theorem sJ.hL{R:Option ab->Prop}(l:sJ L a p)(c:u_ L.sk R (yS a.rO.heap) p.rP p.rO.heap e i)(t:AB L.sk d (yS a.rO.heap) p.rP p.rO p.rS e i Y):sJ L a ⟨p.rP,Y,p.rS⟩:=⟨l.r.aM t.a λb j m v=>(va (m.symm.trans (c.eK v).1):False),t.b⟩
theorem tS.aO{q:uh a0×rR}{s:ab}(b:q=(.b i,d))(l:sJ L a ⟨O,Y,d⟩)(c:Cy L.Cz (D s))(g:yn L.sk s (yS a.rO.heap) O Y.heap e i):tS L a q (.ref e) Y:=by
 subst b;exact .mk l<|g.bO (λj f=>(by subst f;exact c)) λ_=>id
theorem uU.gT(a:uU h):h.vE≠h.vn:=λf=>a.n.elim λj m=>va<|(f▸m).symm.trans a.o
theorem uU.jJ(a:uU h):h.vf≠h.vn:=λf=>a.l.elim λj m=>va<|(f▸m).symm.trans a.o
theorem OI(a:uU h)(l:sJ h.xV h.tU p)(o:∃A,p.rO.heap.Ns h.vn A)(d:p.rP h.vn=.c)(k:Bf h.ta.sc h.ta.rW.wR (yS h.tU.rO.heap) p.rP p.rO.heap e i)(z:h.vP=(.b i,p.rS)):h.zN (.ref e) p.rO:=by
 refine ul a.g.l.g λE L M N v=>?_;have n:∀b,yS h.tU.rO.heap b->h.ta.sc.sN.get? b=none:=λb m=>(a.g.k.h.bH m).2;refine toI<|Bq n a.g.A a.g.l.f (uw E L M N) l.n (a.g.aF l).o.Qt k (λb=>l.r.bT) λY t=>toI<|FU ?_;obtain⟨A,q⟩:=o;have r:=(q.elim λj f=>f.elim λ_ f=>f.elim λ_ f=>t.a.eF f.1<|Cw d λv=>sY.dF d (k.eK v).2.1).hA q;have O:∀a3 a7,a3.Ns h.vn a7->cf h.vn Y.heap a3->∀c:cj,c.locals=h.vn->c.frame=h.ta.rW.sb.frame->ap h.ur h.tL (mo "comprehension.variables-let-go" (.ref e) c:au ab) (λ_ _=>False) h.ve {Y with heap:=a3}:=by
  intro a3 T P s c _ R;have u:=(l.hL k t).cV (b8:=Y.toks) a.g.k a.i (.inr d) (λg j S m=>(s.2 g S).trans m)<|(xq P).imp λj f=>f.1;have x:=t.c.aS<|AC (SameBut.eL s)<|Bs<|xq r;exact Ow n u.n x (R.trans a.g.l.f) λU y=>a.C _ _<|.aO z (u.hL x y) (.inr<|.inr B) y.c
 cases h.wZ<;>exact sn A r O
theorem CB.eR(a:uU h)(g:CB h b3 a6 p)(e:p.rP h.vf=.b)(c:∀b j,b≠h.vf->p.rO.heap.get? b=D j->a3.get? b=D j)(d:∃j,a3.get? h.vf=D j):CB h b3 a6 ⟨p.rP,{p.rO with heap:=a3,toks:=b8},p.rS⟩:=⟨g.Qs.cV a.g.k a.x (.inl e) c d,g.Qt,g.Qw.imp λt f=>c _ _ (dq a.t) f,g.Qu,g.Qx.imp λA f=>f.at' λj m=>c _ _ (dq a.jJ) m,g.Qv,λb j m=>by
  by_cases f:b=h.vf
  ·subst f;exact d
  ·exact(g.Qy b j m).imp λb9 i=>c b b9 f i⟩
theorem OJ:rQ.aC (tO u (s::w) d) (λV d=>sv (a6++V) d)=rQ.aC (u s d) λk d=>rQ.aC (tO u w d) λV d=>sv ((a6++[k])++V) d:=by
 refine rQ.bX.trans<|G _<|funext λk=>funext λd=>rQ.bX.trans<|G _<|funext λV=>funext λd=>?_;refine J (cp ..) ?_
 rfl
theorem C5(c:ug O a b7 w):∃j b0 V,a.get? b7=D j/\j.cls=.type b0/\(j.data=.fields V/\V[2]?≠D .none)/\["enumerate","zip","dict_itemiterator","dict_reverseitemiterator","odict_iterator","itertools.zip_longest","itertools.pairwise"].contains b0=false:=by
 cases c with
 |n r S=>exact S.elim λj f=>⟨j,_,_,f.1,f.2.1,⟨f.2.2,sq⟩,B⟩
 |o r S=>exact S.elim λj f=>⟨j,_,_,f.1,f.2.1,⟨f.2.2,sq⟩,B⟩
 |p r S=>exact S.elim λj f=>⟨j,_,_,f.1,f.2.1,⟨f.2.2,sq⟩,B⟩
 |s r S=>exact xk _ _ _ S B ⟨B,nofun⟩ B
theorem F2{a2:ab->ai->Prop}(c:ug O l.heap b7 w)(d:wW P n a0 E)(a:a4 () l):ap (sj X) y (km n (.ref b7) k) a4 a2 l:=by
 cases d with
 |b _=>exact as a
 |a _=>
  cases k with
  |ref b=>
   refine wq (C5 c) λj b0 V e f g i=>?_;obtain⟨a8,_⟩:=g;refine ah<|fw e ?_;refine J f<|J a8<|(?_:ap _ _ (if _=true then _ else ay ()) _ _ _);refine J i ?_;exact uL (am<|ey)<|as a
  |_=>exact as a
theorem OK{a2:ab->ai->Prop}(c:ug O l.heap b7 w)(a:a4 (.ref b7) l):ap (sj X) y (gn<|.ref b7) a4 a2 l:=by
 cases c with
 |n r S=>exact wpAny_pyIter_listiter S a
 |o r S=>exact wpAny_pyIter_tupleiter S a
 |p r S=>exact KBw.pyIter_self S a
 |s r S=>exact wpAny_pyIter_rangeiter S a
theorem F3(a:tu):(a.map λ_=>(none:Option Nat)).isSome=a.isSome:=by cases a<;>rfl
theorem AD.aL(a:uU h)(g:CB h b3 a6 p):ss h.vQ h.tL (xn h.zL h.yt) p:=by
 have x:=a.g.aF g.Qs;have b:∀e∈h.ta.rW.uZ,e.frame≠D h.vn:=λe c f=>by
  obtain⟨_,U,b9,d,_,j,_⟩:=a.g.o.Qt e c;obtain rfl:=ak<|d.symm.trans f;exact va<|j.symm.trans a.i
 refine⟨x.C,x.A,?_,x.k,OH x.l a.q x.o a.r g.Qx g.Qv a.o a.A g.Qy,x.u,OE x.l a.q a.r b,x.I,λi e=>?_⟩
 ·exact J (show h.vQ.tF=h.ta.tF from F3 _) x.F
 ·exact sq<|(Option.map_eq_some_iff.mp e).choose_spec.2
theorem uU.fE(a:uU h)(e:∃j,h.xU.get? b=D j):¬ud h.vQ.rW b:=λv=>e.elim λj m=>(sq (v.1.symm.trans m):False)
theorem CB.gX(a:uU h)(g:CB h b3 a6 p)(b:ts h.vQ p c)(o:∃A,c.rO.heap.Ns h.vn A):CB h b3 a6 c:=⟨⟨g.Qs.r.aM b.e λb j m v=>a.fE (a.y b j m) v,b.f⟩,g.Qw.elim λt f=>b.e.z _ _ f g.Qt<|a.fE a.n,g.Qw.imp λt f=>b.e.cR g.Qt (a.fE a.n) f,g.Qu.aQ b.e.y,o,(b.e.y _<|sY.dF g.Qv).trans g.Qv,λM j m=>(g.Qy M j m).elim λb9 d=>b.e.A M b9 d⟩
theorem uU.hX(a:uU h)(b:ts h.vQ p c)(d:p.rP h.vf=.b)(b7:ug p.rP p.rO.heap h.vf w):c.rP h.vf=.b/\ug c.rP c.rO.heap h.vf w:=⟨b7.cK.elim λj f=>b.e.z _ j f d<|a.fE a.l,b7.bI b.e d<|a.fE a.l⟩
theorem CB.jR(a:uU h)(g:CB h b3 a6 p)(c:cf h.vE p.rO.heap a3)(d:a3.PlainList h.vE e.toArray)(i:tn p.rP e k):CB h e k ⟨p.rP,{p.rO with heap:=a3,toks:=b8},p.rS⟩:=⟨g.Qs.cV a.g.k a.k (.inl g.Qt) (λb j l m=>(c.2 b l).trans m) ⟨_,d.choose_spec⟩,g.Qt,d,i,g.Qx.imp λA f=>f.sameBut c<|dq a.gT,g.Qv,λb j m=>by
  by_cases f:b=h.vE
  ·subst f;exact⟨_,d.choose_spec⟩
  ·exact(g.Qy b j m).imp λb9 n=>(c.2 b f).trans n⟩
theorem OL(a:uU h)(R:∀b3 a6 O l d,CB h b3 a6 ⟨O,l,d⟩ ->a6.length<=1000000->h.vP=(.a a6,d) ->h.yw (.ok .next) l){O:sw}{l:ai}{d:rR}(W:AD h w b3 a6 ⟨O,l,d⟩): rY h.ur h.tL (gq<|.ref h.vf) (λq r=>match q with
   |none=>h.yw (.ok .next) r
   |some k=>rY h.ur h.tL (km h.xt (.ref h.vf) k) (λ_ r=>rY h.ur h.tL (fc h.xt h.vQ.rW.sb k) (λ_ S=>rY h.ur h.tL (bz h.xT h.vQ.rW.sb) (λc T=>rY h.ur h.tL (aw (.builtin "list.append") [.ref h.vE,c]) (λ_ U=>∃A,A<w.length/\C4 h A U) h.zN T) h.zN S) h.zN r) h.zN r) h.zN l:=by
 cases w with
 |nil=>
  refine toI<|CQ (a.g.aF W.Qs).F.gZ W.n λa3 X Y=>R b3 a6 O _ d (W.toCB.eR (b8:=l.toks) a W.m X Y) (aa (ax ..) W.s) ?_;have e:=W.t;rw[show rQ.aC _ (λV d=>sv (a6++V) d)=sv (a6++[]) d from B,dh]at e;exact(ak e).symm
 |cons s w=>
  have e:=W.t;have e:=OJ▸e;refine toI<|CO W.m W.n λk a3 b8 a0 x b7=>?_;have g:=W.toCB.eR (b8:=b8) a W.m (λb j a1 m=>(x.2 b a1).trans m) b7.cK;refine toI<|F2 b7 a.s ?_;cases a7:up h.zJ h.zK s _ with
  |none=>
   have e:=(show h.yx s d=none by unfold vd.yx;refine J a7 ?_;rfl)▸e;exact sq e
  |some N=>
   have e:=(show h.yx s d=sZ h.vQ h.yu N d by unfold vd.yx;refine J a7 ?_;exact(G (λg=>tj _ g h.yu N d)<|F3 h.ta.vC).symm)▸e;refine C3 a.s (AD.aL a g) a0 a7 λx a2 b t=>?_;have y:=g.gX a b t.o.Qu;have E:=a.hX b W.m b7;have P:=a.u h.tL N ⟨a2,x,d⟩ t;cases u:sZ h.vQ h.yu N d with
   |none=>have e:=u▸e;exact sq e
   |some m=>
    rw[u]at e;obtain⟨j,b0⟩:=m;cases j with
    |a b1=>
     refine rY.tr (P _ u) (λv p f=>?_) λ_ _ f=>f.aI;cases f with
     |@mk L _ _ _ _ l a4=>
      have n:=y.gX a l.bF (t.o.bI l.r .aI).Qu;have M:=a.hX l.bF E.1 E.2;have o:=W.s;have o:=il▸o;refine toI<|CZ (X:=h.ta.sc) (O:=L) (U:=a6) (tv b3 n.Qw n.Qu<|by refine J n.Qu.aY ?_;exact aa (ax ..)<|aa o<|af ..) a4 (aa (ax ..) o) λb2 z b4 a5=>?_;refine tp a5 λb5 a8 a9 v=>sn w.length (fz _)<|.mk B ⟨n.jR (b8:=p.toks) a z a8 a9,M.1,M.2.aS (λ_ _=>B) (λj m=>(z.2 _ a.t).trans m) λb k j q m=>(z.2 b λf=>sY.cG q<|J f n.Qt).trans m,?_,e⟩;refine J bm ?_;rw[bf];exact J (bh _ w.length) o
    |b i=>
     refine rY.tr (P _ u) (λ_ _ f=>f.aI) λc0 p f=>?_;cases f with
     |@mk L _ _ b6 _ l a'=>
      have n:=y.gX a l.bF (t.o.bI l.r .aI).Qu;exact OI a n.Qs n.Qx n.Qv (a'.bO (λ_=>id) λb=>y.Qs.r.bT) (ak e).symm
theorem OM(a:uU h)(b:∀b3 a6 O l d,CB h b3 a6 ⟨O,l,d⟩ ->a6.length<=1000000->h.vP=(.a a6,d) ->h.yw (.ok .next) l)(W:C4 h t l): sV h.ur h.tL (.compLoop (.ListComp h.xT [⟨h.xt,h.zI,[],0⟩] h.uG h.Bv) 0 (.ref h.vf) (.ref h.vE) h.vQ.rW.sb) h.yw l:=I.IV _ (λt l W=>by
  cases W with
  |mk c W=>subst c;exact OL a b W) t W
noncomputable abbrev vd.zO(h:vd)(b1 b4 a2:al)(a:ba):vd:={h with vf:=b1,vE:=b4,vn:=a2,xU:=a}
theorem sQ.gL(b1:tx X O a d)(c:∀g j,a.get? g=D j->a3.get? g=D j)(e:a.get? b=none)(q:sY):sQ Ar O a (O.aU b q) a3:=(sQ.cY b1 c).aM (d:=λg=>g=b) (sQ.fM (b1.cY c) (b1.bH e).1 B) λg j m f=>(va (((G a.get? f).symm.trans m).symm.trans e):False)
theorem F4(x:ss h.ta h.tL h.yt h.tU)(E:yZ h.ta.rW h.uG h.zL h.zM)(m:wX h.ta.rW.sb h.uG.names [] h.wf)(M:∀a2 a7,wW (xs h.ta.rW h.uG h.zM h.wf a2 a7) h.xt h.zJ h.zK)(a7:∀b1 b4 a2 a,sd (h.zO b1 b4 a2 a).vQ h.xT h.yu) (N:∀e Y,tS h.xV h.tU h.vP e Y->h.ve e Y)(P:rZ h.tU.rP z k)(R:tN k=D w)(S:w.length<=1000000)(T:tO h.yx w h.tU.rS=D h.vP) (U:∀b1 b4 a2 a,uU (h.zO b1 b4 a2 a) ->∀b3 a6 O l d,CB (h.zO b1 b4 a2 a) b3 a6 ⟨O,l,d⟩ ->a6.length<=1000000->h.vP=(.a a6,d) ->(h.zO b1 b4 a2 a).yw (.ok .next) l): rY h.ur h.tL (gn z) (λb7 c=>rY h.ur h.tL (newList []) (λV X=>rY h.ur h.tL (kk h.uG h.ta.rW.sb.globals h.wf [] h.ta.rW.sb.qual none .none<|D h.ta.rW.sb) (λq a0=>q.frame=h.ta.rW.sb.frame/\sV h.ur h.tL (.compStart (.ListComp h.xT [⟨h.xt,h.zI,[],0⟩] h.uG h.Bv) 0 b7 V {q with scope:=gp h.uG h.ta.rW.sb}) (I.yh (o:=h.ta.rW.sb) h.ur h.tL h.ve h.wZ h.yv V q.locals) a0) h.ve X) h.ve c) h.ve h.tU.rO:=by
 have a1:=CR (L:=h.xV) x.k P;refine rY.tr ((R▸a1) _ B) (λb7 c f=>?_) λ_ _ f=>f.aI;cases f with
 |@mk O _ _ _ _ l a3=>
  refine wo a3.a λr a4 a5 a8 s=>?_;subst a4;refine toI<|ej ?_<|cc _;have i:=l.aM<|sJ.dK l.n {cls:=.type "list",dict:=none,data:=.seq ([]).toArray};have t:=cl c.heap (o:={cls:=.type "list",dict:=none,data:=.seq ([]).toArray}) B;have y:=s.cK.imp λj m=>cg {cls:=.type "list",dict:=none,data:=.seq ([]).toArray} m;have a9:=s.cK.elim λj m=>et<|eg m;have a':ug O (c.heap.push {cls:=.type "list",dict:=none,data:=.seq ([]).toArray}) r w:=s.aS (λ_ _=>B) (λj m=>cg _ m) λb k j _ m=>cg _ m;refine toI<|wpAny_newFunctionEnv E.g nofun (λo v A=>⟨B,?_⟩) E.a
  dsimp only at v A⊢
  generalize b6:c.heap.push {cls:=.type "list",dict:=none,data:=.seq ([]).toArray}=a at*
  have n:∀g b9,a.get? g=D b9->o.get? g=D b9:=λg b9 e=>(A.2 g<|et<|eg e).trans<|cg _ e;have p:=uW a;have b0:=v.elim λj f=>f.elim λ_ f=>f.elim λ_ f=>(⟨j,f.1⟩:∃j,o.get? a.objs.size=D j)
  have u:=i.n.h.bH p;have b2:=et<|eg t;have b5:=y.elim λj f=>et<|eg f;have L:uU (h.zO r c.heap.objs.size a.objs.size a):=⟨E,m,x,M _ _,a7 _ _ _ _,a5,l.r.bT<|uW _,i.r.bT p,a9,y,⟨_,t⟩,p,λb j e=>i.r.A b j e,i.n.h.C,N⟩
  have g:CB (h.zO r c.heap.objs.size a.objs.size a) [] [] ⟨O.aU a.objs.size .c,{c with heap:=o,toks:=c.toks},h.tU.rS⟩:=⟨i.aM ⟨sQ.gL i.n.h n p .c,i.n.dE<|b0.elim λj f=>(i.n.h.cY n).cS (q:=.c) u.1 f u.2 trivial⟩,(sw.bR _ _ b2).trans l.n.bT,⟨0,n _ _ t⟩,.n,⟨_,v⟩,sw.cC ..,λb j e=>⟨j,n b j e⟩⟩
  have W:AD _ w [] [] ⟨O.aU a.objs.size .c,{c with heap:=o,toks:=c.toks},h.tU.rS⟩:=⟨g,(sw.bR _ _ b5).trans a8,a'.aS (Aq u.1) (λj m=>n _ _ m) λb k j _ m=>n _ _ m,by refine J List.length_nil<|J (bt ..) ?_;exact S,rQ.fY.trans T⟩
  exact I.IU (OM L (U _ _ _ _ L)<|.mk B W)<|OK W.n ⟨B,B⟩
theorem ON(a:uU h)(g:CB h b3 a6 ⟨O,l,d⟩)(i:a6.length<=1000000)(k:h.wZ=none)(n:∀b4 Y,tB h.xV h.tU (λo=>rZ o.rP) (.a<|.c a6,d) b4 Y->h.yv b4 Y):h.yw (.ok .next) l:=by
 show I.yh _ _ _ h.wZ _ _ _ _ _;refine J k ?_;obtain⟨A,p⟩:=g.Qx;refine sn A p<|λa3 a7 q c=>n _ _ ?_;refine bk g.Qw λt r=>?_;have e:=(c.2 h.vE a.gT).trans r;exact .cW a.g.k (g.Qs.cV (b8:=l.toks) a.g.k a.i (.inr g.Qv) (λb j s m=>(c.2 b s).trans m)<|(xq q).imp λj f=>f.1) a.k g.Qt e<|tv b3 ⟨t,e⟩ g.Qu<|by exact J g.Qu.aY<|aa i<|af ..
end
section
variable{c:sL} {j i U:ag} {a5:cy} {a0:List Nat} {E:Bool} {S:List Nat} {b7 b':Q} {o:Nat->Option aj}
structure AE(c:sL)(j i U:ag)(a5:cy)(a0:List Nat)(E:Bool)(S:List Nat)(b7 b':Q)(o:Nat->Option aj):Prop where
 a:yZ c.rW a5 S o
 d:sd c U b7
 e:∀k,mp U c.rW.sb k=ay k
 f:∀s a2 b,wW (xs c.rW a5 o s a2 b) i a0 E
 b:∀s a2 b,sd ⟨c.sc,xs c.rW a5 o s a2 b,c.t_,c.vC.map λ_=>none⟩ j b'
theorem F5(e:((tN k).bind λw=>si (tQ w.length)<|rQ.aC (tO u w d) λV d=>sv (.c V) d)=D q): ∃w a,tN k=D w/\w.length<=1000000/\tO u w d=D a/\rQ.aC (D a) (λV d=>sv (rN.c V) d)=D q:=by
 cases g:tN k with
 |none=>have e:=g▸e;exact sq e
 |some w=>
  rw[g]at e;have e:si _ (rQ.aC _ λV d=>sv _ d)=D q:=e;cases b:tQ w.length with
  |false=>have e:=b▸e;exact sq e
  |true=>
   rw[b]at e;have e:(rQ.aC _ λV d=>sv _ d)=D q:=e;cases f:tO u w d with
   |none=>rw[f]at e;exact sq e
   |some a=>rw[f]at e;exact yf w a B (vJ b) f e
theorem OO{h:vd}(x:ss h.ta h.tL h.yt h.tU)(a:AE h.ta h.xT h.xt h.zI h.uG h.zJ h.zK h.zL b7 h.yu h.zM)(m:wX h.ta.rW.sb h.uG.names [] h.wf)(n:rZ h.tU.rP z k)(p:tN k=D w)(q:w.length<=1000000)(r:tO h.yx w h.tU.rS=D h.vP) (s:h.wZ=none)(t:∀e Y,tS h.xV h.tU h.vP e Y->h.ve e Y)(u:∀a6 d,h.vP=(.a a6,d) ->∀b4 Y,tB h.xV h.tU (λv=>rZ v.rP) (.a<|.c a6,d) b4 Y->h.yv b4 Y): rY h.ur h.tL (gn z) (λb7 y=>rY h.ur h.tL (newList []) (λV A=>rY h.ur h.tL (kk h.uG h.ta.rW.sb.globals h.wf [] h.ta.rW.sb.qual none .none<|D h.ta.rW.sb) (λb L=>b.frame=h.ta.rW.sb.frame/\sV h.ur h.tL (.compStart (.ListComp h.xT [⟨h.xt,h.zI,[],0⟩] h.uG h.Bv) 0 b7 V {b with scope:=gp h.uG h.ta.rW.sb}) (I.yh (o:=h.ta.rW.sb) h.ur h.tL h.ve h.wZ h.yv V b.locals) L) h.ve A) h.ve y) h.ve h.tU.rO:=F4 x a.a m (a.f h.wf) (λb1 b4 a2 f=>a.b h.wf a2 f) t n p q r λb1 b4 a2 f M b3 a6 O l d g N e=>ON M g N s<|u a6 d e
theorem OP(l:sJ L p a)(g:rQ.aC (D h) (λV d=>sv (rN.c V) d)=D q)(e:ab)(Y:ai)(f:tS L a h e Y):tS L p q e Y:=by
 cases f with
 |mk b k=>obtain rfl:=ak g;exact(tS.mk b k).bB l
theorem OQ(l:sJ L p b)(g:rQ.aC (D h) (λV d=>sv (rN.c V) d)=D q)(a6:List rN)(d:rR)(e:h=(.a a6,d))(b4:ab)(Y:ai)(f:tB L b (λa=>rZ a.rP) (.a<|.c a6,d) b4 Y):tB L p (λa=>rZ a.rP) q b4 Y:=by
 subst e;obtain rfl:=ak g;exact f.bB l
theorem OR(a:AE c j i U a5 a0 E S b7 b' o):sd c (.ListComp j [⟨i,U,[],0⟩] a5 b6) (.o a0 E S b7 b'):=λy T p x=>by
 refine sh (F0 a.a.b) λs g m=>J (eval_ListComp ..) ((a.d y T p x).dM (R:=λz a4 a2 l=>rY (sj c.sc) y (gn z) (λb7 h=>rY (sj c.sc) y (newList []) (λV n=>rY (sj c.sc) y (kk a5 c.rW.sb.globals s [] c.rW.sb.qual none .none<|D c.rW.sb) (λb r=>b.frame=c.rW.sb.frame/\sV (sj c.sc) y (.compStart (.ListComp j [⟨i,U,[],0⟩] a5 b6) 0 b7 V {b with scope:=gp a5 c.rW.sb}) (I.yh (sj c.sc) y a2 none a4 V b.locals) r) a2 n) a2 h) a2 l) (λa4 a2 f=>I.Ep B a.e g a.a.a a.a.e f) λz k t l u _ q e=>?_);exact wp (F5 e) λw v A L M d=>OO (h:=⟨c,y,T,t,j,i,U,a5,b6,a0,E,S,b',o,s,none,tB _ p (λN=>rZ N.rP) q,tS _ p q,v,0,0,0,p.rO.heap⟩) (x.aF l) a m u A L M B (OP l d)<|OQ l d
end
inductive uI(c:sL)(y:bj)(p:sE):tR×sg×rR->dc->ai->Prop
 |e {N:sg} {b2:sw} {Y:ai} {a9:rR}:ts c p ⟨b2,Y,a9⟩ ->ss c y N ⟨b2,Y,a9⟩ ->uI c y p (.sS,N,a9) .next Y
 |j {N:sg} {b2:sw} {Y:ai} {a9:rR}:ts c p ⟨b2,Y,a9⟩ ->ss c y N ⟨b2,Y,a9⟩ ->uI c y p (.Am,N,a9) .cont Y
 |h {N:sg} {b2:sw} {Y:ai} {a9:rR} {z:ab} {k:rN}:ts c p ⟨b2,Y,a9⟩ ->rZ b2 z k->uI c y p (.wM k,N,a9) (.ret z) Y
inductive uB(R:Option ab->Prop)(c:sL)(p:sE):tR×sg×rR->ab->ai->Prop
 |mk {N:sg} {b2:sw} {Y:ai} {a9:rR} {e:al} {h:Nat}:ts c p ⟨b2,Y,a9⟩ ->tA c.sc c.rW b2 Y.heap N->u_ c.sc R (ud c.rW) b2 Y.heap e h->uB R c p (.uu h,N,a9) (.ref e) Y
abbrev vh(c:sL):sE->tR×sg×rR->ab->ai->Prop:=uB (Cy c.rW.wR) c
abbrev zP(c:sL):sE->tR×sg×rR->ab->ai->Prop:=uB (λj=>j=D (ev c.rW.wR)) c
def uv(c:sL)(y:bj)(p:sE)(n:au dc)(A:rV):Prop:=∀q,A=D q->rY (sj c.sc) y n (uI c y p q) (vh c p q) p.rO
theorem xW(a:n=z)(f:uv c y p z A):uv c y p n A:=J a f
abbrev uC(c:sL)(A:sp)(T:sg)(d:rR):rV:=vV (td c.t_) c.vC A T d
def sB(c:sL)(E:be)(A:sp):Prop:=∀y T p,ss c y T p->uv c y p (exec E c.rW.sb) (uC c A T p.rS)
def uJ(c:sL)(a1:List be)(A:sp):Prop:=∀y T p,ss c y T p->uv c y p (du a1 c.rW.sb) (uC c A T p.rS)
section
variable{c:sL} {y:bj} {T N:sg} {p:sE} {b4:sE->b1->a0->Prop} {q:tR×sg×rR} {R:Option ab->Prop} {A:rV} {n:au dc}
theorem uI.bB(b:ts c p d)(g:uI c y d q u Y):uI c y p q u Y:=by
 cases g with
 |e g x=>exact .e (b.aM g) x
 |j g x=>exact .j (b.aM g) x
 |h g a=>exact .h (b.aM g) a
theorem uB.bB(b:ts c p a)(g:uB R c a q e Y):uB R c p q e Y:=by
 cases g with
 |mk g u d=>exact .mk (b.aM g) u d
theorem uv.aE:uv c y p n none:=λ_=>nofun
theorem uv.bN(b:ts c p d)(a:uv c y d n A)(q:tR×sg×rR)(e:A=D q):rY (sj c.sc) y n (uI c y p q) (vh c p q) d.rO:=(a q e).tr (λ_ _=>.bB b) λ_ _=>.bB b
theorem uv.aT(a:uv c y p (u ()) A):uv c y p (hd b6>>=u) A:=λq e=>(a q e).tz
theorem tA.dR(e:Fb X P O a)(b:al)(m:a.get? b=.none):ud P b:=by
 refine⟨?_,λf=>(e.Qz b f).elim λj d=>nomatch m.symm.trans d⟩;cases f:P.yQ.get? b with
 |none=>rfl
 |some j=>exact(e.Qy b j f).elim λb9 d=>nomatch m.symm.trans d
theorem tS.bF{q:uh a0×rR}(a:q=(.b h,d))(x:ss c y T p)(f:tS (c.sI y) p q e Y):vh c p (.uu h,T,d) e Y:=by
 cases f with
 |mk b g=>cases a;exact .mk b.bF (x.aF b).o<|g.bO (λ_=>id)<|tA.dR x.o.toFb
theorem so.toS{n:au b1}{A:rQ a0}{b':a0->rR->rV}{a4:b1->ai->Prop}(a:so (c.sI y) p n b4 A)(x:ss c y T p)(e:rV.aN A T b'=D q)(j:∀k s i,sJ (c.sI y) p i->b4 i k s->b' s i.rS=D q->a4 k i.rO) (l:∀e Y,vh c p q e Y->m e Y):rY (sj c.sc) y n a4 m p.rO:=by
 revert a e
 exact E8 (λ_ e=>sq e) (λh d a e=>rY.tr (a _ B) (λ_ _ f=>f.aI) λc0 Y f=>l c0 Y<|sa (ak e)<|f.bF B x) (λs d a e=>rY.tr (a _ B) (λk Y f=>by cases f with|@mk b2 _ _ _ _ b g=>exact j k s ⟨b2,Y,d⟩ b g e) λ_ _ f=>f.aI) A
theorem so.cX{n:au b1}{u:b1->au dc}{A:rQ a0}{b':a0->rR->rV}(a:so (c.sI y) p n b4 A)(x:ss c y T p)(i:∀k s b,sJ (c.sI y) p b->b4 b k s->uv c y b (u k) (b' s b.rS)):uv c y p (n>>=u) (rV.aN A T b'):=λq e=>.sf<|a.toS x e (λk s b l d e=>(i k s b l d).bN l.bF q e) λ_ _=>id
inductive C6(c:sL)(y:bj)(p:sE)(N:sg)(a9:rR)(Y:ai):Prop
 |mk {b2:sw}:ts c p ⟨b2,Y,a9⟩ ->ss c y N ⟨b2,Y,a9⟩ ->C6 c y p N a9 Y
theorem uv.fS{n:au Unit}(a:∀a2,rY (sj c.sc) y n (λ_ Y=>C6 c y p N a9 Y) a2 p.rO):uv c y p (n>>=λ_=>ay .next) (D (.sS,N,a9)):=λq e=>by
 obtain rfl:=ak e;exact .sf<|(a _).uE λ_ Y f=>by cases f with|mk b x=>exact .sF<|.e b x
theorem OS{A:sp}{E:be}(S:sB c E A)(i:uJ c a1 g):uJ c (E::a1) (.c A g):=λy T p x q e=>by
 refine uM (pj ..) ?_;have e:rV.aF (uC c A T p.rS) (λo d=>uC c g o d)=D q:=e;cases a:uC c A T p.rS with
 |none=>have e:=a▸e;exact sq e
 |some m=>
  replace e:=a▸e;refine .sf<|(S y T p x m a).tr (λu h f=>?_) λc0 h f=>?_
  ·cases f with
   |@e N b2 _ a9 b b0=>exact(i y N ⟨b2,h,a9⟩ b0).bN b q e
   |j b b0=>obtain rfl:=ak e;exact .sF<|.j b b0
   |h b j=>obtain rfl:=ak e;exact .sF<|.h b j
  ·cases f with
   |mk b u k=>obtain rfl:=ak e;exact .mk b u k
theorem C7(R:ty c.rW):interactive c.rW.sb=false:=by unfold interactive;refine J R.d ?_;rfl
set_option backward.match.sparseCases false in
noncomputable def vz:ag->Bool
 |.ListComp ..|.SetComp ..|.DictComp ..=>false
 |_=>true
theorem w_{n:ag}(a:vz n=true):swapsWith n j w o=ay false:=by
 cases n<;>first|rfl|exact tC a
variable{n:ag} {e:Q} {b:List be}
theorem OT(a:sd c n e)(d:vz n=true):sB c (.Expr n b6) (.e e):=λy T p x=>by
 exact xW (exec_Expr _ _ _ (C7 x.l)<|w_ d)<|.aT<|(a y T p x).cX x λk s f l g q e=>sa (ak e)<|toI<|pk<|.e (.aX l.n)<|x.aF l
theorem OU(a:vc c.rW M r)(d:sd c n e)(f:vz n=true):sB c (.Assign [.Name M a6] n b6) (.a r e):=λy T p x=>by
 exact xW (exec_Assign_Name _ _ _ _ _<|w_ f)<|.aT<|(d y T p x).cX x λk s h l g=>.aT<|.fS λa2=>toI<|nm<|Bt (x.aF l) a g λY b b0=>.mk b b0
theorem OV(a:sd c n e):sB c (.Return (D n) b6) (.d e):=λy T p x=>by
 exact xW (exec_Return_some ..)<|.aT<|(a y T p x).cX x λk s f l d q e=>sa (ak e)<|.sF<|.h (.aX l.n) d
theorem OW:sB c (.Continue b6) .E:=λy T p x=>by
 exact xW (arm_exec_Continue ..)<|.aT λq e=>sa (ak e)<|.sF<|.j (.aX x.k) x
theorem F6:rV.aN (sZ c e T d) T (λk d=>(sP k).bind λh=>b' h d)=rV.aN (vm c e T d) T b':=by
 show _=rV.aN (rQ.aC (sZ c e T d) λk d=>se (sP k) d) T b'
 match sZ c e T d with
 |none=>rfl
 |some (.b h,d)=>rfl
 |some (.a k,d)=>
  refine(?_:(sP k).bind _=rV.aN (se (sP k) d) T b');cases sP k<;>rfl
theorem OX(i:uk c n e)(j:uJ c b a)(a7:uJ c g a8):sB c (.If n b g b6) (.b e a a8):=λy T p x=>by
 refine xW (exec_If ..) ?_;refine(show uC c (.b e a a8) T p.rS=_ from F6 (b':=λh d=>bif h then uC c a T d else uC c a8 T d))▸(.aT<|(i y T p x).cX x λh s f l k=>?_);subst k;cases h
 ·exact a7 y T f<|x.aF l
 ·exact j y T f<|x.aF l
theorem uB.dB{e:ab}{a2:ab->ai->Prop}{n:ab->au Unit}(a:uB R c p q e Y) (i:∀{O l d e h},(∀b,ud c.rW b->c.sc.sN.get? b=.none) ->sA c.sc O l d->Fb c.sc c.rW O l.heap->u_ c.sc R (ud c.rW) O l.heap e h->(∀Y,AB c.sc j (ud c.rW) O l d e h Y->a4 () Y) ->ap (sj c.sc) y (n<|.ref e) a4 a2 l) (k:∀f,uB j c p q e f->a4 () f):ap (sj c.sc) y (n e) a4 a2 Y:=by
 cases a with
 |mk b u g=>exact i (λ_=>u.toFb.fA) b.f u.toFb g λf t=>k f<|.mk ⟨b.e.eX t.a λ_ v=>(g.eK v).1,t.b⟩ (u.bI t.a<|u.gS g) t.c
theorem uB.gW{e:ab}(a:vh c p q e Y)(g:ty c.rW)(i:y.frames=D c.rW.uZ)(j:o.frame=c.rW.sb.frame){a2:ab->ai->Prop}(k:∀d,zP c p q e d->a2 e d):ui (sj c.sc) y o a2 e Y:=toI<|a.dB (n:=λe=>fb e o) (λl r h s m=>Bq l i (j.trans g.f) (g.g.elim λt f=>f.elim λu f=>uw t u f.1 f.2.1) r h.Qt s (tA.dR h) m) λd f=>toI<|FU<|k d f
theorem uB.bO{d:Option ab->Prop}(i:∀j,R j->d j){e:ab}{Y:ai}(a:uB R c p q e Y):uB d c p q e Y:=by
 cases a with
 |mk b u f=>exact .mk b u<|f.bO i λ_=>id
theorem zP.cA{e:ab}(a:zP c p q e Y):vh c p q e Y:=a.bO λj f=>J f<|.inr<|.inr B
theorem F7{e:al}{s:ab}{a2:ab->ai->Prop}(f:yn X s b7 O l.heap e h)(a:∀b0,a4 (.ref b0) l):ap (sj X) y (field (.ref e) 1) a4 a2 l:=by
 refine wp f.z λj V g o i d=>?_;generalize m:V[1]?=k at d
 cases d with
 |b M=>exact sq M
 |a=>exact cq g i m<|a _
theorem F8{e:ab}{a2:ab->ai->Prop}(h:ty c.rW)(a:zP c p q e Y):ap (sj c.sc) y (Af c.rW.sb e) (λ_ d=>vh c p q e d) a2 Y:=a.dB (λi j k g m=>by
  refine ah<|F7 g λb0=>gc ?_;refine J (am<|ey)<|J h.f ?_;exact zG i j g λY t=>m Y t) λd f=>zP.cA f
abbrev vA(c:sL)(y:bj)(p:sE)(q:tR×sg×rR)(m:cs)(Y:ai):Prop:=match m with
 |.ok u=>uI c y p q u Y
 |.error e=>zP c p q e Y
theorem F9{a:sE}(d:ty c.rW)(a8:xl h=false)(g:sV (sj c.sc) y h (vA c y p q) a.rO):rY (sj c.sc) y (om h c.rW.sb) (uI c y p q) (vh c p q) a.rO:=by
 refine I.IZ a8<|g.aQ λm Y f=>?_;cases m with
 |ok u=>exact f
 |error e=>exact F8 d f
inductive F'(c:sL)(y:bj)(p:sE)(q:tR×sg×rR)(e:Q)(A:sp)(i:Nat)(l:ai):Prop
 |mk {O:sw} {d:rR} {T:sg}:ts c p ⟨O,l,d⟩ ->ss c y T ⟨O,l,d⟩ ->An (λo d=>sZ c e o d) (λo d=>uC c A o d) i T d=D q->F' c y p q e A i l
theorem vA.bB(b:ts c p a)(g:vA c y a q m Y):vA c y p q m Y:=by
 cases m with
 |ok u=>exact uI.bB b g
 |error e=>exact uB.bB b g
theorem F_{W:Nat->ai->Prop}{P:cs->ai->Prop}(o:y.frames=D c.rW.uZ)(r:ty c.rW)(k:∀m Y,vA c y p q m Y->P m Y)(a:uv c y p (du g c.rW.sb) A)(e:rV.bM A b'=D q) (l:∀N d,ts c p d->ss c y N d->b' N d.rS=D q->∃A,A<i/\W A d.rO):rY (sj c.sc) y (du g c.rW.sb) (A9 W P i) (ui (sj c.sc) y c.rW.sb λe Y=>P (.error e) Y) p.rO:=by
 cases h:A with
 |none=>have e:=h▸e;exact sq e
 |some m=>
  replace e:=h▸e;refine(a m h).tr (λu j f=>?_) λc0 j f=>?_
  ·cases f with
   |@e N b2 _ a9 a5 b0=>exact l N ⟨b2,j,a9⟩ a5 b0 e
   |@j N b2 _ a9 a5 b0=>exact l N ⟨b2,j,a9⟩ a5 b0 e
   |h a5 s=>obtain rfl:=ak e;exact k _ _<|.h a5 s
  ·cases f with
   |mk a5 u t=>obtain rfl:=ak e;exact uB.gW (.mk a5 u t) r o B λv f=>k _ _ f
theorem OY(m:uk c n e)(a7:uJ c g a8):sB c (.While n g [] b6) (.r i e a8):=λy T p x=>by
 refine xW (exec_While ..) ?_;refine .aT λq a=>F9 x.l B<|I.IX (F' c y p q e a8) (λi l W=>?_) i<|.mk (.aX x.k) x a;cases W with
 |@mk O d T b j a=>
  cases i with
  |zero=>exact sq a
  |succ i=>
   have a:rV.aN (vm c e T d) T (λh d=>bif h then rV.bM (uC c a8 T d)<|An (λo d=>sZ c e o d) (λo d=>uC c a8 o d) i else D (.sS,T,d))=D q:=ae F6.symm a;refine(m y T _ j).toS j a (λh s r l t a=>?_) λc0 Y f=>(f.bB b).gW x.l x.A B λu f=>f;subst t;have k:=b.aM l.bF;cases h with
   |false=>obtain rfl:=ak a;exact toI<|kn<|uI.e k<|j.aF l
   |true=>exact F_ x.A x.l (λ_ _=>vA.bB k) (a7 y T r<|j.aF l) a λN v a5 b0 a=>sn i (fz i)<|.mk (k.aM a5) b0 a
end
inductive ux(X:s_)(E p:sE)(A:sC):ab->Prop
 |mk {b:al}:E.rO.heap.get? b=none->p.rP b=.b->tf X p.rP p.rO.heap b A->ux X E p A (.ref b)
section
variable{s:rN} {A:sC}
theorem so.fI{b4:sE->b1->a0->Prop}{a1:sE->b1->a9->Prop}{n:au b1}{A:rQ a0}{x:a0->rR->rQ a9}(a:so L p n b4 A)(i:∀k s b,sJ L p b->b4 b k s->∀q,x s b.rS=D q->tB L p a1 q k b.rO):so L p n a1 (rQ.aC A x):=a.dM (λ_ _ f=>f) λk s b l c _=>i k s b l c
theorem tf.fT{X:s_}{O:sw}{a:ba}{b:al}(c:tf X O a b A):∃j,a.get? b=D j:=c.cJ.imp λj f=>f.1
theorem tB.fP(d:sA L.sk p.rP p.rO p.rS)(l:sJ L p a)(t:ux L.sk p a A z):xp L p rZ (.a<|.b a.rS.length,a.rS++[A]) z a.rO:=by
 cases t with
 |@mk b c q j=>
  exact bk j.fT λh e=>.mk (b2:=a.rP.aU b<|.d a.rS.length) ⟨l.r.aM (d:=λg=>g=b) (sQ.fM l.n.h q B) λg m f v=>(va (((G p.rO.heap.get? v).symm.trans f).symm.trans c):False),l.n.h.jB q e (d.h.bH c).2 j,l.n.m,l.n.o⟩<|sn b B<|sw.cC ..
theorem Ga{b8:ct}(c:sA L.sk p.rP p.rO p.rS)(a:tf L.sk p.rP (p.rO.heap.push j) p.rO.heap.objs.size A):tB L p (λd z A=>ux L.sk p d A z) (.a A,p.rS) (.ref p.rO.heap.objs.size) {p.rO with heap:=p.rO.heap.push j,toks:=b8}:=.mk (.cU c λb m e=>cg _ e)<|.mk (uW _) c.bT a
theorem Bw(a:uF c U W)(i:U.length<=1000)(x:ss c y T p):so (c.sI y) p (bz (.List U b6) c.rW.sb) (λj z a6=>ux c.sc p j (.sr a6) z) (vN c W T p.rS):=by
 refine sa (rQ.fY (A:=vN c W T p.rS))<|.aT<|(zE a y T p x).aC λb3 a6 k l d q e=>?_;have w:=d.2▸i;obtain rfl:=ak e;refine toI<|ej ?_<|aa w<|by refine sa ch ?_;decide
 have f:=Ga (b8:=k.rO.toks) (A:=.sr a6) l.n<|tv b3 ⟨0,cl _ B⟩ d.1<|aa w<|sz B;cases f with|mk b g=>cases g with|mk g h N=>exact .mk b<|.mk (l.r.bT g) h N
theorem Gb(x:ss c y T p):so (c.sI y) p (bz (.Dict [] [] b6) c.rW.sb) (λa z A=>ux c.sc p a A z) (sv (.tw []) p.rS):=by
 refine As (eval_Dict_empty ..) ?_;exact .aT<|.aJ λa2=>ej (Ga x.k ⟨(tv [] (Heap.DictOf.new _) .n<|cc _)⟩)<|cc _
theorem OZ{a0:Type}{k:a0}:(bi i [k]).flatten=bi i k:=by
 induction i with
 |zero=>rfl
 |succ i a=>(refine ae (G _ List.replicate_succ) ?_;refine ae List.flatten_cons ?_;refine ae (G _ a) ?_);rfl
theorem Gc(h:yV c n e)(o:sd c r E)(x:ss c y T p):so (c.sI y) p (bz (.BinOp (.List [n] a6) .Mult r b6) c.rW.sb) (λu z a6=>ux c.sc p u (.sr a6) z) (rQ.aC (sZ c e T p.rS) λk d=>rQ.aC (sZ c E T d) λt d=>se (Ai k t) d):=by
 refine As (eval_BinOp ..) ?_;refine(CX (x:=λa6 d=>yX a6 λk=>rQ.aC (sZ c E T d) λt d=>se (Ai k t) d))▸(Bw (vw.c h .n) (di B) x).aC λz a6 w l t=>?_;cases t with
 |@mk b M q j=>match a6,j with
  |[],_=>exact .aE
  |[s],j=>exact(o y T w<|x.aF l).aZ.aC λv m P f L=>.aT (.dN (.bK L λi b8=>.cF λg=>.aJ λa2=>E' (j.cR f.r q id) (Bool.and_eq_true_iff.mpr ⟨bd<|by refine J (ju ..) ?_;exact Int.toNat_le.mpr<|av (tk g).2,g⟩) λN O a=>.mk (.cU f.n λb m e=>cg _ e)<|.mk ((l.aM f).r.bT<|uW _) f.n.bT<|sa OZ a))
  |_::_::_,_=>exact .aE
theorem O0(b:yV c n e)(f:sd c g E):sd c (.BinOp (.List [n] a6) .Mult g b6) (.dJ e E):=λy T p x=>by
 have a:=(Gc (b6:=b6) (a6:=a6) b f x).fI (a1:=λp=>rZ p.rP) (x:=λV d=>sv (.b d.length)<|d++[.sr V]) λz a6 h l t q e=>sa (ak e)<|.fP x.k l t;rw[rQ.bX]at a;have m:(rQ.aC (sZ c e T p.rS) λk d=>rQ.aC (rQ.aC (sZ c E T d) λt d=>se (Ai k t) d) λV d=>sv (.b d.length)<|d++[.sr V])=sZ c (.dJ e E) T p.rS:=G (rQ.aC<|sZ c e T p.rS)<|funext λk=>funext λd=>rQ.bX;exact sa m a
theorem O1(a:List aj):∀V:Array Nat,(a.foldl (λV s=>V++(#[]:Array Nat)++s.cps) V).toList=V.toList++(a.map (·.cps.toList)).flatten:=by
 induction a with
 |nil=>exactλV=>(dh _).symm
 |cons M a b=>exactλV=>(b _).trans<|by refine J lb ?_;rw[lb];refine J (dh ..) ?_;refine ae (cp ..) ?_;rfl
theorem O2(a:List aj):(Txt.join ⟨#[]⟩ a).cps.toList=(a.map (·.cps.toList)).flatten:=by
 show(Builtin.Str.glued ⟨#[]⟩ a).cps.toList=_;cases a with
 |nil=>rfl
 |cons M q=>exact O1 q _
noncomputable abbrev Gd(f:List Nat):aj:=⟨f.toArray⟩
theorem O3(a:tn O V U):∀{w:List (List Nat)},yi U=D w->StrsAre V (w.map Gd):=by
 induction a with
 |n=>exactλe=>ak e▸.nil
 |@c k s V U b _ d=>
  intro w e;cases s with
  |f f=>
   refine sh (Option.map_eq_some_iff.mp e) λA S c=>?_;subst c;refine ul b λM n c g v=>?_;subst c;subst g;exact .cons M n<|d S
  |_=>exact sq e
theorem O4(w:List (List Nat)):((w.map Gd).map (·.length)).sum=w.flatten.length:=by
 induction w with
 |nil=>rfl
 |cons b w a=>
  refine ae (G _<|G _ ge) ?_;refine ae (G _ ge) ?_;refine ae List.sum_cons ?_;refine ae (G _ a) ?_;refine J List.flatten_cons<|J bm ?_
  rfl
theorem O5(a:sA L.sk p.rP p.rO p.rS)(d:rZ p.rP z s):sy L p (aw (.builtin "str.join") [.str ⟨#[]⟩ b8,z]) rZ (se (s.aH (w:=λU=>(yi U).bind λw=>Mine.si (Cu w)<|D<|.f w.flatten)) p.rS):=by
 cases s with
 |c U=>
  refine sh d λb e f=>?_;subst e;refine tp (a.bJ f) λV g h k=>(?_:sy _ _ _ _ (se ((yi U).bind _) p.rS))
  cases i:yi U with
  |none=>exact .aE
  |some w=>
   refine so.cF λj=>.aJ λa2=>?_;have c:=vJ (tk (tk j).2).2;refine join_list g.isList (O3 h i) ?_ λn b8=>.bE a<|uQ _ _ B ((O2 _).trans<|G oo<|(fj ..).trans<|pd w)<|aa c<|af ..;refine J (O4 ..)<|J (show(⟨#[]⟩:aj).length=0 from B) ?_;rw[pl];exact aa c<|af ..
 |_=>exact .aE
theorem O6(h:M=⟨#[]⟩)(g:uF c [n] (.c e .n))(j:(k.endLine==b6.line)=true):sd c (.Call (.Attribute (.Constant (.str M) i a6) "join" k) [n] [] b6) (.k .d<|.c e .n):=λy T p x=>by
 subst h;refine so.dQ (b4:=λ_ z _=>∃b8,z=.str ⟨#[]⟩ b8) (A:=sv () p.rS) (b0:=λ_ d=>sZ c (.k .d<|.c e .n) T d) .b g (hy<|bu _) j (.aJ λa2=>jv<|.mk ⟨x.k.h.aX,x.k.bE⟩ ⟨_,B⟩) λz _ q l f=>?_;obtain⟨b8,rfl⟩:=f;exact .hB (g:=true) (b0:=λV d=>Mine.si (!(ue.d.dD&&c.tF))<|se (uo d .d V) d) g (x.aF l) (λ_ r a2 a4 a=>im (typeIs_str _ _ _) PySem.F.plainAttrs_str PySem.F.slot_str_join PySem.F.type_str_join (λb e=>nomatch e) a) (yr B) λ_ b3 a6 P m o=>.gB λ_=>.dP (b0:=λb3=>aw (.builtin "str.join")<|.str ⟨#[]⟩ b8::b3) o λz s f=>O5 m.n f
end
noncomputable def tT.vR(P:tT)(b1:al):tT:={P with zz:=λb=>P.zz b\/b=b1}
abbrev sL.xX(c:sL)(b1:al):sL:={c with rW:=c.rW.vR b1}
section
theorem zQ(c:ud (P.vR b1) b):ud P b:=⟨c.1,λf=>c.2<|.inl f⟩
theorem AF(c:ud P b)(t:¬b=b1):ud (P.vR b1) b:=⟨c.1,λf=>f.elim c.2 t⟩
theorem Bx{P:tT}:¬ud (P.vR b1) b1:=λf=>f.2<|.inr B
theorem yR.bO(e:a.sb=P.sb)(u:a.uc=P.uc)(i:ud P b->ud a b)(t:yR X P b):yR X a b:=tG (λf=>i<|t.1<|sa u f) t.2.1<|J e t.2.2
theorem tA.dU(c:tA X P O a T)(v:vH (λb=>b=b1) P a T)(g:∃j,a.get? b1=D j):tA X (P.vR b1) O a T:=⟨⟨c.Qu,c.Qv,AF c.Qw v.E,c.Qx,c.Qy,λb f=>f.elim (c.Qz b) λf=>J f g,λM h m=>have f:=c.Qs M h m;(tG f.1 ⟨f.2.1.1,λu=>AF (f.2.1.2 u)<|v.w M h m⟩ f.2.2),c.Qt,c.Ra⟩,λr M w d e=>@sm.casesOn (λw=>T[r]?=D w->wS X P O a M w->wS X (P.vR b1) O a M w) w (λ_=>id) (λ_ _=>id) (λj m f=>f.imp λb f=>vS f.1 f.2.1 (f.2.2.1.bO (P:=P) B B λi=>AF i<|v.z r M j b d m f.1) f.2.2.2) e<|c.C r M w d e,c.F⟩
theorem tA.cD(c:tA X (P.vR b1) O a T):tA X P O a T:=⟨⟨c.Qu,c.Qv,zQ c.Qw,c.Qx,c.Qy,λb f=>c.Qz b<|.inl f,λM h m=>have f:=c.Qs M h m;(tG f.1 ⟨f.2.1.1,λu=>zQ<|f.2.1.2 u⟩ f.2.2),c.Qt,c.Ra⟩,λr M w d e=>@sm.casesOn (λw=>wS X (P.vR b1) O a M w->wS X P O a M w) w id (λ_=>id) (λj f=>f.imp λb f=>vS f.1 f.2.1 (f.2.2.1.bO (P:=P.vR b1) B B zQ) f.2.2.2)<|c.C r M w d e,c.F⟩
theorem u_.dU{R:Option ab->Prop}(d:∀j V,a.get? b1=D j->j.data=.fields V->V[2]?≠D .none)(b:u_ X R (ud P) O a e h):u_ X R (ud<|P.vR b1) O a e h:=by
 refine wp b.z λg V i l c m=>⟨AF b.A λf=>d g V (sa f i) c<|l.2.2 V c,b.y,g,V,i,l,c,?_⟩
 generalize V[1]?=k at m
 cases m with
 |b M=>exact .b M
 |a q r s n o p t u=>exact .a (AF q λf=>d _ _ (sa f n) o p) r s n o p t u
end
section
variable{c:sL} {y:bj} {T:sg} {p:sE} {k:ab} {b1:al} {w:List rN} {q:tR×sg×rR} {n:ag} {g:List be} {a8:sp}
theorem ts.cD(b:ts (c.xX b1) p a):ts c p a:=⟨b.e.aQ λ_ _ _=>zQ,b.f⟩
theorem ss.cD(x:ss (c.xX b1) y T p):ss c y T p:=⟨x.C,x.A,x.F,x.k,x.o.cD,x.u,⟨x.l.1,x.l.2,x.l.3,x.l.4,x.l.5,x.l.6,x.l.7,x.l.8⟩,x.I,λh e=>(x.O h e).imp λa f=>f.imp λs f=>⟨f.1,f.2.bO (λ_=>id) λ_=>zQ⟩⟩
theorem Ge(d:tA X P O a T)(i:ug O a b1 w):vH (λb=>b=b1) P a T:=d.bY λb j v m=>(C5 i).elim λb9 f=>f.elim λb0 f=>f.elim λV f=>⟨V,ak (f.1.symm.trans<|sa v m)▸f.2.2.1.1⟩
theorem Gf(i:ug O a b1 w)(j:Obj)(V:Array ab)(m:a.get? b1=D j)(N:j.data=.fields V):V[2]?≠D .none:=by
 refine wq (C5 i) λb9 b0 e d f b h=>?_;obtain rfl:=ak<|d.symm.trans m;cases b.1.symm.trans N;exact b.2
theorem ss.dU(x:ss c y T p)(i:ug p.rP p.rO.heap b1 w):ss (c.xX b1) y T p:=⟨x.C,x.A,x.F,x.k,x.o.dU (Ge x.o i) i.cK,x.u,⟨x.l.1,x.l.2,x.l.3,x.l.4,x.l.5,x.l.6,x.l.7,x.l.8⟩,x.I,λh e=>(x.O h e).imp λa f=>f.imp λs f=>⟨f.1,f.2.dU<|Gf i⟩⟩
theorem ss.eR{b8:ct}(x:ss c y T p)(d:p.rP b1=.b)(e:c.sc.sN.get? b1=none)(i:ug p.rP p.rO.heap b1 w)(a:∀b j,b≠b1->p.rO.heap.get? b=D j->a3.get? b=D j)(h:∃j,a3.get? b1=D j): sQ (λb=>b=b1) p.rP p.rO.heap p.rP a3/\ss c y T ⟨p.rP,{p.rO with heap:=a3,toks:=b8},p.rS⟩:=have f:=C2 x.k (.inl d) e a h;⟨f.1,x.eB (AC a<|Gf i) f.2<|x.o.bI f.1<|Ge x.o i⟩
theorem vA.cD(g:vA (c.xX b1) y p q m Y):vA c y p q m Y:=by
 cases m with
 |ok u=>cases g with
  |e b x=>exact .e b.cD x.cD
  |j b x=>exact .j b.cD x.cD
  |h b a=>exact .h b.cD a
 |error e=>cases g with
  |mk b u d=>exact .mk b.cD u.cD<|d.bO (λ_=>id) λ_=>zQ
inductive By(c:sL)(y:bj)(p:sE)(q:tR×sg×rR)(b1:al)(U:List Nat)(E:Bool)(a8:sp)(i:Nat)(l:ai):Prop
 |mk {w:List rN} {O:sw} {d:rR} {T:sg}:w.length=i->ts c p ⟨O,l,d⟩ ->ss (c.xX b1) y T ⟨O,l,d⟩ ->ug O l.heap b1 w->O b1=.b->Ao (λk o d=>(up U E k o).bind λo=>uC c a8 o d) w T d=D q->By c y p q b1 U E a8 i l
theorem O7{T:sg}{j:Option a0}{b':a0->rR->rV}:rV.aN (se j d) T b'=j.bind λk=>b' k d:=by cases j<;>rfl
theorem O8{U:List Nat}{E:Bool}{i:Nat}{l:ai}(b9:ty c.rW)(a0:y.frames=D c.rW.uZ)(a1:ud c.rW b1)(P:c.sc.sN.get? b1=none)(R:wW (c.rW.vR b1) n U E)(a7:uJ (c.xX b1) g a8)(W:By c y p q b1 U E a8 i l): rY (sj c.sc) y (gq<|.ref b1) (λr t=>match r with
   |none=>vA c y p q (.ok .next) t
   |some k=>rY (sj c.sc) y (km n (.ref b1) k) (λ_ t=>rY (sj c.sc) y (fc n c.rW.sb k) (λ_ a2=>rY (sj c.sc) y (du g c.rW.sb) (A9 (By c y p q b1 U E a8) (vA c y p q) i) (ui (sj c.sc) y c.rW.sb λe Y=>vA c y p q (.error e) Y) a2) (ui (sj c.sc) y c.rW.sb λe Y=>vA c y p q (.error e) Y) t) (ui (sj c.sc) y c.rW.sb λe Y=>vA c y p q (.error e) Y) t) (λ_ _=>False) l:=by
 cases W with
 |@mk w O d T a4 b x u h a=>
  have S:∀{b2:sw} {Y:ai},sQ (λb=>b=b1) O l.heap b2 Y.heap->sA c.sc b2 Y d->ts c p ⟨b2,Y,d⟩:=λe a6=>b.aM ⟨e.aQ λ_ _ _ f=>J f a1,a6⟩;cases w with
  |nil=>
   obtain rfl:=ak a;refine toI<|CQ x.F.gZ u λa3 a9 a'=>?_;have f:=x.eR (b8:=l.toks) h P u a9 a';exact .e (S f.1 f.2.k) f.2.cD
  |cons s w=>
   refine toI<|CO h u λk a3 b8 b3 b4 z=>toI<|F2 z R ?_;have f:=x.eR (b8:=b8) h P u (SameBut.eL b4) z.cK;have a:rV.bM ((up U E s T).bind λo=>uC c a8 o d) (Ao (λk o d=>(up U E k o).bind λo=>uC c a8 o d) w)=D q:=a;cases L:up U E s T with
   |none=>rw[L]at a;exact sq a
   |some b5=>
    have a:=L▸a;refine C3 R f.2 b3 L λb6 b7 M V=>?_;have A:=lc (z.bI M.e h Bx)<|z.cK.elim λj m=>M.e.z b1 j m h Bx;have X:ts c p ⟨b7,b6,d⟩:=(S f.1 f.2.k).aM M.cD;subst a4;exact F_ (c:=c.xX b1) a0 V.l (λ_ _ v=>vA.bB X<|vA.cD v) (a7 y b5 _ V) a λN b' a5 b0 a=>⟨w.length,fz _,.mk B (X.aM a5.cD) b0 (A.1.bI a5.e A.2 Bx) (A.1.cK.elim λj m=>a5.e.z b1 j m A.2 Bx) a⟩
theorem O9(f:∀b1,wW (c.rW.vR b1) n U E)(h:sd c b7 j)(m:∀z,mp b7 c.rW.sb z=ay z)(a7:∀b1,uJ (c.xX b1) g a8):sB c (.For n b7 g [] b6) (.h U E j a8):=λy T p x=>by
 refine xW (exec_For ..)<|.aT<|(h y T p x).cX x λz s A l o=>?_;refine(m ..)▸(O7 (T:=T))▸?_;refineλq a=>.sf<|.sF ?_;refine uv.aT (so.cX (CR l.n o).aZ (x.aF l) λv w P b r q a=>?_) q a;refine wo r.a λb1 t d u e=>?_;subst t;exact F9 x.l B<|Mine.I.IY (By c y P q b1 U E a8) (λi Y W=>O8 x.l x.A (tA.dR (x.aF l).o.toFb b1 d) (l.n.h.bH d).2 (f b1) (a7 b1) W) w.length<|.mk B (.aX b.n) (((x.aF l).aF b).dU e) e u a
end
section
theorem tA.eV(c:tA X P O a T)(r:Nat):tA X P O a (T.set r .rT):=⟨c.toFb,λL M w d e=>(vD e).elim (λf=>sa f.2.symm trivial) λf=>c.C L M w d f.2,λL i M f j b9 b d e g h=>(vD e).elim (λf=>nomatch f.2) λv=>(vD h).elim (λf=>nomatch f.2) λk=>c.F L i M f j b9 b d v.2 g k.2⟩
theorem tA.fD{T:sg}{b1:sm}(c:tA X P O a (T.set r .rT))(e:P.tq r=D M)(x:wS X P O a M b1)(a8:∀j b,b1=.sl j->to P.sb a M (.ref b) ->∀L f b9,P.tq L=D f->L≠r->T[L]?=D (.sl b9) ->¬to P.sb a f (.ref b)):tA X P O a (T.set r b1):=by
 have g:∀{L:Nat} {v:sm},L≠r->T[L]?=D v->(T.set r .rT)[L]?=D v:=λh m=>(jg<|dq h).trans m;refine⟨c.toFb,λL f w d k=>?_,λL i f p j b9 b d k l y n o=>?_⟩
 ·rcases vD k with⟨rfl,rfl⟩|⟨h,v⟩
  ·obtain rfl:=ak<|e.symm.trans d;exact x
  ·exact c.C L f w d<|g h v
 ·rcases vD k with⟨rfl,a'⟩|⟨q,s⟩<;>rcases vD y with⟨rfl,b2⟩|⟨t,u⟩
  ·rfl
  ·obtain rfl:=ak<|e.symm.trans d;exact absurd o<|a8 j b a'.symm n i p b9 l t u
  ·refine IK (e.symm.trans l) λa'=>?_;subst a';exact absurd n<|a8 b9 b b2.symm o L f j d q s
  ·exact c.F L i f p j b9 b d (g q s) l (g t u) n o
end
section
variable{c:sL} {y:bj} {T:sg} {p:sE} {z:ab} {M:aj} {r:Nat} {b:al} {j A:sC} {n:ag}
theorem vO.bY(x:ss c y T p)(e:c.rW.tq r=D M)(a:vO c T r M j b p):vH (λg=>g=b) c.rW p.rO.heap (T.set r .rT)where
 E f:=sY.dF (f▸x.o.Qv) a.W
 w M h m f:=a.X.2.2 M (sa f m)
 z L f b9 g i k l v:=(vD k).elim (λf=>nomatch f.2) λd=>d.1 (x.o.F L r f M b9 j g i d.2 e a.Y l<|J v a.S)
 F o q U s f:=by
  obtain⟨_,w,b9,t,u,_⟩:=x.o.Qt o q;obtain rfl:=ak<|t.symm.trans s;exact sY.dF (f▸u) a.W
theorem O'(d:vr j=D s)(i:tf X O a b j):uV X O a b s:=by
 cases j with
 |sr U=>obtain rfl:=ak d;exact i
 |tw W=>obtain rfl:=ak d;exact i
 |_=>exact sq d
theorem vO.hW(k:c.rW.uc=true)(x:ss c y T p)(d:c.rW.tq r=D M)(a:vO c T r M j b p)(l:vr j=D s):ts c p ⟨p.rP.aU b<|.g s,p.rO,p.rS⟩/\ss c y (T.set r<|.rL s) ⟨p.rP.aU b<|.g s,p.rO,p.rS⟩/\rZ (p.rP.aU b<|.g s) (.ref b) s:=by
 refine sh a.I.cJ λt e o=>?_;have f:=O' l a.I;have h:sA c.sc (p.rP.aU b<|.g s) p.rO p.rS:=⟨x.k.h.cS a.W e a.X.2.1 f,x.k.m,x.k.o⟩
 have a1:sQ (λg=>g=b) p.rP p.rO.heap (p.rP.aU b<|.g s) p.rO.heap:=sQ.fM x.k.h a.W B;have i:=CE a.W f;refine⟨⟨a1.aQ λg _ _ f=>J f<|a.X.1 k,h⟩,x.eB (λg j V q m N _=>⟨(sw.bR _ _ λf=>o V<|(G Obj.data<|ak<|e.symm.trans<|(G p.rO.heap.get? f).symm.trans m).trans N).trans q,m⟩) h<|((x.o.eV r).bI a1<|a.bY x d).fD d (sn _ a.S i) λ_ _=>nofun,i⟩
theorem ss.eC{a9:Type}{i:sC->Option a9}{q:a9}{b':Prop}(x:ss c y T p)(d:c.rW.tq r=D M)(e:(sR T r).bind i=D q)(a:∀j b,vO c T r M j b p->i j=D q->b'):b':=by
 exact sh (Option.bind_eq_some_iff.mp e) λj S g=>(x.o.C r M (.sl j) d<|Av S).elim λb f=>a j b ⟨Av S,f.1,f.2.1,f.2.2.1,f.2.2.2⟩ g
theorem O_(g:c.rW.uc=true)(d:c.rW.tq r=D M)(h:uJ c a1 i):uJ c a1 (.c (.t r) i):=λy T p x q e=>by
 refine sh (Option.bind_eq_some_iff.mp<|show((sR T r).bind λj=>(vr j).bind λk=>D (tR.sS,T.set r<|.rL k,p.rS)).bind _=D q from e) λm a' b2=>x.eC d a' λj b a e=>sh (Option.bind_eq_some_iff.mp e) λs S e=>?_;obtain rfl:=ak e;have f:=a.hW g x d S;exact(h y _ _ f.2.1).bN f.1 q b2
theorem Pa(g:c.rW.uc=true)(d:c.rW.tq r=D M)(a8:ua M):sB c (.Return (D<|.Name M a6) b6) (.s r):=λy T p x q e=>by
 refine x.eC d e λj b a e=>sh (Option.bind_eq_some_iff.mp e) λs S e=>?_;obtain rfl:=ak e;have f:=a.hW g x d S;exact J (exec_Return_some ..)<|.tz<|.sf<|toI<|wb x.l a.S a8<|.sF<|.h f.1 f.2.2
theorem Pb:sB c (.Return none b6) (.d<|.d .e):=λy T p x q e=>by
 obtain rfl:=ak e;exact uM (exec_Return_none ..)<|.tz<|.sF<|.h (.aX x.k) B
theorem ux.iN(x:ss c y T p)(l:sJ (c.sI y) p a)(t:ux c.sc p a A z):ys c.sc c.rW a.rP a.rO.heap z (.sl A)/\∀L f b9,c.rW.tq L=D f->T[L]?=D (.sl b9) ->¬to c.rW.sb a.rO.heap f z:=by
 cases t with
 |@mk b d q e=>
  refine⟨⟨b,B,q,⟨λ_=>tA.dR x.o.toFb b d,(x.k.h.bH d).2,λM m=>(x.o.Qs M b m).2.2.elim λk f=>f.elim λj f=>sq<|d.symm.trans f.1⟩,e⟩,λL f b9 h i o=>?_⟩;refine wo (x.o.C L f (.sl b9) h i) λg s v v u=>sh u.cJ λj w v=>?_;obtain rfl:=gx<|to.cE s<|o.bQ x.o.toFb l.r (T:=T) .aI;exact sq<|d.symm.trans w
theorem C8{u:a0->sC}{i:sg->rR->rQ a0}(g:vc c.rW M r)(h:vz n=true)(a:∀y T p,ss c y T p->so (c.sI y) p (bz n c.rW.sb) (λm z s=>ux c.sc p m (u s) z) (i T p.rS)) (e:∀T d,uC c o T d=rV.aN (i T d) T λs d=>D (.sS,T.set r<|.sl<|u s,d)):sB c (.Assign [.Name M a6] n b6) o:=λy T p x=>by
 refine xW (exec_Assign_Name _ _ _ _ _<|w_ h) ?_;refine J (e ..)<|.aT<|(a y T p x).cX x λk s E l t=>.aT<|.fS λa2=>toI<|nm ?_;have f:=t.iN x l;exact FX (x.aF l) g f.1 (λj _ L v b9 q _ w=>f.2 L v b9 q w) λY b b0=>.mk b b0
def y_(c:sL)(n:ag)(i:tE):Prop:=∀y T p,ss c y T p->so (c.sI y) p (bz n c.rW.sb) (λa z A=>ux c.sc p a A z) (sv (xM i) p.rS)
theorem Bz{A:rQ a0}{x:a0->rR->rQ b1}{b':b1->rR->rV}:rV.aN (rQ.aC A x) T b'=rV.aN A T λs d=>rV.aN (x s d) T b':=by
 match A with
 |none=>rfl
 |some (.a _,_)=>rfl
 |some (.b _,_)=>rfl
theorem Pc(f:vc c.rW M r)(a:yV c n e)(g:sd c h E):sB c (.Assign [.Name M a6] (.BinOp (.List [n] i) .Mult h l) b6) (.x r e E):=C8 f B (λy T p x=>Gc a g x) λT d=>(Bz.trans<|G (rV.aN (sZ c e T d) T)<|funext λk=>funext λd=>Bz).symm
set_option backward.match.sparseCases false in
noncomputable def AG:sT->Bool
 |.a|.d|.g|.e=>true
 |_=>false
theorem Gg(e:sA L.sk p.rP p.rO p.rS)(f:AG a=true)(h:rZ p.rP k s)(i:rZ p.rP v m):sy L p (inplaceOp (wc a) k v) rZ (se (vM a s m) p.rS):=.bK (b0:=λk=>inplaceOp (wc a) k v) h λb l=>.bK i λg o=>by
  have d:∀{r:Int} {b8 n:ct},xp L p rZ (.a<|.i r,p.rS) (.int r n) {p.rO with toks:=b8}:=.bE e ⟨_,B⟩;cases a with
  |a=>exact .aJ λa2=>iadd_int d
  |d=>exact .aJ λa2=>isub_int d
  |e=>exact .aJ λa2=>ior_int d
  |g=>exact .dO λm=>.aJ λa2=>irshift_int (av m) d
  |_=>exact tC f
theorem Pd(k:vc c.rW M r)(t:sd c n e)(u:AG g=true):sB c (.AugAssign (.Name M a6) (wc g) n b6) (.l g r e):=λy T p x q i=>by
 refine sh (Option.bind_eq_some_iff.mp<|show(um T r).bind _=D q from i) λs S i=>sh (x.o.C r M (.rL s) k.a<|CA S) λz w E=>uM (arm_exec_AugAssign ..)<|.tz<|.sf<|toI<|(λa=>w.elim (λf=>f.2.elim λA v=>wpAny_loadName_local x.l.d f.1 v.1 v.2 a) λf=>f.2.elim λA v=>wpAny_loadName_cell x.l.d f.1 v.1 v.2 a) ?_;refine(t y T p x).aZ.cX x (λv m o l L=>?_) q i;exact(show rV.bZ ((vM g s m).map λh=>T.set r<|.rL h) o.rS=rV.aN (se (vM g s m) o.rS) T λh d=>D (.sS,T.set r<|.rL h,d)by cases vM g s m<;>rfl)▸(.aT<|(Gg l.n u (E.aQ l.r.y) L).dN.cX (x.aF l) λv h P N O=>.aT<|.fS λa2=>toI<|nm<|Bt ((x.aF l).aF N) k O λY b b0=>.mk b b0)
theorem uv.bZ{j:Option sg}{n:au Unit}(a:∀N,j=D N->∀a2,rY (sj c.sc) y n (λ_ Y=>C6 c y p N d Y) a2 p.rO):uv c y p (n>>=λ_=>ay .next) (rV.bZ j d):=by
 cases j with
 |none=>exact .aE
 |some N=>exact .fS<|a N B
theorem C9{n:ag}{M:ag}(a:vz M=true):swapsWithSole [n] M w o=ay false:=w_ a
theorem Pe(d:xr c.rW W U)(f:sd c n e)(g:vz n=true)(h:hz [.Tuple W i a6] n c.rW.sb=ay none):sB c (.Assign [.Tuple W i a6] n b6) (.p U e):=λy T p x=>by
 refine xW (pm ..) ?_;refine J (C9 g)<|J h<|.aT λq a=>.sf<|.sF<|(f y T p x).cX x (λz s m l k q a=>.sf<|.sF ?_) q a;exact uv.bZ (n:=fc (.Tuple W i a6) c.rW.sb z) (λN a7 a2=>C3 (.a d) (x.aF l) k a7 λY b2 b b0=>.mk b b0) q a
end
section
variable{c:sL} {y:bj} {T:sg} {p:sE} {s:rN} {M:aj} {a6 N:bp} {r:Nat} {j b9:sC} {b8:ct}
theorem tg{a0:Type}{f:a0}{b':Prop}(a:(none:Option a0)=D f):b':=sq a
theorem Gh{i:Int->Option a0}{f:a0}(a:s.aH (r:=i)=D f):∃r,s=.i r/\i r=D f:=@rN.casesOn (λs=>s.aH (r:=i)=D f->∃r,s=.i r/\i r=D f) s tg (λ_=>tg) (λr a=>sn r B a) (λ_=>tg) (λ_=>tg) (λ_=>tg) (λ_=>tg) (λ_ _ _=>tg) (λ_ _=>tg) (λ_=>tg) (λ_=>tg) a
theorem Gi{i:Nat->Option a0}{f:a0}(a:s.aH (a:=i)=D f):∃r,s=.b r/\i r=D f:=@rN.casesOn (λs=>s.aH (a:=i)=D f->∃r,s=.b r/\i r=D f) s tg (λ_=>tg) (λ_=>tg) (λ_=>tg) (λ_=>tg) (λ_=>tg) (λ_=>tg) (λ_ _ _=>tg) (λ_ _=>tg) (λ_=>tg) (λr a=>sn r B a) a
theorem Pf{i:List rN->Option a0}{f:a0}(a:s.aH (n:=i)=D f):∃r,s=.j r/\i r=D f:=@rN.casesOn (λs=>s.aH (n:=i)=D f->∃r,s=.j r/\i r=D f) s tg (λ_=>tg) (λ_=>tg) (λ_=>tg) (λ_=>tg) (λ_=>tg) (λr a=>sn r B a) (λ_ _ _=>tg) (λ_ _=>tg) (λ_=>tg) (λ_=>tg) a
theorem vB{j:Option a0}{f:a0}(a:Mine.si g j=D f):g=true/\j=D f:=by
 cases g with
 |true=>exact⟨B,a⟩
 |false=>exact sq a
theorem Pg(b1:tx X O a d)(e:O b4=q)(t:q≠.b):X.sN.get? b4=none:=by
 cases m:X.sN.get? b4 with
 |none=>rfl
 |some j=>exact absurd (e.symm.trans<|b1.P b4 j m) t
theorem vO.cZ(n:c.rW.uc=true)(x:ss c y T p)(h:c.rW.tq r=D M)(a:vO c T r M j b p)(i:b4=b\/p.rP b4=.e b)(o:∃d,p.rO.heap.get? b4=D d/\∀V,d.data≠.fields V)(e:cf b4 p.rO.heap a3)(q:∃d,a3.get? b4=D d)(t:tf c.sc p.rP a3 b b9): ts c p ⟨p.rP,{p.rO with heap:=a3,toks:=b8},p.rS⟩/\ss c y (T.set r<|.sl b9) ⟨p.rP,{p.rO with heap:=a3,toks:=b8},p.rS⟩:=by
 have b1:=x.k.h;have a1:sQ (λg=>g=b) p.rP p.rO.heap p.rP a3:=sQ.aW b1 (i.elim (λf=>by unfold uz;refine(az f)▸?_;exact a.W▸B) λf=>by unfold uz;refine f▸?_;dsimp only;exact a.W▸B) e q;have l:sA c.sc p.rP {p.rO with heap:=a3,toks:=b8} p.rS:=x.k.dE (b1.eY a1.A (λg d m u _ w=>(e.2 g λf=>i.elim (λv=>u<|(G p.rP<|f.trans v).trans a.W) λv=>w b ((G p.rP f).trans v) a.W).trans m) λg d m=>(e.2 g λf=>va<|((G c.sc.sN.get? f).symm.trans m).symm.trans<|i.elim (λv=>J v a.X.2.1) λv=>Pg b1 v nofun).trans<|b1.C g d m);have k:=a.bY x h;have b3:=a.S.bI x.o.toFb a1 k;exact⟨⟨a1.aQ λg _ _ f=>J f<|a.X.1 n,l⟩,x.eB (AC (SameBut.eL e)<|Bs o) l (((x.o.eV r).bI a1 k).fD h (zn b b3 a.W a.X t) λR g _ a7 L f z A E O P=>by
  obtain rfl:=gx<|to.cE b3 a7;exact E<|x.o.F L r f M z j b A O h a.Y (P.bQ x.o.toFb a1 k) a.S)⟩
theorem Gj{l:ai}(a:l.heap.get? b=D {cls:=.type "list",data:=.seq d t}):(l.heap.update b<|Obj.mapSeq u).PlainList b (u d):=⟨_,fy _ a B⟩
theorem Ph{r:Int}{i:Int}(t:r∉w.map (·.1)):stored ((r,v)::w) i z=if r=i then(r,z)::w else(r,v)::stored w i z:=by
 unfold stored;refine J my<|J ge ?_;by_cases m:r=i
 ·exact(an m)▸(an m)▸(az<|bd m)▸(ae (an<|Bool.true_or _)<|G _<|map_store_of_not_mem w i z<|sa m t)
 ·refine(am m)▸(am m)▸(cd m)▸(Bool.false_or ..)▸?_;cases w.any λa=>decide (a.1=i)<;>rfl
theorem Pi(d:rZ O z s)(a:sU (yP O) e W):(e.map (·.1)).Nodup->sU (yP O) (stored e i z) (un i s W):=by
 induction a with
 |n=>exactλ_=>.c ⟨B,d⟩ .n
 |@c b g w A c q h=>
  intro t;have t:=List.nodup_cons.mp t;refine(Prod.ext c.1 B:b=(g.1,b.2))▸?_;rw[Ph<|c.1▸t.1];show sU _ _<|if i=g.1 then(g.1,s)::A else g::un i s A
  by_cases m:g.1=i
  ·exact J (an m)<|J (an m.symm)<|.c ⟨B,d⟩ q
  ·refine(am m)▸?_;rw[am λf=>m f.symm];exact .c ⟨B,c.2⟩<|h t.2
theorem C'{a2:ab->ai->Prop}(q:tf X O l.heap b j)(a:wN j s m=D b9)(P:rZ O z s)(u:rZ O k m) (w:∀a3 b8,cf b l.heap a3->(∃R,a3.get? b=D R) ->tf X O a3 b b9->a4 () {l with heap:=a3,toks:=b8}):ap (sj X) y (setItem (.ref b) z k) a4 a2 l:=by
 refine sh (Gh a) λr o a=>?_;subst o;obtain⟨n,rfl⟩:=P;cases j with
 |sr U=>
  obtain⟨g,a⟩:=vB a;refine sh (Option.map_eq_some_iff.mp a) λi S o=>?_;subst o;refine tp q λV Y x a0=>ye (Fx S) λd v a5=>?_;obtain⟨g,a7⟩:0<=r/\r.toNat=i:=(Fy d).elim id λf=>absurd (av g)<|Int.not_le.mpr f.1;have a8:r<U.length:=by
   unfold ic at d
   have d:=(am<|Int.not_lt.mpr g)▸d;by_cases h:(decide (0<=r)&&decide (r<U.length))=true
   ·exact av (tk h).2
   ·exact sq<|(am h)▸d
  refine bk Y λt A=>?_;have a1:=Gj (u:=(·.setIfInBounds r.toNat k)) A;refine ki_setAt A g (Bn a5) (by refine J fh<|J x.aY ?_;exact a8)<|w _ l.toks (gu ..) ⟨_,a1.choose_spec⟩<|tv _ (?_) (x.aU u i)<|by exact J eu<|a0
  exact(by refine ae (List.setIfInBounds_toArray ..) ?_;exact J a7 B:V.toArray.setIfInBounds r.toNat k=(V.set i k).toArray)▸a1
 |tw W=>
  obtain⟨b5,a⟩:=vB a;obtain rfl:=ak a;refine tp (wa.d q) λa9 E L b0=>?_;have b5:=L.aY▸vJ b5;exact wpAny_setItem_pairs (zC r n) E (λa3 e a'=>w a3 _ a' (wa.cJ e) ⟨(tv _ e (Pi u L<|wa.iD E)<|aa (stored_length_le a9 r k)<|aa (bw b5)<|af ..)⟩) (aa b5<|by refine sa ch ?_;decide)
 |_=>exact sq a
theorem vO.cG(a:vO c T r M j b p):∃d,p.rO.heap.get? b=D d/\∀V,d.data≠.fields V:=a.I.cJ
theorem BB(e:rV.aW f r T d=D q):∃b9,f=D b9/\q=(.sS,T.set r<|.sl b9,d):=(Option.map_eq_some_iff.mp e).imp λj f=>⟨f.1,f.2.symm⟩
theorem Pj(t:c.rW.uc=true)(k:c.rW.tq r=D M)(a8:ua M)(u:sd c n e)(w:vz n=true)(A:sd c L E):sB c (.Assign [.Subscript (.Name M a6) L N] n b6) (.v r E e):=λy T p x q d=>x.eC k d λj b a d=>by
 refine uM (exec_Assign_Subscript _ _ _ _ _<|w_ w)<|.tz<|.sf<|(u y T p x).toS x d (λz s O l R d=>?_) λ_ _ f=>f;refine J (pn ..) ?_;have o:=a.aF x l;have g:=x.aF l;refine .sf<|.sf<|.tD<|toI<|wb g.l o.S a8<|.sf<|.tD<|(A y T O g).toS g d (λv m P h S d=>?_) λ_ _ f=>.bB l.bF f;refine sh (BB d) λb9 U V=>?_;subst V;have i:=o.aF g h;refine .tz<|.sf<|.tD<|toI<|C' i.I U S (R.aQ h.r.y) λa3 b8 W X Y=>toI<|jb<|.sF ?_;have f:=i.cZ (b8:=b8) t (g.aF h) k (.inl B) i.cG W X Y;exact .e ((l.aM h).bF.aM f.1) f.2
theorem sJ.bM(a:sA L.sk p.rP p.rO p.rS)(d:p.rP b=.d i)(e:b4=b\/p.rP b4=.e b)(f:cf b4 p.rO.heap a3)(g:∃j,a3.get? b4=D j)(h:tf L.sk p.rP a3 b A):sJ L p ⟨p.rP,{p.rO with heap:=a3,toks:=b8},p.rS.set i A⟩:=⟨sQ.cZ a.h d e f g,a.dE<|a.h.cZ d e f g h⟩
theorem C_(e:rV.bU f T=D q):∃a9,f=D a9/\q=(.sS,T,a9):=(Option.map_eq_some_iff.mp e).imp λj f=>⟨f.1,f.2.symm⟩
theorem Pk(O:sd c n e)(R:vz n=true)(o:sd c U E)(V:sd c W X):sB c (.Assign [.Subscript U W N] n b6) (.m E X e):=λy T p x q a=>by
 refine uM (exec_Assign_Subscript _ _ _ _ _<|w_ R)<|.tz<|.sf<|(O y T p x).toS x a (λz s Y l a0 a=>?_) λ_ _ f=>f;refine J (pn ..) ?_;have u:=x.aF l;refine .sf<|.sf<|.tD<|(o y T Y u).toS u a (λv m P g a1 a=>.sf<|.tD<|(V y T P<|u.aF g).toS (u.aF g) a (λk i A h a2 a=>?_) λ_ _ f=>.bB (l.aM g).bF f) λ_ _ f=>.bB l.bF f;refine sh (C_ a) λa9 w d=>?_;subst d;refine sh (Gi w) λt d w=>?_;subst d;refine sh (Option.map_eq_some_iff.mp<|w) λb9 o d=>?_;subst d;refine sh (Option.bind_eq_some_iff.mp o) λj S o=>sh (a1.aQ h.r.y) λb d L=>?_;subst d;have a4:tf c.sc A.rP A.rO.heap b j:=(h.n.h.F b t L).elim λa' f=>sa (ak<|f.1.symm.trans S) f.2;refine .tz<|.sf<|.tD<|toI<|C' a4 o a2 (a0.aQ (g.aM h).r.y) λa3 b8 a5 a7 a8=>toI<|jb<|.sF ?_;have f:=sJ.bM (b8:=b8) h.n L (.inl B) a5 a7 a8;exact .e ((l.aM g).aM<|h.aM f).bF<|((u.aF g).aF h).aF f
inductive wy(M:aj):List ag->List Int->Prop
 |n:wy M [] []
 |c {s a N:bp} {i:Nat} {r:Int} {W:List ag} {a0:List Int}:wy M W a0->wy M (.Subscript (.Name M s) (.Constant (.int r) i a) N::W) (r::a0)
theorem Pl{s:bp}{N:bp}{r:Int}:gf (.Subscript (.Name M s) (.Constant (.int r) i a) N::W) o=(false,fc (.Subscript (.Name M s) (.Constant (.int r) i a) N) o)::gf W o:=B
theorem wy.fG(a:wy M W a0):(gf W o).length=a0.length/\(gf W o).findIdx? (·.1)=none:=by
 induction a with
 |n=>exact⟨B,B⟩
 |c _ b=>exact Pl▸il▸(az il)▸(az b.1)▸(List.findIdx?_cons)▸(az b.2)▸⟨B,B⟩
theorem Pm(m:c.rW.uc=true)(l:c.rW.tq r=D M)(a8:ua M){W:List ag}{a0:List Int}(a:wy M W a0):∀{b3:List ab} {a6:List rN} {p:sE} {T:sg} {j b9:sC} {a4:Unit->ai->Prop} {a2:ab->ai->Prop},tn p.rP b3 a6->ss c y (T.set r<|.sl j) p->r<T.length->Ap j a0 a6=D b9-> (∀Y,ts c p ⟨p.rP,Y,p.rS⟩ ->ss c y (T.set r<|.sl b9) ⟨p.rP,Y,p.rS⟩ ->a4 () Y) ->ap (sj c.sc) y (ls ((gf W c.rW.sb).map (·.2)) b3) a4 a2 p.rO:=by
 induction a with
 |n=>
  intro b3 a6 p T j b9 a4 a2 d x g e h;cases d with
  |n=>obtain rfl:=ak e;exact as<|h p.rO (.aX x.k) x
  |c _ _=>exact sq e
 |@c s E N i t W a0 _ n=>
  intro b3 a6 p T j b9 a4 a2 d x g e h;cases d with
  |n=>exact sq e
  |@c z k b3 V o d=>
   refine sh (Option.bind_eq_some_iff.mp<|show(wN j _ k).bind (λj=>Ap j a0 V)=D b9 from e) λL q u=>(?_:ap _ _ (gm b3 (fc _ c.rW.sb z)>>=λ_=>ls ((gf W c.rW.sb).map (·.2)) b3) _ _ _)
   refine bk (x.o.C r M _ l<|hk g) λb f=>?_;have a:vO c _ r M j b p:=⟨hk g,f.1,f.2.1,f.2.2.1,f.2.2.2⟩
   refine J (pn ..)<|ah<|dz<|ah<|dz<|wb x.l a.S a8<|ah<|dz<|mv ?_;refine ah<|mm<|ah<|dz<|C' (l:={p.rO with toks:=p.rO.toks+1}) a.I q ⟨_,B⟩ o λa3 b8 v w A=>wpAny_release ?_;have f:=a.cZ (b8:=b8) m x l (.inl B) a.cG v w A;rw[io]at f;exact n (p:=⟨p.rP,_,p.rS⟩) d f.2 g u λY b b0=>h Y (f.1.aM b) b0
theorem Pn{r:Nat}{a0:Type}{w:List a0}{k:a0}(a:w[r]?=D k):w.set r k=w:=by
 refine bk (List.getElem?_eq_some_iff.mp a) λb d=>?_;subst d;exact re b
theorem Gk:∀{a0:List Int} {a6:List rN} {j b9:sC},Ap j a0 a6=D b9->a6.length=a0.length
 |[],[],_,_,_=>B
 |[],_::_,_,_,a=>sq a
 |_::_,[],_,_,a=>sq a
 |r::a0,k::a6,j,b9,a=>(Option.bind_eq_some_iff.mp<|a).elim λ_ f=>G _<|Gk f.2
theorem Po(t:c.rW.uc=true)(m:c.rW.tq r=D M)(a8:ua M)(a:wy M W a0)(u:sd c n e)(v:vz n=true)(A:hz [.Tuple W i a6] n c.rW.sb=ay none):sB c (.Assign [.Tuple W i a6] n b6) (.w r a0 e):=λy T p x q d=>x.eC m d λj b o d=>by
 refine uM (pm ..) ?_;refine(C9 v)▸A▸(.tz<|.sf<|.sF<|.sf<|(u y T p x).toS x d (λz s P l E d=>.sf<|.sF ?_) λ_ _ f=>f);refine sh (BB d) λb9 g h=>?_;subst h;refine sh (Pf g) λw h g=>?_;subst h;refine(?_:rY _ _ (fc _ c.rW.sb z>>=λ_=>ay Flow.next) _ _ _);refine J (arm_assign_Tuple ..)<|.sf<|.tz ?_;unfold unpack;refine a.fG.1▸a.fG.2▸(Gk g)▸(.sf<|.tD<|rY.tr (FZ (x.aF l) E .c _ B) (λb3 k f=>?_) λ_ _ f=>nomatch f);cases f with
 |@mk R _ _ _ _ k L=>
  have O:=(x.aF l).aF k;exact toI<|Pm t m a8 a L ((Pn o.Y).symm▸O) (List.getElem?_eq_some_iff.mp o.Y).1 g λY b b0=>.sF<|.e ((l.aM k).bF.aM b) b0
end
namespace BA
theorem Gl:Slot "bytearray" "append" "bytearray.append" :=.of (owner:="bytearray") (n:="append") (by refine ae (em ..) ?_;refine sa en ?_;kernel_rfl) (by decide+kernel) (by decide+kernel) (by decide+kernel) (by first|exact .inl (by decide+kernel)|exact .inr<|by decide+kernel)<|by refine ae (lp ..) ?_;kernel_rfl
theorem Gm:Slot "bytearray" "extend" "bytearray.extend" :=.of (owner:="bytearray") (n:="extend") (by refine ae (em ..) ?_;refine sa en ?_;kernel_rfl) (by decide+kernel) (by decide+kernel) (by decide+kernel) (by first|exact .inl (by decide+kernel)|exact .inr<|by decide+kernel)<|by refine ae (lp ..) ?_;kernel_rfl
theorem BC:Slot "bytearray" "__init__" "bytearray.__init__" :=.of (owner:="bytearray") (n:="__init__") (by refine ae (em ..) ?_;refine sa en ?_;kernel_rfl) (by decide+kernel) (by decide+kernel) (by decide+kernel) (by first|exact .inl (by decide+kernel)|exact .inr<|by decide+kernel)<|by refine ae (lp ..) ?_;kernel_rfl
theorem Pp:gd fd "bytearray.append"=D Builtin.«bytearray.append»:=li<|by kernel_rfl
theorem Pq:gd fd "bytearray.extend"=D Builtin.«bytearray.extend»:=li<|by kernel_rfl
theorem Pr:gd fd "bytearray.__init__"=D Builtin.«bytearray.__init__»:=li<|by kernel_rfl
theorem Ps:gw (.builtin "bytearray.append")=ay (.type "method_descriptor"):=by kernel_rfl
theorem Pt:gw (.builtin "bytearray.extend")=ay (.type "method_descriptor"):=by kernel_rfl
theorem Gn:PlainAttrs "bytearray" :=⟨(sn ("bytearray.__getattribute__") (by refine ae (em ..) ?_;refine sa en ?_;kernel_rfl)<|by decide+kernel),by refine ae (em ..) ?_;refine sa en ?_;kernel_rfl⟩
theorem Da:mroOf (.type "bytearray")=ay [.type "bytearray",.type "object"]:=by refine ae (mroOf_type ..) ?_;kernel_rfl
theorem Pu:fk (.type "bytearray") "__new__"=ay (D<|.builtin "bytearray.__new__"):=by refine ae (em ..) ?_;refine sa en ?_;kernel_rfl
theorem Db:TypeCalled "bytearray" "bytearray.__new__" "bytearray.__init__" :=⟨by decide+kernel,by decide+kernel,(vK _ _ Da),madeBy_type Da Pu<|by decide+kernel,by decide+kernel,Ay,BC⟩
theorem Pv:Builtin.Bytes.bindOptional "bytearray.__init__" "bytearray" ["source","encoding","errors"] [] []=ay [none,none,none]:=by kernel_rfl
theorem Pw:checkTypeCall "bytearray" ⟨[],[]⟩=ay ():=by kernel_rfl
theorem Px:ip "bytearray.__new__" ⟨[.type "bytearray"],[]⟩=ay ():=by kernel_rfl
theorem Py:gd fd "bytearray.__new__"=D Builtin.«list.__new__»:=entryFor_alias (by refine ae (fastTable_eq_tree ..) ?_;kernel_rfl) (by first|rfl|decide+kernel) (id':="list.__new__") (by decide+kernel)<|by refine ae (fastTable_eq_tree ..) ?_;kernel_rfl
theorem Go:plainId "bytearray.__new__"=true:=by decide+kernel
end BA
theorem AH{N:Decidable a1}{a0:Type}{n:a1->a0}{e:¬a1->a0}{g:a0}(b:¬a1)(a:e b=g):(@dite a0 a1 N n e)=g:=(dif_neg b).trans a
theorem Pz{o:String}(a:yg.contains o=false):Builtin.Bytes.decodersThatHold.contains o=false:=by
 unfold yg at a
 rw[rf,List.any_append,Bool.or_eq_false_iff]at a;exact ae rf a.1
theorem PA:∃u:db×bp->Bool,(po b6=do return (<-stack).any u)/\∀c,xl c.1=false->u c=false:=by
 refine sn _ B<|λc a=>?_;obtain⟨h,s⟩:=c;cases h with
 |builtin o b=>
  have a:yg.contains o=false:=a
  delta PySem.Builtin.Bytes.exported.match_1 PySem.Builtin.Bytes.exported._sparseCasesOn_1 PySem.Builtin.Bytes.exported._sparseCasesOn_2
  refine AH (a1:=o="bytearray.__contains__") (λf=>tC<|(f▸a).symm.trans<|by decide+kernel)<|AH (a1:=o="bytearray.__mod__") (λf=>tC<|(f▸a).symm.trans<|by decide+kernel)<|AH (a1:=o="bytearray.__rmod__") (λf=>tC<|(f▸a).symm.trans<|by decide+kernel)<|AH (a1:=o="_struct.pack_into.held") (λf=>tC<|(f▸a).symm.trans<|by decide+kernel)<|AH (a1:=o="bytearray.find.held") (λf=>tC<|(f▸a).symm.trans<|by decide+kernel) ?_;obtain⟨V,a'⟩:=b;cases V with
  |nil=>rfl
  |cons k V=>exact Bool.and_eq_false_iff.mpr<|.inr<|Pz a
 |_=>rfl
abbrev wg(a:ba)(b:al)(U:Array UInt8):Prop:=a.get? b=D {cls:=.type "bytearray",data:=.bytearray U 0}
section
variable{a2:ab->ai->Prop}
theorem PB(a:a4 false l):rY d y (po b6) a4 a2 l:=λb s r h=>by
 refine sh (@PA b6) λu e g=>J e ?_;unfold stack;refine J (Sem.wp_bind' ..) ?_;rw[Sem.wp_stack];show a4 (List.any ((b.code,s)::b.below) u) l;rw[List.any_eq_false.mpr λc i=>(Bool.not_eq_true _).mpr<|(List.mem_cons.mp i).elim (λf=>g c<|J f h.1) λf=>g c<|h.2 c f];exact a
theorem Gp(a7:wg l.heap b U)(a:a4 false l):rY d y (po (.ref b)<||>(do return (<-Builtin.Bytes.exportsOf (.ref b))>0)) a4 a2 l:=by
 refine .sf<|PB<|.sf<|toI ?_;exact ah<|fw a7<|as<|rY.sF a
theorem vo{b g:au a0}{a4:a0->ai->Prop}(a:h=false)(a7:rY d y g a4 a2 l):rY d y (if h=true then b else g) a4 a2 l:=J a a7
theorem BD{b g:au a0}{a4:a0->ai->Prop}(a:h=true)(c:rY d y b a4 a2 l):rY d y (if h=true then b else g) a4 a2 l:=J a c
theorem Gq(a7:wg l.heap b U)(a:a4 () l):rY d y (rg<|.ref b) a4 a2 l:=.sf<|Gp a7<|.sF a
theorem Dc(a7:wg l.heap b U)(c:(u U).size<=2000000)(a:∀a3,wg a3 b (u U) ->cf b l.heap a3->a4 () {l with heap:=a3}):ap d y (nn (.ref b) u) a4 a2 l:=by
 show ap d y (updateBytearray b u) a4 a2 l;have x:(l.heap.update b<|Obj.mapBytearray u).get? b=D {cls:=.type "bytearray",data:=.bytearray (u U) 0}:=fy _ a7 B;refine ah<|fw a7<|ah<|wpAny_update a7<|pp x (am ?_)<|a _ x<|gu ..;exact Nat.not_lt.mpr<|aa c<|by refine sa ch ?_;decide
end
section
variable{a2:ab->ai->Prop}
theorem sV.gV{o:String}{P:cs->ai->Prop}(a7:gd fd o=D g)(a:rY (aq T v) (y.under<|.builtin o b) (g b) (A7 (aq T v) y P) (λe Y=>P (.error e) Y) l):sV (aq T v) y (.builtin o b) P l:=by
 refine sV.cI<|(?_:rY _ _ (match gd fd o with|some g=>g b|none=>unsupported<|(withoutEnding? o "#data").getD o) _ _ l);exact J a7 a
theorem sV.jL{o:String}{P:cs->ai->Prop}(c:plainId o=true)(a8:yg.contains o=false)(a7:gd fd o=D g) (a:rY (aq T v) y.in1 (ip o b) (λ_ d=>rY (aq T v) y.in1 (g b) (A7 (aq T v) y P) (λe Y=>P (.error e) Y) d) (λe Y=>P (.error e) Y) l):sV (aq T v) y (.call (.builtin o) b) P l:=by
 refine sV.cI<|(?_:rY _ y.in1 (do ip o b;again<|.builtin o b) _ _ l);refine .sf<|a.uE λ_ d f=>.sF<|tG (nd c b) a8<|.gV a7 ?_;exact J (rh c b)<|f
theorem Dd{b0:String}{o:String}(a0:Slot b0 a' o)(b:l.TypeIs b6 b0)(a8:yg.contains o=false)(a7:gd fd o=D g)(c:argsOk o ⟨b6::O,[]⟩) (d:rY (aq T v) y.in1 (g ⟨b6::O,[]⟩) (λa Y=>∃k,a=.done (.ret k)/\a4 k Y) a2 l):rY (aq T v) y (aw (.builtin o)<|b6::O) a4 a2 l:=.yE<|sV.jL a0.plain a8 a7<|toI<|a0.check _ _ _ _ _ _ _ _ b c<|d.uE λa Y f=>by obtain⟨k,rfl,f⟩:=f;exact f
theorem PC(a7:wg l.heap b U)(a:0<=L)(S:L<256)(c:U.size<2000000)(d:∀a3,wg a3 b (U.push L.toNat.toUInt8) ->cf b l.heap a3->a4 .none {l with heap:=a3}): rY (aq T v) y (aw (.builtin "bytearray.append") [.ref b,.int L n]) a4 a2 l:=by
 refine Dd BA.Gl (sn _ a7 B) (by decide+kernel) BA.Pp (by kernel_rfl) ?_;refine .sf<|toI<|bq B ?_;refine .sf<|toI<|ah<|bq B<|ca (Bool.or_eq_false_iff.mpr ⟨cd<|Int.not_lt.mpr a,cd<|Int.not_le.mpr S⟩)<|as ?_;exact .sf<|Gq a7<|.sf<|toI<|Dc a7 (by refine J (Array.size_push ..) ?_;exact c) λa3 e f=>.sF<|sn _ B<|d a3 e f
theorem PD(a7:wg l.heap b U)(e:U.size+a.size<=2000000)(f:∀a3,wg a3 b (U++a) ->cf b l.heap a3->a4 .none {l with heap:=a3}): rY (aq T v) y (aw (.builtin "bytearray.extend") [.ref b,.bytes a n]) a4 a2 l:=by
 refine Dd BA.Gm (sn _ a7 B) (by decide+kernel) BA.Pq (by kernel_rfl) ?_;have d:rY (aq T v) y.in1 (nn (.ref b) (·++a)>>=λ_=>ret .none) (λg Y=>∃k,g=Fin.done (.ret k)/\a4 k Y) a2 l:=.sf<|toI<|Dc a7 (by refine J la ?_;exact e) λa3 h i=>.sF<|sn _ B<|f a3 h i;refine .sf<|toI<|bq B ?_;have c:=dg l a n;refine .sf<|toI<|dp c BA.yW<|BD B<|.sf<|toI<|fa ?_;refine .sf<|toI ?_;refine ah<|ah<|fw a7<|as<|as<|.sf<|toI ?_;refine ah<|ii<|ah<|dp c BA.yW ?_;refine ah<|Bp c BA.yW (by decide+kernel) (by decide+kernel) jq<|ca B<|ah<|dp c BA.yW<|ah<|NZ<|as<|as<|BD B ?_;refine(?_:rY _ _ (if !a.isEmpty then rg (.ref b)>>=λ_=>nn (.ref b) (·++a)>>=λ_=>ret .none else nn (.ref b) (·++a)>>=λ_=>ret .none) _ _ l);cases !a.isEmpty
 ·exact d
 ·exact .sf<|Gq a7 d
end
section
variable{a2:ab->ai->Prop}
theorem PE(a:b (.ref l.heap.objs.size) {l with heap:=l.heap.push {cls:=.type "bytearray",data:=.bytearray #[]}}): h_ (aq T v) y (.call (.builtin "bytearray.__new__") ⟨[.type "bytearray"],[]⟩) (wants b a2) l:=by
 refine codeAny_of_tree<|ah<|bq BA.Px<|as ⟨nd BA.Go _,codeAny_builtin_stack BA.Py B λs E=>?_⟩;refine(rh BA.Go _)▸?_;dsimp only;refine(az<|G (λw=>List.headD w "") split_bytearray)▸?_;refine ah<|bq B<|ca B<|ah<|bq BA.Ay<|ca B<|ah<|as ?_;exact ah<|ej (as a)<|cc _
theorem PF(a7:wg l.heap b #[])(a:∀a3,wg a3 b #[] ->cf b l.heap a3->a4 .none {l with heap:=a3}):rY (aq T v) y (aw (.builtin "bytearray.__init__") [.ref b]) a4 a2 l:=by
 refine Dd BA.BC (sn _ a7 B) (by decide+kernel) BA.Pr (by kernel_rfl) ?_;refine .sf<|toI<|FI a7 B<|vo B<|.sf<|toI<|bq BA.Pv<|.sf<|toI<|bq B<|.sf<|toI<|bq B ?_;refine .sf<|Gp a7<|vo B<|.sf<|toI<|Dc a7 (cc _) λa3 c d=>.sf<|vo B<|vo B<|.sF<|.sF<|sn _ B<|a a3 c d
theorem PG{P:cs->ai->Prop}(c:∀a3,(∀g j,l.heap.get? g=D j->a3.get? g=D j) ->wg a3 l.heap.objs.size #[] ->P (.ok<|.ret<|.ref l.heap.objs.size) {l with heap:=a3}):sV (aq T v) y (.builtin "type.__call__" ⟨[.type "bytearray"],[]⟩) P l:=by
 refine sV.gV F.entry_type_call<|J (Around.under_plain (weight_type_call_type "bytearray" [] []) B) ?_;unfold Builtin.«type.__call__»;refine vo BA.Db.notType<|vo BA.Db.canCreate<|.sf<|toI<|bq BA.Pw<|.sf<|toI<|bq BA.Da<|vo B<|.sf<|toI<|bq BA.Db.made ?_;refine .sf<|.sF<|.sf<|.tD<|.yE<|toIc<|PE ?_;have a7:wg (l.heap.push {cls:=.type "bytearray",data:=.bytearray #[]}) l.heap.objs.size #[]:=cl _ B;have a:∀g j,l.heap.get? g=D j->(l.heap.push {cls:=.type "bytearray",data:=.bytearray #[]}).get? g=D j:=λg j e=>cg _ e;generalize l.heap.push {cls:=.type "bytearray",data:=.bytearray #[]}=d at a7 a⊢
 have b:({l with heap:=d}).TypeIs (.ref l.heap.objs.size) "bytearray" :=sn _ a7 B;refine .sf<|toI<|ik b BA.Ay<|vo B<|.sf<|.tD<|.sf<|toI<|dp b BA.BC.lookup ?_;refine rY.tD<|.sf<|toI<|bq (BA.BC.bind _)<|.sf ?_;exact PF a7 λa3 f h=>.sF<|vo B<|.sF<|c a3 (λg j e=>(h.2 g<|et<|eg e).trans<|a g j e) f
theorem PH(a:∀a3,(∀g j,l.heap.get? g=D j->a3.get? g=D j) ->wg a3 l.heap.objs.size #[] ->a4 (.ref l.heap.objs.size) {l with heap:=a3}):rY (aq T v) y (aw (.type "bytearray") []) a4 a2 l:=by
 refine .yE<|sV.cI ?_;exact .sF<|tG (pq _<|by decide+kernel) (show yg.contains "type.__call__"=false by decide+kernel)<|PG a
end
section
variable{k:ab} {s:rN} {j:sC} {a2:ab->ai->Prop}
theorem PI{s:bp}(b:vb c M (.type "bytearray")):y_ c (.Call (.Name M s) [] [] b6) .b:=λy T p x=>.gD b x λq e=>I.xG B (λa _=>sn .machine (.inr<|.inl B)<|hj B) (I.Cg ⟨x.k.h.C,by
  obtain rfl:=ak e;exact PH λa3 a6 a7=>.mk (.cU x.k a6)<|.mk (uW _) x.k.bT<|tv (#[]) a7 B<|cc _⟩)
theorem PJ(f:l.heap.PlainList b d)(a7:l.heap.PlainList g e)(a:d.size+e.size<=2000000) (h:∀a3,a3.PlainList b (d++e) ->cf b l.heap a3->a4 .none {l with heap:=a3}):ap (sj X) y (aw (.builtin "list.extend") [.ref b,.ref g]) a4 a2 l:=by
 refine bk f λi c=>bk a7 λn m=>?_;have a:¬d.size+e.size>gr:=Nat.not_lt.mpr<|aa a<|by refine sa ch ?_;decide
 refine hx ri (sn _ c B) PySem.F.entry_list_extend ?_<|PySem.F.args_list_extend_2 _ _;refine ah<|bq B ?_;refine ah<|jk a7.isList.typeIs<|ne (Bool.or_eq_true_iff.mpr<|.inl<|Bool.or_eq_true_iff.mpr<|.inr<|gs _)<|ah ?_;refine ah<|jo m B<|as ?_;refine ah<|ah<|jo c B<|as ?_;refine ca (Bool.and_eq_false_iff.mpr<|.inr<|cd a) ?_;refine ah<|pb c B ?_<|aa (ax ..)<|Nat.not_lt.mp a
 first
  |exact as ⟨.none,B,h _ (Gj c)<|gu ..⟩
  |exact wpAny_bind<|wpAny_pure<|wpAny_pure ⟨.none,rfl,h _ (Gj c)<|Heap.SameBut.update ..⟩
noncomputable def Gr(o:Bool)(j:sC):String:=@sC.casesOn (λ_=>String) j (λ_=>bif o then "list.extend" else "list.append") (λ_ _=>"") (λ_=>"") λ_=>bif o then "bytearray.extend" else "bytearray.append"
def Gs(o:Bool)(k:rN)(j:sC):Option sC:=bif o then yO k j else xO k j
theorem PK(e:tf X O l.heap b j)(h:ws j=true)(c:a4 (.builtin<|Gr o j,[.ref b]) l):ap (sj X) y (ez (.ref b) (bif o then("extend" :aj)else("append" :aj)) q) a4 a2 l:=by
 have d:∀{f:Obj},l.heap.get? b=D f->f.dict=none->∀g,iq b=.ref g->∃j,l.heap.get? g=D j/\j.dict=none:=λS n g m=>by obtain rfl:=gx m;exact sn _ S n
 cases j with
 |sr U=>
  refine sh e λV p v=>?_;obtain⟨i,a⟩:=p;cases o
  ·exact im ⟨_,a,B⟩ pf pg rj (d a B) c
  ·exact im ⟨_,a,B⟩ pf ri PySem.F.type_list_extend (d a B) c
 |tH g=>
  refine sh e λU a v=>?_;cases o
  ·exact im ⟨_,a,B⟩ BA.Gn BA.Gl BA.Ps (d a B) c
  ·exact im ⟨_,a,B⟩ BA.Gn BA.Gm BA.Pt (d a B) c
 |_=>exact tC h
theorem PL{i:List rN->Option a0}{f:a0}(a:s.aH (w:=i)=D f):∃r,s=.c r/\i r=D f:=@rN.casesOn (λs=>s.aH (w:=i)=D f->∃r,s=.c r/\i r=D f) s tg (λ_=>tg) (λ_=>tg) (λ_=>tg) (λ_=>tg) (λr a=>sn r B a) (λ_=>tg) (λ_ _ _=>tg) (λ_ _=>tg) (λ_=>tg) (λ_=>tg) a
theorem PM{i:List Int->Option a0}{f:a0}(a:s.aH (M:=i)=D f):∃r,s=.m r/\i r=D f:=@rN.casesOn (λs=>s.aH (M:=i)=D f->∃r,s=.m r/\i r=D f) s tg (λ_=>tg) (λ_=>tg) (λ_=>tg) (λr a=>sn r B a) (λ_=>tg) (λ_=>tg) (λ_ _ _=>tg) (λ_ _=>tg) (λ_=>tg) (λ_=>tg) a
theorem PN(N:sA X O l d)(u:tf X O l.heap b j)(p:rZ O z s)(a:Gs o s j=D b9) (q:∀a3,cf b l.heap a3->(∃P,a3.get? b=D P) ->tf X O a3 b b9->a4 .none {l with heap:=a3}):rY (sj X) y (aw (.builtin<|Gr o j) [.ref b,z]) a4 a2 l:=by
 cases j with
 |sr U=>
  cases o
  ·obtain⟨b5,a⟩:=vB<|a;obtain rfl:=ak a;exact toI<|CZ u p (vJ b5) q
  ·refine sh (PL<|show s.aH (w:=λr=>Mine.si (tQ<|U.length+r.length)<|D<|.sr<|U++r)=D b9 from a) λr f a=>?_;subst f;obtain⟨b5,a⟩:=vB a;obtain rfl:=ak a;refine tp u λV R c S=>sh p λg f T=>?_;subst f;refine tp (N.bJ T) λb3 W A a0=>?_;have b5:V.length+b3.length<=2000000:=sa c.aY.symm<|sa A.aY.symm<|aa (vJ b5)<|by decide
   exact toI (PJ R W b5 λa3 E m=>q a3 m ⟨_,E.choose_spec⟩<|tv (V++b3) (by refine sa (qP ..) ?_;exact E) (c.eD A)<|by refine J bm ?_;exact b5)
 |tH g=>
  refine tp u λU L c S=>?_;have w:U.size=g.length:=by refine sa c ?_;rw[a_];exact df
  cases o
  ·obtain⟨i,rfl,a⟩:=Gh<|a;obtain⟨h,a⟩:=vB a;obtain rfl:=ak a;obtain⟨n,rfl⟩:=p;have M:=tk h;have t:=tk M.2;have b5:=w▸vJ M.1;exact PC L (av t.1) (av t.2) (bb b5<|af ..) λa3 a7 m=>q a3 m ⟨_,a7⟩ (tv _ a7 (by
    refine ae (G _ Array.toList_push) ?_;refine ae fg ?_;refine J c ?_;refine ae (G _ ge) ?_;refine J (FK ⟨av t.1,av t.2⟩) ?_;rfl)<|by refine J (Array.size_push ..) ?_;exact aa (bw b5)<|af ..)
  ·obtain⟨r,rfl,x⟩:=PM<|a;obtain⟨b5,x⟩:=vB x;obtain rfl:=ak x;refine ul p λY n f e v=>?_;subst f;have b5:U.size+Y.size<=2000000:=by
    exact w▸df▸(a_<|λz:UInt8=>(z.toNat:Int))▸e▸(aa (vJ b5)<|by decide)
   exact PD L b5 λa3 a7 m=>q a3 m ⟨_,a7⟩ ⟨_,a7,by refine ae (G _ lb) ?_;refine ae fg ?_;refine J c ?_;exact G _ e,by refine J la ?_;exact b5⟩
 |_=>cases o<;>exact sq a
theorem PO{i:rN->Option a0}{f:a0}(a:tn O b3 a6)(e:yX a6 i=D f):∃z s,b3=[z]/\rZ O z s/\i s=D f:=by
 cases a with
 |n=>exact sq e
 |c b g=>cases g with
  |n=>exact⟨_,_,B,b,e⟩
  |c _ _=>exact sq e
theorem PP:rV.aN (vN c (.c e .n) T d) T (λa6 d=>yX a6 λs=>b' s d)=rV.aN (sZ c e T d) T b':=Bz (A:=sZ c e T d)
theorem Gt(u:c.rW.uc=true)(t:c.rW.tq r=D M)(a8:ua M)(a:uF c [n] (.c e .n))(v:(w.endLine==b6.line)=true) (A:∀d,uC c E T d=(sR T r).bind λj=>Mine.si (ws j)<|rV.aN (sZ c e T d) T λk d=>rV.aW (Gs o k j) r T d)(x:ss c y T p): uv c y p (exec (.Expr (.Call (.Attribute (.Name M a6) (bif o then("extend" :aj)else("append" :aj)) w) [n] [] b6) W) c.rW.sb) (uC c E T p.rS):=λq g=>by
 rw[A]at g;refine x.eC t g λj b h g=>?_;obtain⟨L,g⟩:=vB g;refine uM (exec_Expr _ _ _ (C7 x.l)<|w_ B) ?_;replace g:=PP▸g;refine .tz<|.sf<|I.CV .a (Ax a) (hy<|bu _) v<|toI<|wb x.l h.S a8 λX=>toI<|PK h.I L ?_;refine I.xG (a1:=λa=>c.sc.sN.StaysIn a) (Ax a) (λa _=>sn .machine (.inr<|.inl B)<|hj<|by cases j<;>cases o<;>rfl)<|CJ a<|(zE a y T p x).toS x g (λb3 a6 N l O g=>⟨l.n.h.C,?_⟩) λ_ _ f=>f;refine ul (PO O.1 g) λz s i P g=>?_;subst i;refine sh (BB g) λb9 R i=>?_;subst i;have m:=h.aF x l;refine PN l.n m.I P R λa3 S U V=>?_;have f:=m.cZ (b8:=N.rO.toks) u (x.aF l) t (.inl B) m.cG S U V;exact toI<|pk<|.e (l.bF.aM f.1) f.2
end
section
variable{k:rN}
theorem PQ:(ut i k a5).length<=a5.length+1:=by
 induction a5 with
 |nil=>exact bg _
 |cons u a5 a=>
  refine(?_:(if i=u.1 then(u.1,k)::a5 else u::ut i k a5).length<=_);by_cases f:i=u.1
  ·exact J (an f)<|ea _
  ·exact J (am f)<|bw a
theorem PR{a1:Nat->Prop}(d:a1 i)(a:∀u∈a5,a1 u.1):∀u∈ut i k a5,a1 u.1:=by
 induction a5 with
 |nil=>exactλu b=>J (List.mem_singleton.mp b) d
 |cons x a5 g=>
  have S:=a x bn;have c:=λu b=>a u<|br x b;refine(?_:∀u∈(if i=x.1 then(x.1,k)::a5 else x::ut i k a5),a1 u.1);by_cases f:i=x.1
  ·exact(an f)▸(λu b=>(List.mem_cons.mp b).elim (λe=>J e S)<|c u)
  ·exact(am f)▸(λu b=>(List.mem_cons.mp b).elim (λe=>J e S)<|g c u)
theorem PS(l:i<tW.length)(g:rZ O z k)(a:wP O W a5):(∀u∈a5,u.1<tW.length) ->wP O (putIn (·.key.isStr<|te i) (λe=>{e with val:=z}) ⟨b,.str (te i) n,z⟩ W) (ut i k a5):=by
 induction a with
 |n=>exactλ_=>.c ⟨⟨n,B⟩,g⟩ .n
 |@c e u W a5 a q o=>
  intro h;obtain⟨⟨j,d⟩,p⟩:=a;have a':=Fp d l<|h u bn;refine(?_:wP O _ (if i=u.1 then(u.1,k)::a5 else u::ut i k a5));by_cases f:i=u.1
  ·exact J (an f)<|J (putIn_hit (λc:jf=>c.key.isStr<|te i) _ _ e W<|a'.trans<|bd f)<|.c ⟨⟨j,d⟩,g⟩ q
  ·exact J (am f)<|J (putIn_miss (λc:jf=>c.key.isStr<|te i) _ _ e W<|a'.trans<|cd f)<|.c ⟨⟨j,d⟩,p⟩<|o λu m=>h u<|br _ m
end
section
theorem Gu{l:ai}(d:l.heap.get? c=D a)(f:a.data=.dict W g):∃t,(l.heap.update c<|no a' b p k).get? c=D {a with data:=.dict (putIn (·.key.isStr a') (λe=>{e with val:=k}) ⟨b,p,k⟩ W.toList).toArray t}:=by
 obtain⟨b3,h,i,a0⟩:=a;obtain⟨w⟩:=W;subst f;have m:=putName_eq a' b p k b3 h w g a0;exact⟨_,(fy _ d<|by refine ae (G _ m) ?_;rfl).trans<|G D m⟩
theorem PT{R:dm}{P:cs->ai->Prop}(f:Au X R h)(b5:X.sN.StaysIn l.heap)(c:wQ X O l.heap b h a5)(d:(sK.a h i&&vF a5)=true)(o:i<tW.length)(Y:O b≠.e b)(a0:rZ O k s) (a2:∀a a3 b8,O a=.e b->cf a l.heap a3->(∃j,a3.get? a=D j) ->(∃j,l.heap.get? a=D j/\∀V,j.data≠.fields V) ->wQ X O a3 b h (ut i s a5) ->P (.ok<|.ret .none) {l with heap:=a3,toks:=b8}): h_ (sj X) y (.call (.builtin "object.__setattr__") ⟨[.ref b,.str (te i) n,k],[]⟩) P l:=by
 obtain⟨M,a,a4,W,a8,w,x,N,S,z,e,A,T⟩:=c.i;have d:=tk d;have a1:=f.d.keeps b5;have p:=λu p=>(c.g u p).2;have U:(ut i s a5).length<=1001:=aa PQ<|bw<|av d.2;refine osa_open (r:=none) a1 (⟨w,x,N.1,by refine J S ?_;exact e⟩:InstAt l.heap b M (Mine.s_.sM X h) (D a4)) f.l (by unfold takerIn;refine J (f.i i d.1 o) ?_;rfl) λg=>sh (any_some f.g) λa9 a6 a7=>ah<|as<|ah<|ah<|np w ?_;refine J x<|J S<|ah ?_;refine Looks.here (looks_clsIn a1 a6)<|(az a7)▸(as (a:=D a)<|ah<|as<|ah ?_);refine ah<|ah<|ol<|as<|ah<|jv<|ah<|np e ?_;refine J A ?_;have h:aRefKeyMayBeTheName (te i) W=false:=by
  refine ae (aRefKeyMayBeTheName_at ..) ?_;refine sa Array.any_toList<|sa Array.any_toList ?_;exact ae (G _<|(CH o T p).2.2)<|jw ..
 refine ca h ?_;obtain⟨t,r⟩:=Gu e A;have q:=PS (b:=lv X.v_.params<|te i) (n:=l.toks) o a0 T p;have E:cf a l.heap (l.heap.update a<|no (te i) (lv X.v_.params<|te i) (.str (te i) l.toks) k):=gu ..;refine wpAny_updatePart e (?_:ap _ _ _ _ _ {l with heap:=l.heap.update a<|no (te i) (lv X.v_.params<|te i) (.str (te i) l.toks) k,toks:=l.toks+1});generalize l.heap.update a (no (te i) (lv X.v_.params<|te i) (.str (te i) l.toks) k)=a3 at r E⊢
 refine ah<|pp r (pastItsLine_dict<|by refine J fh<|J q.aY ?_;exact aa U<|by refine sa ch ?_;decide)<|as ?_;exact a2 a _ _ z E ⟨_,r⟩ (sn _ e<|λV m=>nomatch A.symm.trans m) ⟨⟨M,a,_,_,t,(E.2 b λv=>Y<|v▸z).trans w,x,N,S,z,r,B,q⟩,PR (a1:=λL=>sK.a _ L=true/\L<tW.length) ⟨d.1,o⟩ c.g,c.j,aa U<|af ..⟩
theorem Gv{a2:ab->ai->Prop}{R:dm}(d:Au X R h)(b5:X.sN.StaysIn l.heap)(c:wQ X O l.heap b h a5)(e:(sK.a h i&&vF a5)=true)(f:i<tW.length)(g:O b≠.e b)(m:rZ O k s) (n:∀a a3 b8,O a=.e b->cf a l.heap a3->(∃j,a3.get? a=D j) ->(∃j,l.heap.get? a=D j/\∀V,j.data≠.fields V) ->wQ X O a3 b h (ut i s a5) ->a4 () {l with heap:=a3,toks:=b8}): ap (sj X) y (setAttr (.ref b) (te i) k) a4 a2 l:=by
 obtain⟨o,a,p,W,v,q,r,t,S,w,u,x,z⟩:=c.i;exact set_plain (d.d.keeps b5) (⟨q,r,t.1,by refine J S ?_;exact u⟩:InstAt l.heap b o (Mine.s_.sM X h) (D p)) d.k<|PT d b5 c e f g m n
end
section
theorem De{j:sC}{i:Nat->List (Nat×rN) ->Option a0}{f:a0}(a:j.tb (h:=i)=D f):∃h a5,j=.sW h a5/\i h a5=D f:=@sC.casesOn (λj=>j.tb (h:=i)=D f->∃h a5,j=.sW h a5/\i h a5=D f) j (λ_=>tg) (λh a5 a=>uw h a5 B a) (λ_=>tg) (λ_=>tg) a
theorem Gw{a2:ab->ai->Prop}(x:ss c y T p)(l:rZ p.rP z s)(n:vg p.rS s i m=D a9)(o:i<tW.length)(q:rZ p.rP k m) (r:∀Y,sJ (c.sI y) p ⟨p.rP,Y,a9⟩ ->a4 () Y):ap (sj c.sc) y (setAttr z (te i) k) a4 a2 p.rO:=by
 refine sh (Gi<|show s.aH (a:=λa=>(p.rS[a]?).bind λj=>j.tb (h:=λh a5=>Mine.si (sK.a h i&&vF a5)<|D<|p.rS.set a<|.sW h<|ut i m a5))=D a9 from n) λt e d=>?_;subst e;refine sh l λb e f=>?_;subst e;refine sh (Option.bind_eq_some_iff.mp d) λj S d=>tP (De d) λh a5 e d=>?_;subst e;obtain⟨u,d⟩:=vB d;obtain rfl:=ak d;refine sh (x.k.h.F b t f) λb9 v g=>?_;obtain rfl:=ak<|v.symm.trans S;obtain⟨R,w⟩:=x.u.a h<|wQ.j g;exact Gv w x.k.h.C g u o (by refine J f ?_;exact nofun) q λN a3 b8 A E L O M=>r _<|.bM x.k f (.inr A) E L M
theorem PU(g:sd c n e)(h:vz n=true)(j:sd c k E)(o:i<tW.length):sB c (.Assign [.Attribute k (te i) L] n b6) (.g E i e):=λy T p x q a=>by
 refine uM (pr _ _ _ _ _<|w_ h)<|.tz<|.sf<|(g y T p x).toS x a (λz s r l t a=>?_) λ_ _ f=>f;refine J (ps ..) ?_;have b:=x.aF l;refine .sf<|.sf<|.tD<|(j y T r b).toS b a (λv m P d u a=>?_) λ_ _ f=>.bB l.bF f;refine sh (C_ a) λa9 w A=>?_;subst A;exact .tz<|.sf<|.tD<|toI<|Gw (b.aF d) u w o (t.aQ d.r.y) λY f=>toI<|jb<|.sF<|.e (l.aM<|d.aM f).bF<|(b.aF d).aF f
theorem PV(t:c.rW.uc=true)(o:c.rW.tq r=D M)(a8:ua M)(u:sd c n e)(v:vz n=true)(w:i<tW.length):sB c (.Assign [.Attribute (.Name M a6) (te i) W] n b6) (.i r i e):=λy T p x q a=>x.eC o a λj b A a=>by
 refine uM (pr _ _ _ _ _<|w_ v)<|.tz<|.sf<|(u y T p x).toS x a (λz s X l E a=>?_) λ_ _ f=>f;refine J (ps ..) ?_;have d:=A.aF x l;have k:=x.aF l;refine sh (BB a) λb9 g m=>?_;subst m;refine tP (De g) λh a5 m g=>?_;subst m;obtain⟨L,g⟩:=vB g;obtain rfl:=ak g;obtain⟨R,N⟩:=k.u.a h<|wQ.j d.I;refine .sf<|.sf<|.tD<|toI<|wb k.l d.S a8<|.tz<|.sf<|.tD<|toI<|Gv N k.k.h.C d.I L w (by refine J d.W ?_;exact nofun) E λY a3 b8 O P S U V=>toI<|jb<|.sF ?_;have f:=d.cZ (b8:=b8) (b9:=.sW h<|ut i s a5) t k o (.inr O) U P S V;exact .e (l.bF.aM f.1) f.2
theorem PW(A:sd c n e)(L:sd c M E)(N:AG o=true)(O:i<tW.length):sB c (.AugAssign (.Attribute M (te i) R) (wc o) n b6) (.A o E i e):=λy T p x q g=>by
 refine uM (arm_exec_AugAssign_2 ..)<|.tz<|.sf<|(L y T p x).toS x g (λv s t l u g=>?_) λ_ _ f=>f;have j:=x.aF l;have a:so (c.sI y) t (hd R.atName>>=λ_=>getAttr v (te i) true>>=λr=>gm [r] (bz n c.rW.sb)>>=λk=>hd b6>>=λ_=>operate [r,k]<|inplaceOp (wc o) r k) (λp=>rZ p.rP) (rQ.aC (se (xK t.rS s i) t.rS) λz d=>rQ.aC (sZ c e T d) λk d=>se (vM o z k) d):=.aT<|(Fv j u).aC λr m P b S=>(A y T P<|j.aF b).aZ.aC λk a0 a1 w U=>.aT<|.dN<|Gg w.n N (S.aQ w.r.y) U;refine .sf<|.tD<|a.toS j g (λh m P b V g=>?_) λ_ _ f=>.bB l.bF f;refine sh (C_ g) λa9 W X=>?_;subst X;exact .tz<|.sf<|.tD<|toI<|Gw (j.aF b) (u.aQ b.r.y) W O V λY f=>I.Eo<|.sF<|.e (l.aM<|b.aM f).bF<|(j.aF b).aF f
end
def uy(X:s_)(E p:sE)(z:ab)(w:sm):Prop:=@sm.casesOn (λ_=>Prop) w False (rZ p.rP z) λj=>ux X E p j z
inductive yy(c:sL):List ag->List (Option tE) ->Q->Prop
 |a:yy c [] [] .n
 |b {n:ag} {e W:Q} {a5:List ag} {a':List (Option tE)}:yV c n e->yy c a5 a' W->yy c (n::a5) (none::a') (.c e W)
 |c {n:ag} {i:tE} {W:Q} {a5:List ag} {a':List (Option tE)}:xR n=true->y_ c n i->yy c a5 a' W->yy c (n::a5) (D i::a') W
abbrev Gx(c:sL)(a':List (Option tE))(W:Q)(T:sg)(d:rR):rQ (List sm):=yl (td c.t_ c.tF) c.tF a' W T d
section
variable{c:sL} {y:bj} {T:sg} {p:sE} {z:ab} {b6:bp} {W:Q} {a5:List ag} {a':List (Option tE)} {w:sm} {L:vv} {a:ba}
theorem ux.aF(l:sJ L d P)(t:ux L.sk p d A z):ux L.sk p P A z:=by
 cases t with
 |mk b g h=>exact .mk b (h.fT.elim λj f=>l.r.z _ j f g id)<|h.cR l.r g id
theorem uy.bB(l:sJ L p d)(t:uy L.sk d P z w):uy L.sk p P z w:=@sm.casesOn (λw=>uy L.sk d P z w->uy L.sk p P z w) w id (λ_=>id) (λj t=>by cases t with|mk b g h=>exact .mk (l.r.bT b) g h) t
theorem uy.aF(l:sJ L b P)(t:uy L.sk p b z w):uy L.sk p P z w:=@sm.casesOn (λw=>uy L.sk p b z w->uy L.sk p P z w) w id (λ_ t=>t.aQ l.r.y) (λj t=>ux.aF l t) t
theorem PX(a:yy c a5 a' W):∀y T p,ss c y T p->so (c.sI y) p (ef<|dd b6<|dj a5 c.rW.sb) (λj b3 X=>sU (uy c.sc p j) b3 X) (Gx c a' W T p.rS):=by
 induction a with
 |a=>exactλy T p x=>.cM x.k .n
 |b e _ f=>
  intro y T p x;refine J (wT e.a)<|(?_:so _ _ (ef<|(false,_)::dd b6 _) _ _);exact As CG<|(e.b y T p x).aC λz s g l k=>(f y T g<|x.aF l).aZ.aC λb3 X P b h=>.cM b.n<|sU.c (k.aQ b.r.y)<|h.bO λ_ _=>uy.bB l
 |@c n i W a5 a' m e _ f=>
  intro y T p x;refine J (wT m)<|(?_:so _ _ (ef<|(false,_)::dd b6 _) _ _);refine As CG ?_;exact(e y T p x).aC (x:=λA d=>rQ.aC (Gx c a' W T d) λX d=>sv (.sl A::X) d) λz A g l t=>(f y T g<|x.aF l).aZ.aC λb3 X P b h=>.cM b.n<|sU.c (ux.aF b t)<|h.bO λ_ _=>uy.bB l
structure za(X:s_)(P:tT)(O:sw)(a:ba)(T:sg)(g:Bool)(z:ab)(w:sm):Prop where
 c:ys X P O a z w
 p:g=true->yN w=true->∀L f b9,P.tq L=D f->T[L]?=D (.sl b9) ->¬to P.sb a f z
theorem za.eQ(R:ty P)(i:tA X P O a T)(E:vy P a a3 M z b4)(l:P.tq r=D M)(d:n=true->g=true/\yN b1=false)(t:za X P O a T g k w):za X P O a3 (T.set r b1) n k w:=⟨@sm.casesOn (λw=>ys X P O a k w->ys X P O a3 k w) w id (λ_=>id) (λj t=>Exists.imp (λb v=>vS v.1 v.2.1 v.2.2.1<|E.cK i.toFb v.2.1 v.2.2.1 v.2.2.2) t) t.c,λa7 m L f b9 h o q=>(vD o).elim (λv=>by
  have d:=v.2▸d;exact A4<|(d a7).2) λv=>t.p (d a7).1 m L f b9 h v.2<|(E.n f _ λe=>v.1<|R.inj L r M (sa e h) l).mp q⟩
theorem PY(a:wu g (w::X)=true):∃b,(b=true->g=true/\yN w=false)/\(yN w=true->g=true)/\wu b X=true:=by
 have a:(bif yN w then g&&wu false X else wu g X)=true:=a;cases m:yN w with
 |false=>rw[m]at a;exact⟨g,λf=>⟨f,B⟩,tC,a⟩
 |true=>have a:=m▸a;exact tv false nofun (λ_=>(tk a).1)<|(tk a).2
theorem PZ{d:List aj}{a0:List Nat}(a:sU (vc c.rW) d a0):∀{b3:List ab} {X:List sm} {p:sE} {T:sg} {g:Bool} {a4:Unit->ai->Prop} {a2:ab->ai->Prop},sU (za c.sc c.rW p.rP p.rO.heap T g) b3 X->X.length=a0.length->wu g X=true->ss c y T p-> (∀Y,ts c p ⟨p.rP,Y,p.rS⟩ ->ss c y (xN T a0 X) ⟨p.rP,Y,p.rS⟩ ->a4 () Y) ->ap (sj c.sc) y (ls (d.map λM=>bindName c.rW.sb M) b3) a4 a2 p.rO:=by
 induction a with
 |n=>
  intro b3 X p T g a4 a2 a w _ x h;cases a with
  |n=>exact as<|h p.rO (.aX x.k) x
  |c _ _=>cases w
 |@c M r d a0 i _ l=>
  intro b3 X p T g a4 a2 a w m x h;cases a with
  |n=>cases w
  |@c z b1 b3 X k n=>
   refine tp (PY m) λA o q s=>ah<|dz<|nm<|C1 x.l x.o.toFb i.c λa3 b8 b4 E=>?_;have f:=x.eQ (b8:=b8) E i k.c λj e L v b9 t _ u=>k.p (q<|e▸B) (e▸B) L v b9 t u;exact l (p:=⟨p.rP,_,p.rS⟩) (n.bO λ_ _=>za.eQ x.l x.o E i.a o) (fm w) s f.2 λY b b0=>h Y (f.1.aM b) b0
theorem sU.eA{P:a0->b1->Prop}{w:List a0}{A:List b1}(a:sU P w A):sU P w.reverse A.reverse:=by
 induction a with
 |n=>exact .n
 |c b _ d=>exact J pt<|J pt<|d.eD<|.c b .n
theorem uy.kE(x:ss c y T p)(l:sJ (c.sI y) p b)(t:uy c.sc p b z w):za c.sc c.rW b.rP b.rO.heap T true z w:=@sm.casesOn (λw=>uy c.sc p b z w->za c.sc c.rW b.rP b.rO.heap T true z w) w (λf=>f.elim) (λs t=>⟨t,λ_=>sD⟩) (λj t=>have f:=ux.iN x l t;⟨f.1,λ_ _=>f.2⟩) t
theorem P0(r:sU (vc c.rW) n a0)(a:yy c a5 a' W)(E:a0.length<=1000)(M:hz [.Tuple N i a6] (.Tuple a5 O P) c.rW.sb=ay (D n)):sB c (.Assign [.Tuple N i a6] (.Tuple a5 O P) b6) (.k a0 a' W):=λy T p x q k=>by
 obtain⟨R,k⟩:=vB k;have S:y.handled=none:=by
  have a8:=x.F;rw[((eo _).mp R:c.tF=false)]at a8;exact a8.aE
 refine J (pm ..) ?_;rw[C9 B];refine J M<|.tz<|.sf<|.sF<|.sf ?_;refine .tz<|.sf<|(PX a y T p x).toS x k (λb3 X d l s k=>?_) λ_ _ f=>f;obtain⟨h,k⟩:=vB k;obtain rfl:=ak k;have u:=ei (tk h).2;have v:=List.size_toArray.trans<|s.aY.trans u;refine toI<|ej ?_<|show b3.toArray.size<=gr by refine v▸?_;exact aa E<|by refine sa ch ?_;decide
 have A:IsTup (d.rO.heap.push {cls:=.type "tuple",dict:=none,data:=.seq b3.toArray}) d.rO.heap.objs.size b3.toArray:=⟨_,cl _ B,B,0,B⟩
 have o:∀g j,d.rO.heap.get? g=D j->(d.rO.heap.push {cls:=.type "tuple",dict:=none,data:=.seq b3.toArray}).get? g=D j:=λg j e=>cg _ e;generalize d.rO.heap.push {cls:=.type "tuple",dict:=none,data:=.seq b3.toArray}=a2 at A o⊢
 refine .sf<|.sF ?_;refine(?_:rY _ _ (rule "assign.swapped-stores" >>=λ_=>unpackItems (.ref d.rO.heap.objs.size) n.length none>>=λU=>ls (n.reverse.map λt=>bindName c.rW.sb t) U.reverse>>=λ_=>ay Flow.next) _ _ _);refine J r.aY<|sa v<|.sf<|toI<|fa<|.sf<|toI<|unpackItems_tuple S A λV a1=>?_;have m:sJ (c.sI y) d ⟨d.rP,{d.rO with heap:=V,toks:=d.rO.toks},d.rS⟩:=.cU l.n λg j e=>a1 g j (et<|eg<|o g j e)<|o g j e;exact .sf<|toI<|PZ r.eA (s.bO λ_ _ f=>uy.kE x (l.aM m)<|uy.aF m f).eA (by refine ae jl ?_;refine J jl ?_;exact u) (tk h).1 (x.aF<|l.aM m) λY b b0=>.sF<|.e ((l.aM m).bF.aM b) b0
end
section
variable{c:sL} {y:bj} {T N:sg} {p P:sE} {q:tR×sg×rR} {a2:al}
theorem xu{a:ba}{b':Prop}(t:a.get? g=none)(f:b=g)(e:a.get? b=D j):b':=sq<|t.symm.trans<|(G a.get? f).symm.trans e
theorem vH.jQ(x:ss c y T p)(t:p.rO.heap.get? a2=none)(a:ss c y N P)(q:P.rP a2=.c):vH (λb=>b=a2) c.rW P.rO.heap N where
 E f:=x.o.Qu.elim λA v=>(xq v).elim λj v=>xu t f v.1
 w M h m f:=(x.o.Qs M h m).2.2.elim λk v=>(Br v).elim λj v=>xu t f v.1
 z L M j b d e i f:=(a.o.C L M (.sl j) d e).elim λg v=>by
  obtain rfl:=gx<|to.cE v.1 i;exact sY.dF (f▸q) v.2.1
 F o l U n f:=by
  obtain⟨_,u,j,r,_,s,_⟩:=x.o.Qt o l;obtain rfl:=ak<|r.symm.trans n;exact xu t f s
theorem ss.iR{b8:ct}(x:ss c y T p)(t:p.rO.heap.get? a2=none)(a:ss c y N P)(q:P.rP a2=.c)(d:cf a2 P.rO.heap a3)(S:∃j,P.rO.heap.get? a2=D j/\∀V,j.data≠.fields V)(e:∃j,a3.get? a2=D j): ts c P ⟨P.rP,{P.rO with heap:=a3,toks:=b8},P.rS⟩/\ss c y N ⟨P.rP,{P.rO with heap:=a3,toks:=b8},P.rS⟩:=have f:=C2 a.k (.inr q) (x.k.h.bH t).2 (SameBut.eL d) e;⟨⟨f.1.aQ λb _ _ v=>J v<|tA.dR x.o.toFb a2 t,f.2⟩,a.eB (AC (SameBut.eL d)<|Bs S) f.2<|a.o.bI f.1<|vH.jQ x t a q⟩
theorem P1{A:rQ a0}{b':a0->rR->rV}(e:rV.aN A T b'=D q):∃m,A=D m:=by
 cases A with
 |none=>exact sq e
 |some m=>exact⟨m,B⟩
theorem P2(a:uU h)(g:CB h b3 a6 ⟨O,l,d⟩)(z:a6.length<=1000000)(L:h.wZ=D (fc (.Name M Y) h.ta.rW.sb))(o:vc h.ta.rW M r) (R:∀b2 i,ts h.ta h.tU ⟨b2,i,d⟩ ->ss h.ta h.tL (h.yt.set r<|.rL<|.c a6) ⟨b2,i,d⟩ ->h.yv .none i):h.yw (.ok .next) l:=by
 show I.yh _ _ _ h.wZ _ _ _ _ _;refine J L ?_;obtain⟨A,S⟩:=g.Qx;refine bk g.Qw λt s=>?_;have e:=a.g;have u:uV h.ta.sc O l.heap h.vE (.c a6):=tv b3 ⟨t,s⟩ g.Qu<|by refine J g.Qu.aY ?_;exact aa z<|af ..
 have b:=sJ.cW e.k g.Qs a.k g.Qt s u;have U:=CE g.Qt u;have n:=e.aF b;refine toI<|pi<|C1 n.l n.o.toFb o.c λa0 b8 w E=>?_;have f:=n.eQ (b8:=b8) E o (b1:=.rL<|.c a6) U λj=>nofun
 have V:h.vn≠w:=λv=>E.o.elim (λm=>e.o.Qu.elim λA t=>(xq t).elim λj t=>xu a.i (m.symm.trans v.symm) t.1) λm=>(e.o.Qs M w m).2.2.elim λk t=>(Br t).elim λj t=>xu a.i v.symm t.1;have x:=S.sameBut E.l V;refine sn A x<|λa1 a7 W X=>?_;have v:=ss.iR (b8:=b8) e a.i f.2 ((sw.bR _ _ λf=>a.gT f.symm).trans g.Qv) X (xq x)<|(xq W).imp λj f=>f.1;exact R _ _ (b.bF.aM<|f.1.aM v.1) v.2
theorem P3{h:vd}(x:ss h.ta h.tL h.yt h.tU)(a:AE h.ta h.xT h.xt h.zI h.uG h.zJ h.zK h.zL b7 h.yu h.zM)(m:wX h.ta.rW.sb h.uG.names [] h.wf)(j:rZ h.tU.rP z k)(n:tN k=D w)(o:w.length<=1000000)(s:tO h.yx w h.tU.rS=D h.vP) (t:h.wZ=D (fc (.Name M W) h.ta.rW.sb))(u:vc h.ta.rW M r)(v:∀e Y,tS h.xV h.tU h.vP e Y->h.ve e Y)(A:∀a6 d b2 b,h.vP=(.a a6,d) ->ts h.ta h.tU ⟨b2,b,d⟩ ->ss h.ta h.tL (h.yt.set r<|.rL<|.c a6) ⟨b2,b,d⟩ ->h.yv .none b): rY h.ur h.tL (gn z) (λb7 E=>rY h.ur h.tL (newList []) (λV L=>rY h.ur h.tL (kk h.uG h.ta.rW.sb.globals h.wf [] h.ta.rW.sb.qual none .none<|D h.ta.rW.sb) (λf R=>f.frame=h.ta.rW.sb.frame/\sV h.ur h.tL (.compStart (.ListComp h.xT [⟨h.xt,h.zI,[],0⟩] h.uG h.Bv) 0 b7 V {f with scope:=gp h.uG h.ta.rW.sb}) (I.yh (o:=h.ta.rW.sb) h.ur h.tL h.ve h.wZ h.yv V f.locals) R) h.ve L) h.ve E) h.ve h.tU.rO:=F4 x a.a m (a.f h.wf) (λb1 b4 a2 i=>a.b h.wf a2 i) v j n o s λb1 b4 a2 i S b3 a6 O l d g U e=>P2 S g U t u λb2 b=>A a6 d b2 b e
theorem P4(l:sJ (c.sI y) p a)(g:ss c y T a)(h:rQ.aC (D i) (λV d=>sv (rN.c V) d)=D j)(k:rV.aN (D j) T b'=D q)(e:ab)(Y:ai)(f:tS (c.sI y) a i e Y):vh c p q e Y:=by
 cases f with
 |mk b m=>obtain rfl:=ak h;obtain rfl:=ak k;exact((tS.mk b m).bF (a0:=List rN) B g).bB l.bF
abbrev Df(c:sL)(y:bj)(p:sE)(q:tR×sg×rR)(_:ab)(Y:ai):Prop:=rY (sj c.sc) y (ay ()) (λ_ Y=>rY (sj c.sc) y (ay Flow.next) (uI c y p q) (vh c p q) Y) (vh c p q) Y
theorem P5(l:sJ (c.sI y) p f)(g:rQ.aC (D h) (λV d=>sv (rN.c V) d)=D i)(j:rV.aN (D i) T (λk d=>D (.sS,T.set r<|.rL k,d))=D q)(a6:List rN)(d:rR)(b2:sw)(a:ai)(e:h=(.a a6,d))(b:ts c f ⟨b2,a,d⟩)(b0:ss c y (T.set r<|.rL<|.c a6) ⟨b2,a,d⟩):Df c y p q .none a:=by
 subst e;obtain rfl:=ak g;obtain rfl:=ak j;exact .sF<|.sF<|.e (l.bF.aM b) b0
theorem P6(a:AE c j i U a5 a0 E S b7 b' o)(h:vc c.rW M r)(n:swapsWith (.ListComp j [⟨i,U,[],0⟩] a5 d) (D<|.Name M a6) b6.line c.rW.sb=ay true): sB c (.Assign [.Name M a6] (.ListComp j [⟨i,U,[],0⟩] a5 d) b6) (.a r<|.o a0 E S b7 b'):=λy T p x q b=>by
 refine sh (F0 a.a.b) λs t m=>uM (exec_Assign_Name_used _ _ _ _ n)<|.tz<|.sf ?_;rw[show uC c (.a r<|.o a0 E S b7 b') T p.rS=_ from Bz (A:=sZ c b7 T p.rS)]at b;refine .sf<|I.Ep (a4:=Df c y p q) B a.e t a.a.a a.a.e<|(a.d y T p x).toS x b (λz k u l v b=>?_) λ_ _ f=>f;obtain⟨V,e⟩:=P1 b;rw[e]at b;exact wp (F5 e) λw A L O R g=>P3 (h:=⟨c,y,T,u,j,i,U,a5,d,a0,E,S,b',o,s,D<|fc (.Name M a6) c.rW.sb,Df c y p q,vh c p q,A,0,0,0,p.rO.heap⟩) (x.aF l) a m v L O R B h (P4 l (x.aF l) g b)<|P5 l g b
end
noncomputable def BE(a:List (aj×ab))(w:List (aj×ab)):List (aj×ab):=w.foldl (λa c=>if(a.lookup c.1).isNone then a++[(c.1,c.2)]else a) a
theorem P7{n:jx}{R:List PySem.Arg}{x:List (Option ag)}{s:List ag}{g:List ab}:∃d e:Option (Array ab) ->au (List<|aj×ab),bindArgs {n with params:=⟨[],R,none,[],x,none,s⟩} ⟨g,[]⟩=seqItems? n.defaults>>=λj=>let b4:=(j.getD #[]).toList;let o:=R.map (·.arg);if(decide (g.length>o.length)&&true)=true then d j else let a:=b4.drop (b4.length -o.length);if(!((o.take<|o.length -a.length).filter λt=>((o.zip g).lookup t).isNone).isEmpty)=true then e j else (forIn ((o.drop<|o.length -a.length).zip a) (o.zip g) λc b=>if(nl c.1 b).isNone=true then(ay (js<|b++[(c.1,c.2)]):au _)else ay<|js b)>>=λf=>ay<|(o++[]).filterMap λt=>(f.lookup t).map λk=>(t,k):=vK _ _ B
theorem Gy{a0:Type}{o:List aj}:∀{V:List a0} {r:Nat},o.Nodup->o[r]?=D c->(o.zip V).lookup c=V[r]?:=by
 induction o with
 |nil=>exactλ_ e=>sq e
 |cons b o a=>
  intro V r d e;have t:=List.nodup_cons.mp d;cases V with
  |nil=>rfl
  |cons g V=>
   refine J List.zip_cons_cons ?_;rw[wY];cases r with
   |zero=>obtain rfl:=ak e;exact an<|gs _
   |succ r=>
    have e:o[r]?=D c:=e;exact(am<|Bool.eq_false_iff.mp<|beq_eq_false_iff_ne.mpr λ(f:c=b)=>t.1<|sa f<|gy e)▸(a t.2 e)
theorem P8{o:List aj}:∀{R:List ab},R.length=o.length->(∀(r:Nat) (t:aj),o[r]?=D t->u t=(R[r]?).map λv=>(t,v)) ->o.filterMap u=o.zip R:=by
 induction o with
 |nil=>exactλ_ _=>B
 |cons b o c=>
  intro R w a;cases R with
  |nil=>cases w
  |cons v R=>(refine ae rk ?_;refine J (a 0 b B)<|J List.zip_cons_cons<|sa (c (fm w) λr t e=>a (r+1) t e) ?_);rfl
theorem Gz(a w:List (aj×ab))(c:aj):(a++w).lookup c=(a.lookup c).or (w.lookup c):=by
 induction a with
 |nil=>rfl
 |cons b a d=>
  refine ae (G _ List.cons_append) ?_;refine ae lu ?_;rw[lu];cases c==b.1 with
  |true=>rfl
  |false=>exact d
theorem P9(c:aj)(w:List (aj×ab)):∀a:List (aj×ab),(BE a w).lookup c=(a.lookup c).or (w.lookup c):=by
 induction w with
 |nil=>exactλa=>(Option.or_none).symm
 |cons b w d=>
  intro a;refine(?_:(BE (if(a.lookup b.1).isNone then a++[(b.1,b.2)]else a) w).lookup c=_);refine ae (d ..) ?_;rw[lu];cases m:c==b.1 with
  |true=>
   obtain rfl:=ei m;cases f:a.lookup b.1 with
   |none=>
    refine(?_:((a++[(b.1,b.2)]).lookup b.1).or (w.lookup b.1)=_);rw[Gz];refine J f ?_;rw[wY];refine J (an m) ?_;rfl
   |some k=>
    refine J f ?_;rfl
  |false=>
   cases f:(a.lookup b.1).isNone with
   |true=>
    refine(an B)▸?_;rw[Gz,wY];refine J (am<|Bool.eq_false_iff.mp m) ?_;exact J Option.or_none B
   |false=>exact(am ey)▸B
theorem P'(w:List (aj×ab)):∀a:List (aj×ab),(forIn w a λc d=>if(nl c.1 d).isNone=true then(ay (js<|d++[(c.1,c.2)]):au _)else ay<|js d)=ay (BE a w):=by
 induction w with
 |nil=>exactλa=>B
 |cons b w e=>
  intro a;refine ae (nk ..) ?_;show _=ay (BE (if(a.lookup b.1).isNone then a++[(b.1,b.2)]else a) w);cases(a.lookup b.1).isNone with
  |true=>exact e _
  |false=>exact e _
theorem GA{k:Nat}(S:k<=t)(a:N<=t)(b:t<=k+N):k+(N -(k -(t -N)))=t:=by
 have i:=Nat.sub_le_iff_le_add.mpr b;rw[<-nq (Nat.sub_le_iff_le_add.mpr<|J (ds a)<|S)];refine J (bh k N) ?_;rw[nq<|el ..];exact J (Nat.sub_sub_self i)<|ds a
theorem P_(z:n.params=⟨[],R,none,[],x,none,s⟩)(A:R.map (·.arg)=o)(p:o.Nodup)(q:g.length<=o.length)(b:b4.length<=o.length)(t:o.length<=g.length+b4.length) (a8:∀(d:es) (y:bj) (a2:ab->ai->Prop) (a4:Option (Array ab) ->ai->Prop),(∀j:Option (Array ab),(j.getD #[]).toList=b4->a4 j l) ->ap d y (seqItems? n.defaults) a4 a2 l): BindsTo l n ⟨g,[]⟩ (o.zip<|g++b4.drop (g.length+b4.length -o.length)):=by
 have e:n={n with params:=⟨[],R,none,[],x,none,s⟩}:=by cases n;subst z;rfl
 refine vT (P7 (n:=n) (R:=R) (x:=x) (s:=s) (g:=g)) λO P b2=>?_;intro d y a2 a4 h;refine J e ?_;refine uL b2 ?_;refine J A ?_;have a:=Nat.sub_le_iff_le_add.mpr t;rw[<-Nat.sub_sub_right _ b]at h;refine ah<|a8 d y a2 _ λj E=>?_;dsimp only;refine J E<|J (qR b)<|J List.drop_zero ?_;generalize M:o.length -b4.length=i at a h⊢
 have f:=λr c e=>Gy (V:=g) (r:=r) (c:=c) p e;refine ca (Bool.and_eq_false_iff.mpr<|.inl<|cd<|Nat.not_lt.mpr q)<|ca ?_ ?_
 ·refine J (Bool.not_eq_false' ..) ?_;rw[List.isEmpty_iff,List.filter_eq_nil_iff];intro c N;refine bk (rl N) λr k=>?_;have u:=(List.getElem?_eq_some_iff.mp k).1;rw[ek]at u;have w:=ar u<|hi ..;rw[rm w]at k;exact J (f r c k)<|J (d_<|ar w a) ey
 ·refine J (P' ..)<|ah<|as<|as ?_;refine(dh ..)▸?_;rw[P8 ?_ λr c e=>?_]
  ·exact h
  ·refine ae bm ?_;refine ae (G _ hw) ?_;exact sa M<|GA q b t
  ·refine ae (G _<|P9 ..) ?_;refine J (f r c e) ?_;rcases cm r g.length with m|m
   ·refine J (fu m)<|J (d_ m) ?_;rfl
   ·rw[gg m,ir m,Option.none_or,Gy (r:=r -i) ((List.drop_sublist ..).nodup p)<|by refine ae (List.getElem?_drop) ?_;refine ae (G _<|ds<|aa a m) ?_;exact e,List.getElem?_drop];exact G (λL=>b4[L]?.map λv=>(c,v)) ((bh _ _).trans<|Nat.sub_add_sub_cancel m a).symm
section
variable{T:jc} {v:co} {y:bj} {l:ai}
theorem sV.jM{b':List be}{o:cj}{P:cs->ai->Prop} (a:rY (aq T v) (y.deeper o) (du b' o) (λu Y=>P (.ok<|.ret<|match u with|.ret k=>k|_=>.none) Y) (λe Y=>rY (aq T v) (y.deeper o) (leaving o e) (λ_ b=>P (.error e) b) (λc0 b=>P (.error c0) b) Y) l):sV (aq T v) y (.func b' o) P l:=by
 refine sV.cI<|(?_:rY _ (y.deeper o) (do point;match<-(du b' o).onRaise (leaving o)with|.ret k=>ret k|_=>ret .none) _ _ l);refine .sf<|toI<|wpAny_point<|.sf<|.wG<|a.uE λu Y a3=>?_;cases u<;>exact .sF a3
theorem sV.jN{P:cs->ai->Prop}{b:al}{j:Obj}{n:jx}{b':List be}{g:List ab}{d:List (aj×ab)} (p:y.depth<kw)(q:l.heap.get? b=D j)(r:j.data=.func n)(s:l.heap.NoLimit)(t:l.heap.CodeRec n.code n.qualname) (w:n.body=.stmts b')(x:BindsTo l n ⟨g,[]⟩ d)(z:n.closure=[]) (A:∀c∈d,n.scope.names.lookup c.1=D .local\/(n.scope.names.lookup c.1=D .cell/\((lw (l.heap.objs.size+1) n.scope.names []).lookup c.1).isSome=true)) (a:∀i,InCallC l (ep n l.heap.objs.size b).locals (bindL (ep n l.heap.objs.size b).kindOf d λ_=>none) (ep n l.heap.objs.size b).cells (bindC (ep n l.heap.objs.size b).kindOf d λ_=>none) i-> rY (aq T v) (y.deeper<|ep n l.heap.objs.size b) (du b'<|ep n l.heap.objs.size b) (λu Y=>P (.ok<|.ret<|match u with|.ret k=>k|_=>.none) Y) (λe Y=>rY (aq T v) (y.deeper<|ep n l.heap.objs.size b) (leaving (ep n l.heap.objs.size b) e) (λ_ f=>P (.error e) f) (λc0 f=>P (.error c0) f) Y) i) (E:n.scope.isCoroutine=false)(L:n.scope.isGenerator=false)(M:n.scope.kind=.function):sV (aq T v) y (.call (.ref b) ⟨g,[]⟩) P l:=by
 refine sV.cI ?_;refine .sf<|toI<|fw q ?_;refine J r ?_;obtain⟨h,b3,V,U,m,N,O,R⟩:=t;refine(?_:rY _ _ (callFunction b n ⟨g,[]⟩) _ _ _)
 delta callFunction
 refine m▸?_;refine rY.sf<|toI<|cq N O R<|rY.sf<|rY.sF<|rY.sf<|toI<|x _ _ _ _ ?_;refine z▸m▸(.sf<|toI<|wpAny_newFunctionEnv_cells M A λo S Y c=>?_);subst S;refine .sf<|toI<|wpAny_enterFrame (s.keeps c.toInCall.keep) p ?_;exact J L<|J E<|J w<|.sF<|tG B B<|sV.jM<|a Y c
end
section
variable{d:aj->Option dr}
theorem Qa:∀{A:aj->Option ab},c∉w.map ij->bindL d w A c=A c:=by
 induction w with
 |nil=>exactλ_=>B
 |cons b q e=>
  intro A a;have a:=not_or.mp λf=>a<|List.mem_cons.mpr f;refine(e a.2).trans ?_;by_cases f:d b.1=D .local
  ·exact J (an f)<|am a.1
  ·exact hl (am f) _
theorem Qb:∀{A:aj->Option ab},c∉w.map ij->bindC d w A c=A c:=by
 induction w with
 |nil=>exactλ_=>B
 |cons b q e=>
  intro A a;have a:=not_or.mp λf=>a<|List.mem_cons.mpr f;refine(e a.2).trans ?_;by_cases f:d b.1=D .local
  ·exact hl (an f) _
  ·exact J (am f)<|am a.1
theorem Qc{a0:Type}{o:List aj}{V:List a0}(a:c∉o):c∉(o.zip V).map ij:=λf=>a<|by refine sh (List.mem_map.mp f) λs b e=>?_;subst e;exact(List.of_mem_zip b).1
theorem Qd{o:List aj}:∀{V:List ab} {r:Nat} {A a7:aj->Option ab},o.Nodup->o[r]?=D c->V[r]?=D z->(d c=D .local->bindL d (o.zip V) A c=D z)/\(d c≠D .local->bindC d (o.zip V) a7 c=D z):=by
 induction o with
 |nil=>exactλ_ e=>sq e
 |cons b o a=>
  intro V r A a7 f e b2;have t:=List.nodup_cons.mp f;cases V with
  |nil=>exact sq b2
  |cons g V=>
   cases r with
   |zero=>
    obtain rfl:=ak e;obtain rfl:=ak b2;have j:=Qc (V:=V) t.1;exact⟨λi=>(Qa j).trans<|by refine J (an i) ?_;exact an B,λi=>(Qb j).trans<|by refine J (am i) ?_;exact an B⟩
   |succ r=>exact a t.2 e b2
theorem GB:∀{i:Nat} {V:List (aj×al)},((c,jt)∈w\/(V.lookup c).isSome=true) ->((lw i w V).lookup c).isSome=true:=by
 induction w with
 |nil=>exactλa=>a.elim (λf=>nomatch f) id
 |cons b q g=>
  intro i V a;refine(?_:((if b.2==.cell then lw (i+1) q<|(b.1,i)::V else lw i q V).lookup c).isSome=true);have a:=a.imp List.mem_cons.mp id;by_cases m:(b.2==jt)=true
  ·refine J (an m)<|g ?_;rw[wY];by_cases f:(c==b.1)=true
   ·exact J (an f)<|.inr B
   ·exact J (am f)<|a.imp (λa=>a.elim (λe=>absurd (beq_iff_eq.mpr<|G ij e) f) id) id
  ·exact J (am m)<|g<|a.imp (λa=>a.elim (λe=>absurd (beq_iff_eq.mpr (G Prod.snd e).symm) m) id) id
end
noncomputable def yz(w:List Nat):aj:=⟨w.toArray⟩
def tX(a0:List (List Nat))(r:Nat):Option aj:=(a0[r]?).bind λl=>bif l.isEmpty then none else D<|yz l
structure Dg(X:s_)(c:cy)(d:List be)(o:List aj)(b4:List ab)(j:Obj)(n:jx):Prop where
 e:j.data=.func n
 f:X.sN.CodeRec n.code n.qualname
 g:∃R x s,n.params=⟨[],R,none,[],x,none,s⟩/\R.map (·.arg)=o
 d:n.body=.stmts d
 h:n.closure=[]
 i:n.globals=cb
 k:n.builtins=ff
 c:n.scope=c
 l:(b4=[]/\n.defaults=.none)\/∃b0 a b,n.defaults=.ref b0/\X.sN.get? b0=D a/\a.data=.seq b4.toArray b
abbrev wz(N:sx)(a0:List (List Nat)):List aj:=(a0.take N.a).map yz
structure wA(X:s_)(b:al)(N:sx)(a0:List (List Nat))(a5:cy)(b':List be)(b4:List ab):Prop where
 o:∃j n,X.sN.get? b=D j/\Dg X a5 b' (wz N a0) b4 j n
 d:tn (λ_=>.b) b4 N.b
 f:a5.kind=.function
 h:a5.isCoroutine=false
 i:a5.isGenerator=false
 k:N.a<=a0.length
 e:N.b.length<=N.a
 l:∀r,r<N.a->∃c,tX a0 r=D c/\(wz N a0)[r]?=D c
 m:(wz N a0).Nodup
 inj:∀r L c,tX a0 r=D c->tX a0 L=D c->r=L
 g:∀r c,tX a0 r=D c->a5.names.lookup c=D .local\/(a5.names.lookup c=D .cell/\(c,jt)∈a5.names)
def vp(o:cj)(U:al)(c0:List cj)(a0:List (List Nat))(a7:ba)(b6:Option (aj×al)):tT:={sb:=o,uZ:=o::c0,tq:=tX a0,wR:=U,yQ:=a7,uc:=true,zz:=λ_=>False,zA:=b6}
structure yA(p:sE)(t:Nat)(a0:List (List Nat))(F:cy)(R:List ab)(o:cj)(U:al)(a:ai):Prop where
 Qz:∃a3 b8,a={p.rO with heap:=a3,toks:=b8}
 Qs:∀b j,p.rO.heap.get? b=D j->a.heap.get? b=D j
 I:p.rO.heap.get? U=none
 Z:o.locals=U
 Qu:o.frame=D U
 F:o.scope=F
 Qx:o.globals=cb
 Qy:o.builtins=ff
 Qv:∃A,a.heap.Ns U A
 Qw:∀c h,o.cells.lookup c=D h->p.rO.heap.get? h=none/\h≠U/\∃k,a.heap.IsCell h k
 Ra:∀c M h,o.cells.lookup c=D h->o.cells.lookup M=D h->c=M
 Rb:∀r c,tX a0 r=D c->o.kindOf c=D .local\/(o.kindOf c=D .cell/\∃h,o.cells.lookup c=D h)
 Qt:∀r c z,r<t->tX a0 r=D c->R[r]?=D z->to o a.heap c z
section
theorem Qe(k:wA X b N a0 a5 b' b4)(P:Dg X a5 b' (wz N a0) b4 j n) (d:InCallC p.rO (ep n p.rO.heap.objs.size b).locals (bindL (ep n p.rO.heap.objs.size b).kindOf ((wz N a0).zip R) λ_=>none) (ep n p.rO.heap.objs.size b).cells (bindC (ep n p.rO.heap.objs.size b).kindOf ((wz N a0).zip R) λ_=>none) u): yA p N.a a0 a5 R (ep n p.rO.heap.objs.size b) p.rO.heap.objs.size u:=by
 have e:=λc=>G (λl:cy=>l.names.lookup c) P.c;have s:∀c,(c,jt)∈a5.names->∃h,(ep n p.rO.heap.objs.size b).cells.lookup c=D h:=λc a=>Option.isSome_iff_exists.mp<|GB<|.inl<|J P.c a;refine⟨d.toInCall.same,d.toInCall.keep,uW _,B,B,P.c,P.i,P.k,⟨_,d.toInCall.ns⟩,λc h m=>?_,λc M h o q=>name_of_addr d.apart (yY o)<|yY q,λr c a=>(k.g r c a).imp (λf=>(e c).trans f) λf=>⟨(e c).trans f.1,s c f.2⟩,λr c z a o q=>?_⟩
 ·have w:=d.above c h<|yY m;exact⟨pu<|bl w,λf=>kv _<|f▸w,_,d.cell c h m⟩
 ·refine sh (k.l r a) λM x y=>?_;obtain rfl:=ak<|o.symm.trans x;have g:=λA a7=>Qd (d:=(ep n p.rO.heap.objs.size b).kindOf) (A:=A) (a7:=a7) k.m y q;rcases k.g r c o with f|f
  ·exact .inl ⟨(e c).trans f,_,d.toInCall.ns,(g _ λ_=>none).1<|(e c).trans f⟩
  ·refine bk (s c f.2) λh t=>?_;have i:=(e c).trans f.1;exact .inr ⟨i,h,t,(sa ((g (λ_=>none) _).2<|λv=>nomatch v.symm.trans i)<|d.cell c h t)⟩
end
section
variable{E:sE} {b U:al} {a0:List (List Nat)} {a5:cy} {c0:List cj} {o:cj} {b6:Option (aj×al)} {L:vv}
theorem yA.dB(d:yA p i a0 a5 R o U c)(a:sA L.sk p.rP p.rO p.rS):sJ L p ⟨p.rP.aU U .c,c,p.rS⟩:=by
 refine vT d.Qz λa3 b8 e=>?_;subst e;have u:=a.h.bH d.I;exact⟨sQ.gL a.h d.Qs d.I .c,d.Qv.elim λA f=>f.elim λj f=>f.elim λ_ f=>f.elim λ_ f=>(a.h.cY d.Qs).cS u.1 f.1 u.2 trivial,a.m,a.o⟩
theorem yA.iC(d:yA p i a0 a5 R o U h)(a:wA X b N a0 a5 b' b4)(c:uN p.rP p.rO.heap c0):ty (vp o U c0 a0 a7 b6):=⟨(G Scope.kind d.F).trans a.f,d.Qx,d.Qy,d.Qu,⟨o,c0,B,d.Qu,λe g m=>(c e g).2.elim λk f=>f.elim λj f=>xu d.I (ak<|f.1.symm.trans<|m.trans<|G D d.Z) f.2.2.1,(G Scope.isGenerator d.F).trans a.i,(G Scope.isCoroutine d.F).trans a.h,d.Qy,d.Qx⟩,d.Ra,a.inj,d.Rb⟩
theorem yA.jU(d:yA p i a0 a5 R o U v)(Y:wA L.sk b N a0 a5 b' b4)(x:sA L.sk p.rP p.rO p.rS)(y:sA L.sk E.rP E.rO E.rS)(O:sJ L E p)(a1:uN p.rP p.rO.heap c0)(a2:R.length=i)(P:∀r z b1,r<i->R[r]?=D z->T[r]?=D b1->uy L.sk E p z b1) (a3:∀r b1,i<=r->T[r]?=D b1->b1=.rT)(S:∀(r w:Nat) (j b9:sC),T[r]?=D (.sl j) ->T[w]?=D (.sl b9) ->r=w)(a4:∀M g,b6=D (M,g) ->∃r,r<i/\tX a0 r=D M/\R[r]?=D (.ref g)):tA L.sk (vp o U c0 a0 E.rO.heap b6) (p.rP.aU U .c) v.heap T:=by
 have l:=d.dB x;have V:∀{g},p.rO.heap.get? g=none->ud (vp o U c0 a0 E.rO.heap b6) g:=λm=>⟨O.r.bT m,id⟩
 refine⟨⟨d.Z.symm▸d.Qv,d.Z.symm▸sw.cC ..,d.Z.symm▸V d.I,y.h.C,λg j m=>(O.r.A g j m).imp λb9=>d.Qs g b9,λ_=>nj,λM h m=>?_,λe n=>?_,λM g m=>?_⟩,λr M b1 a6 c=>?_,λr w M f j b9 g _ c _ a7 _ _=>S r w j b9 c a7⟩
 ·refine ye (d.Qw M h m) λW a8 k=>?_;have u:=x.h.bH W;exact⟨(sw.bR _ _ a8).trans u.1,⟨u.2,λ_=>V W⟩,_,k.choose_spec⟩
 ·rcases List.mem_cons.mp n with rfl|n
  ·exact⟨by refine J d.F<|J Y.f ?_;exact nofun,d.Qv.elim λA f=>(xq f).elim λj f=>yf U j d.Qu (sw.cC ..) f.1 f.2⟩
  ·exact a1.bI l.r (λ_ _ _ _=>id) e n
 ·exact tp (a4 M g m) λr a9 a' b0=>d.Qt r M _ a9 a' b0
 ·rcases cm r i with a|a
  ·have q:=d_<|sa a2.symm a;have b3:=d.Qt r M _ a a6 q;have b7:=uy.aF l<|P r _ b1 a q c;cases b1 with
   |rT=>trivial
   |rL s=>exact⟨_,b3,b7⟩
   |sl j=>
    have b7:ux L.sk E ⟨p.rP.aU U .c,v,p.rS⟩ j _:=b7;have t:ux L.sk E p j _:=P r _ (.sl j) a q c
    revert b7 t b3
    generalize R[r]=z;intro b3 b7 t;cases b7 with
    |@mk g X b2 b5=>exact zn g b3 b2 ⟨λ_=>⟨X,id⟩,(y.h.bH X).2,λM m=>by cases t with|mk _ _ A=>exact A.fT.elim λj f=>xu (d.Qw M g m).1 B f⟩ b5
  ·obtain rfl:=a3 r b1 a c;trivial
theorem Qf:(tZ a).isSome=a:=by cases a<;>rfl
inductive xv(L:vv)(E:sE)(a0:List (List Nat))(b6:Option (aj×al)):tR×sg×rR->ab->ai->Prop
 |t {N:sg} {b2:sw} {Y:ai} {a9:rR} {z:ab} {k:rN}:sJ L E ⟨b2,Y,a9⟩ ->rZ b2 z k->xv L E a0 b6 (.wM k,N,a9) z Y
 |A {N:sg} {b2:sw} {Y:ai} {a9:rR} {o:cj} {U:al} {c0:List cj}:sJ L E ⟨b2,Y,a9⟩ ->tA L.sk (vp o U c0 a0 E.rO.heap b6) b2 Y.heap N->xv L E a0 b6 (.sS,N,a9) .none Y
 |F {N:sg} {Y:ai} {a9:rR} {z:ab}:xv L E a0 b6 (.Am,N,a9) z Y
inductive xa(L:vv)(E:sE):tR×sg×rR->ab->ai->Prop
 |mk {N:sg} {b2:sw} {Y:ai} {a9:rR} {e:al} {h:Nat}:sJ L E ⟨b2,Y,a9⟩ ->Bf L.sk L.Cz (yS E.rO.heap) b2 Y.heap e h->xa L E (.uu h,N,a9) (.ref e) Y
theorem Qg{a2:ab->ai->Prop}(R:ty c.rW)(l:y.frames=D c.rW.uZ)(a:vh c p q e Y)(n:∀d,uB (λj=>j=D .none) c p q e d->a2 e d):rY (sj c.sc) y (leaving c.rW.sb e) (λ_ d=>a2 e d) t Y:=.sf<|toI<|a.dB (n:=λe=>fb e c.rW.sb) (λg h i k m=>Bq g l R.f (R.g.elim λr f=>f.elim λs f=>uw r s f.1 f.2.1) h i.Qt k (tA.dR i) m) λd f=>toI<|f.dB (n:=λe=>hr e none) (λg h i k m=>zG g h k m) n
theorem xa.aO(i:sJ L E k)(d:c.sc=L.sk)(h:c.rW.yQ=E.rO.heap)(a:uB (λj=>j=D .none) c k q e Y):xa L E q e Y:=by
 cases a with
 |mk b u l=>exact .mk ⟨i.r.aM b.e λg j m v=>(sq ((h▸v.1).symm.trans m):False),d▸b.f⟩<|d▸l.bO (λj f=>.inr<|.inl f) λg v=>(sa h v.1)
end
theorem sU.iW{P:a0->b1->Prop}{w:List a0}{A:List b1}(a:sU P w A):∀{i:Nat} {b:a0},w[i]?=D b->∃g,A[i]?=D g/\P b g:=by
 induction a with
 |n=>exactλe=>sq e
 |c c _ d=>exactλ{i}=>match i with
  |0=>λe=>⟨_,B,(sa (ak e) c)⟩
  |i+1=>d
structure xb(O:sw)(N:sx)(b3 b4:List ab)(T:sg):Prop where
 g:b3.length<=N.a/\N.a<=b3.length+N.b.length
 k:∀r z b1,r<N.a->(b3++b4.drop (b3.length+N.b.length -N.a))[r]?=D z->T[r]?=D b1->∃s,b1=.rL s/\rZ O z s
 i:∀r b1,N.a<=r->T[r]?=D b1->b1=.rT
 h:∀(r:Nat) (j:sC),T[r]?≠D (.sl j)
theorem Qh(a:uA N R=D T):(R.length<=N.a/\N.a<=R.length+N.b.length)/\T=(R++N.b.drop (R.length+N.b.length -N.a)).map sm.rL++bi (N.e -N.a) .rT:=by
 unfold uA at a
 by_cases h:R.length<=N.a/\N.a<=R.length+N.b.length
 ·rw[an h]at a;exact⟨h,(ak a).symm⟩
 ·rw[am h]at a;exact sq a
theorem GC{N:sx}{k:Nat}{a0:Type}{b3 b4:List a0}(u:N.b.length<=N.a)(a:b3.length<=N.a/\N.a<=b3.length+N.b.length)(b:b4.length=N.b.length):(b3++b4.drop (b3.length+N.b.length -N.a)).length=N.a:=by
 refine ae bm ?_;refine ae (G _ hw) ?_;exact J b<|sa (Nat.sub_sub_right _ u)<|GA a.1 u a.2
theorem GD(u:N.b.length<=N.a)(g:tn O b3 R)(k:tn (λ_=>.b) b4 N.b)(a:uA N R=D T):xb O N b3 b4 T:=by
 obtain⟨h,rfl⟩:=Qh a;have w:=g.aY;have i:tn O (b3++b4.drop (b3.length+N.b.length -N.a)) (R++N.b.drop (R.length+N.b.length -N.a)):=g.eD<|J w<|(k.aQ λ_ f=>absurd B f).eV _;have c:=GC (k:=0) u h B;generalize R++N.b.drop (R.length+N.b.length -N.a)=a6 at i c⊢
 refine⟨w▸h,λr z b1 d l b=>?_,λr b1 d b=>?_,λr j e=>?_⟩
 ·refine sh (i.iW l) λs m q=>?_;rw[fu<|by rw[a_];refine J c ?_;exact d,ew,m]at b;obtain rfl:=ak b;exact sn s B q
 ·rw[gg<|by rw[a_];refine J c ?_;exact d]at b;exact(List.mem_replicate.mp<|gy b).2
 ·rcases List.mem_append.mp<|gy e with f|f
  ·refine sh (List.mem_map.mp f) λs v e=>?_;cases e
  ·cases(List.mem_replicate.mp f).2
section
variable{p:sE}
theorem xb.iH(l:xb p.rP N b3 b4 T)(r:Nat)(z:ab)(b1:sm)(S:r<N.a)(a:(b3++b4.drop (b3.length+N.b.length -N.a))[r]?=D z)(b:T[r]?=D b1):uy X E p z b1:=(l.k r z b1 S a b).elim λs f=>sa f.1.symm f.2
theorem xb.cE(l:xb p.rP N b3 b4 T)(r w:Nat)(j b9:sC)(S:T[r]?=D (.sl j))(a:T[w]?=D (.sl b9)):r=w:=absurd S<|l.h r j
theorem xb.jZ(l:xb p.rP N (e::b3) b4 T)(b7:ux X E p A b)(r:Nat)(z:ab)(b1:sm)(S:r<N.a)(c:(b::b3++b4.drop ((b::b3).length+N.b.length -N.a))[r]?=D z)(a:(T.set 0<|.sl A)[r]?=D b1):uy X E p z b1:=by
 rcases vD a with⟨rfl,rfl⟩|⟨d,a⟩
 ·obtain rfl:=ak c;exact b7
 ·cases r with
  |zero=>exact absurd B d
  |succ r=>exact l.iH (r+1) z b1 S c a
theorem xb.kA(l:xb p.rP N (b::b3) b4 T)(r:Nat)(b1:sm)(S:N.a<=r)(a:(T.set 0<|.sl A)[r]?=D b1):b1=.rT:=(vD a).elim (λf=>absurd (aa l.g.1 S)<|by refine J f.1 ?_;exact Nat.not_succ_le_zero _) λf=>l.i r b1 S f.2
theorem xb.kB(l:xb p.rP N b3 b4 T)(r w:Nat)(j b9:sC)(S:(T.set 0<|.sl A)[r]?=D (.sl j))(a:(T.set 0<|.sl A)[w]?=D (.sl b9)):r=w:=(vD S).elim (λf=>(vD a).elim (λv=>f.1.trans v.1.symm) λv=>absurd v.2<|l.h w b9) λf=>absurd f.2<|l.h r j
end
section
variable{L:vv} {y:bj} {p:sE} {b:al} {N:sx} {a0:List (List Nat)} {a5:cy} {b':List be} {b4 b3:List ab}
theorem Qi(c:wA L.sk b N a0 a5 b' b4)(P:Dg L.sk a5 b' (wz N a0) b4 j n)(k:L.sk.sN.StaysIn p.rO.heap)(h:b3.length<=N.a/\N.a<=b3.length+N.b.length):BindsTo p.rO n ⟨b3,[]⟩ ((wz N a0).zip<|b3++b4.drop (b3.length+N.b.length -N.a)):=by
 refine zp P.g λR x s l m=>?_;have e:(wz N a0).length=N.a:=by refine ae (a_ ..) ?_;exact ae ek<|hh c.k
 have g:=c.d.aY;have a:=P_ (l:=p.rO) (b4:=b4) l m c.m (e.symm▸h.1) (by refine e▸g▸?_;exact c.e) (by refine e▸g▸?_;exact h.2) λd y a2 a4 i=>P.l.elim (λf=>by refine J f.2 ?_;exact as<|i none f.1.symm) λf=>by
  exact zr f λb0 o u q r t=>J q<|jo (k b0 o r) t<|i _ B
 exact(sa g<|sa e a)
theorem Qj(a:wA L.sk b N a0 a5 b' b4)(c:aj×ab)(g:c∈(wz N a0).zip R):a5.names.lookup c.1=D .local\/(a5.names.lookup c.1=D .cell/\((lw i a5.names []).lookup c.1).isSome=true):=by
 obtain⟨r,d⟩:=rl<|(List.of_mem_zip g).1;have e:=(List.getElem?_eq_some_iff.mp d).1;rw[a_,ek,hh a.k]at e;refine sh (a.l r e) λM h j=>?_;obtain rfl:=ak<|d.symm.trans j;exact(a.g r _ h).imp id λf=>⟨f.1,GB<|.inl f.2⟩
theorem GE{a4:ab->ai->Prop}{a2:ab->ai->Prop}(b5:xP L.sk)(c:wA L.sk b N a0 a5 b' b4)(h:y.depth<kw)(d:L.sk.sN.StaysIn p.rO.heap)(i:b3.length<=N.a/\N.a<=b3.length+N.b.length) (a:∀o U f,yA p N.a a0 a5 (b3++b4.drop (b3.length+N.b.length -N.a)) o U f->rY (sj L.sk) (y.deeper o) (du b' o) (λu Y=>a4 (match u with|.ret k=>k|_=>.none) Y) (λe Y=>rY (sj L.sk) (y.deeper o) (leaving o e) (λ_ g=>a2 e g) (λc0 g=>a2 c0 g) Y) f): rY (sj L.sk) y (aw (.ref b) b3) a4 a2 p.rO:=by
 exact tP c.o λj n l P=>.yE<|sV.jN h (d b j l) P.e (b5.d.keeps d) (P.f.keeps d) P.d (Qi c P d i) P.h (sa P.c.symm<|Qj c) (λf m=>a _ _ f<|Qe c P m) (sa P.c.symm c.h) (sa P.c.symm c.i)<|P.c.symm▸c.f
theorem GF(b5:xP L.sk)(c:wA L.sk b N a0 a5 b' b4)(W:yT L.sk t)(X:y.depth<kw)(a1:∀o,xo t<|y.deeper o)(a2:y.frames=D c0)(a3:wv L.sk p.rP p.rO.heap a8 y.handled)(i:sA L.sk p.rP p.rO p.rS)(a4:sA L.sk E.rP E.rO E.rS)(k:sJ L E p)(n:uN p.rP p.rO.heap c0) (s:b3.length<=N.a/\N.a<=b3.length+N.b.length)(a6:∀r z b1,r<N.a->(b3++b4.drop (b3.length+N.b.length -N.a))[r]?=D z->T[r]?=D b1->uy L.sk E p z b1)(a9:∀r b1,N.a<=r->T[r]?=D b1->b1=.rT) (S:∀(r w:Nat) (j b9:sC),T[r]?=D (.sl j) ->T[w]?=D (.sl b9) ->r=w)(a':∀M g,b6=D (M,g) ->∃r,r<N.a/\tX a0 r=D M/\(b3++b4.drop (b3.length+N.b.length -N.a))[r]?=D (.ref g)) (a7:∀o U c0,ty (vp o U c0 a0 E.rO.heap b6) ->o.scope=a5->uJ ⟨L.sk,vp o U c0 a0 E.rO.heap b6,t,tZ a8⟩ b' A)(b2:vV (td t) (tZ a8) A T p.rS=D q): rY (sj L.sk) y (aw (.ref b) b3) (xv L E a0 b6 q) (xa L E q) p.rO:=by
 refine GE b5 c X i.h.C s λo U O d=>?_;have R:ty (vp o U c0 a0 E.rO.heap b6):=d.iC c n;have l:=d.dB i;have x:ss ⟨L.sk,vp o U c0 a0 E.rO.heap b6,t,tZ a8⟩ (y.deeper o) T ⟨p.rP.aU U .c,O,p.rS⟩:=⟨a1 o,Around.frames_deeper a2,(by refine(?_:wv _ _ _ (tZ a8).isSome _);refine J Qf ?_;exact a3.aS<|l.r.eW λ_ _ _ _ _=>id),l.n,d.jU c i a4 k n (GC (k:=0) c.e s c.d.aY) a6 a9 S a',b5,R,W,λh e=>by cases a8<;>cases e⟩
 refine(a7 o U c0 R d.F (y.deeper o) T _ x q b2).tr (λu Y f=>?_) λe Y f=>Qg R x.A f λb7 v=>xa.aO (k.aM l) B B v;have P:∀{V:sE},ts ⟨L.sk,vp o U c0 a0 E.rO.heap b6,t,tZ a8⟩ ⟨p.rP.aU U .c,O,p.rS⟩ V->sJ L E V:=λb=>⟨(k.aM l).r.aM b.e λg j m v=>(sq (v.1.symm.trans m):False),b.f⟩
 cases f with
 |e b b0=>exact .A (P b) b0.o
 |j b b0=>exact .F
 |h b a=>exact .t (P b) a
end
section
theorem sV.jO{o:String}{P:cs->ai->Prop}(d:(Code.builtin o b).quiet=true)(a8:yg.contains o=false)(a7:gd fd o=D g) (a:rY (aq T v) y.in1 (ip o b) (λ_ c=>rY (aq T v) (y.under<|.builtin o b) (g b) (A7 (aq T v) y P) (λe Y=>P (.error e) Y) c) (λe Y=>P (.error e) Y) l):sV (aq T v) y (.call (.builtin o) b) P l:=sV.cI<|.sf<|a.uE λ_ c f=>.sF<|tG d a8<|sV.gV a7 f
theorem GG{R:al}{P:cs->ai->Prop}(d:l.heap.get? R=D ⟨b3,x,.cls h,a0⟩)(a2:h.mro.isEmpty=false)(s:bo (aq T v) l.heap (specialOf (.ref R) "__call__") (D<|.builtin "type.__call__"))(o:bo (aq T v) l.heap (isInstance (.ref R)<|.type "type") true) (p:bo (aq T v) l.heap (Bind.madeBy<|.ref R) (D q))(b6:bo (aq T v) l.heap (jp (.ref R)<|.ref R) true)(r:bo (aq T v) l.heap (fk (.ref R) "__init__") (D b))(a7:∀b6,bo (aq T v) l.heap (bindSpecial b b6) (b,[b6])) (i:∀g j,l.heap.get? g=D j->a.get? g=D j)(m:bo (aq T v) a (gw<|.ref c) (.ref R))(t:∀u n,n (.ok<|.ret<|.ref c) {l with heap:=a} ->h_ (aq T v) u (.call (.builtin q) ⟨.ref R::O,[]⟩) n l) (w:rY (aq T v) (y.under<|.builtin "type.__call__" ⟨.ref R::O,[]⟩) (aw b<|.ref c::O) (λk Y=>k=.none/\P (.ok<|.ret<|.ref c) Y) (λe Y=>P (.error e) Y) {l with heap:=a}): sV (aq T v) y (.call (.ref R) ⟨O,[]⟩) P l:=by
 refine sV.cI<|.sf<|toI<|fw d ?_;refine(?_);refine .sf<|toI<|s.here ?_;refine rY.sf<|toI<|bq (tc_bind _)<|.sf<|.sF<|.sF<|tG B B<|sV.jO (pq _<|by decide+kernel) (by decide+kernel) entry_typeCall<|toI<|check_slot tc_kind tc_split o (tc_args _ _ _) ?_;unfold Builtin.«type.__call__»;refine vo B<|.sf<|toI<|(((eq d).andThen .now).andThen .now:bo (aq T v) l.heap (mroOf<|.ref R) h.mro).here<|vo a2<|.sf<|toI<|p.here<|.sf<|.sF<|.sf<|.tD<|.yE<|toIc<|t _ _ ?_;refine .sf<|toI<|ah<|m.here<|(b6.keeps i).here<|vo B<|.sf<|.tD<|.sf<|toI<|ah<|m.here<|(r.keeps i).here ?_;refine rY.tD<|.sf<|toI<|((a7 _).keeps i).here (s:={l with heap:=a})<|.sf<|w.uE λk Y f=>?_;obtain⟨rfl,f⟩:=f;exact .sF<|vo B<|.sF f
theorem Qk{l:ai}{R:al}{P:cs->ai->Prop}(b:Makes (aq T v) l.heap R)(d:bo (aq T v) l.heap (fk (.ref R) "__init__") (D c)) (a7:∀b6,bo (aq T v) l.heap (bindSpecial c b6) (c,[b6]))(f:(D c !=D (Value.builtin "object.__init__"))=true) (h:rY (aq T v) (y.under<|.builtin "type.__call__" ⟨.ref R::O,[]⟩) (aw c<|.ref (l.heap.objs.size+1)::O) (λk Y=>k=.none/\P (.ok<|.ret<|.ref<|l.heap.objs.size+1) Y) (λe Y=>P (.error e) Y) {l with heap:=(l.heap.push hm).push<|is R l.heap.objs.size}): sV (aq T v) y (.call (.ref R) ⟨O,[]⟩) P l:=by
 obtain⟨b3,m,n,a0,i,a',b2,a2⟩:=b.obj;refine GG i a2 b.call b.typ b.made b.self d a7 (λg j e=>cg _<|cg _ e) ((eq<|by heap_get).andThen .now) (λp q a=>?_) h;obtain⟨r,s,t,u,o⟩:=l;exact new_K b d (.inl f) a
end
def BF(X:s_):Prop:=∀u N,uR u=D N->∃a0 a5 b' b4,wA X (X.vl u) N a0 a5 b' b4/\(N.c=true->∃a,tX a0 0=D a)/\ ∀t a8 o U c0 a7 b6,(b6=none\/N.c=true/\∃a b,tX a0 0=D a/\b6=D (a,b)) ->ty (vp o U c0 a0 a7 b6) ->o.scope=a5->uJ ⟨X,vp o U c0 a0 a7 b6,t,tZ a8⟩ b' N.d
theorem Dh(a:xo (t+1) y)(S:b5.depth<=y.depth+4)(b:b5.units<=y.units+40):xo t b5:=⟨aa (bv (by refine J (gz ..) ?_;rw[bh<|4*t];refine sa (bf ..) ?_;exact bv S _) _) a.1,aa (bv (by refine J (gz ..) ?_;rw[bh<|40*t];refine sa (bf ..) ?_;exact bv b _) _) a.2⟩
section
variable{X:s_} {t:Nat} {b:al}
theorem xv.bQ(c:rV.bQ (D m)=D q)(z:ab)(Y:ai)(f:xv L p a0 none m z Y):tB L p (λd=>rZ d.rP) q z Y:=by
 cases f with
 |t b a=>obtain rfl:=ak c;exact .mk b a
 |A b _=>obtain rfl:=ak c;exact .mk b B
 |F=>exact sq c
theorem xa.bQ(a:rV.bQ (D m)=D q)(e:ab)(Y:ai)(f:xa L p m e Y):tS L p q e Y:=by
 cases f with
 |mk b c=>obtain rfl:=ak a;exact .mk b c
theorem Ql(b5:xP X)(d:BF X)(e:yT X t)(a8:Bool)(u:Nat)(a6:List rN)(y:bj)(c0:List cj)(p:sE)(b3:List ab)(U:al)(P:zB X (t+1) a8 y c0 p)(f:tn p.rP b3 a6):sy ⟨X,y,U⟩ p (aw (.ref<|X.vl u) b3) rZ (td (t+1) a8 false u a6 p.rS):=λq a=>by
 refine sh (Option.bind_eq_some_iff.mp<|show(uR u).bind _=D q from a) λN g a=>?_;obtain⟨j,a⟩:=vB a;refine sh (Option.bind_eq_some_iff.mp a) λT h a=>sh (Option.bind_eq_some_iff.mp a) λm i a=>Ad (d u N g) λa0 a5 b' b4 c v a7=>?_;have l:=GD c.e f c.d h;exact rY.tr (GF b5 c e (ar (ar (cz<|by decide)<|bv (ax ..) _) P.b.1) ((λo=>Dh P.b (bc (by decide) _)<|bc (by decide) _)) P.c P.d P.a P.a (⟨P.a.h.aX,P.a⟩) P.e l.g l.iH l.i l.cE (λ_ _=>sq) (λo U c0=>a7 t a8 o U c0 p.rO.heap none<|.inl B) i) (xv.bQ a)<|xa.bQ a
theorem Qm(a:sA L.sk p.rP p.rO p.rS)(i:(sK.b h).isSome=true):sJ L p ⟨p.rP.aU p.rO.heap.objs.size<|.e<|p.rO.heap.objs.size+1,{p.rO with heap:=(p.rO.heap.push hm).push<|is (L.sk.sM h) p.rO.heap.objs.size},p.rS⟩/\ ux L.sk p ⟨p.rP.aU p.rO.heap.objs.size<|.e<|p.rO.heap.objs.size+1,{p.rO with heap:=(p.rO.heap.push hm).push<|is (L.sk.sM h) p.rO.heap.objs.size},p.rS⟩ (.sW h []) (.ref<|p.rO.heap.objs.size+1):=by
 have a8:=uW p.rO.heap;have f:p.rO.heap.get? _=none:=pu<|ea _;have c:((p.rO.heap.push hm).push<|is (L.sk.sM h) p.rO.heap.objs.size).get? p.rO.heap.objs.size=D hm:=cg _<|cl _ B;have d:((p.rO.heap.push hm).push<|is (L.sk.sM h) p.rO.heap.objs.size).get? (p.rO.heap.objs.size+1)=D (is (L.sk.sM h) p.rO.heap.objs.size):=by heap_get
 have a6:∀g j,p.rO.heap.get? g=D j->((p.rO.heap.push hm).push<|is (L.sk.sM h) p.rO.heap.objs.size).get? g=D j:=λg j e=>cg _<|cg _ e;generalize (p.rO.heap.push hm).push _=k at c d a6⊢
 have u:=a.h.bH a8;exact⟨⟨sQ.gL a.h a6 a8 _,(a.h.cY a6).cS u.1 c u.2 ⟨_,d⟩,a.m,a.o⟩,.mk f ((sw.bR _ _<|pv _).trans (a.h.bH f).1) ⟨⟨_,_,hm,#[],0,d,B,⟨B,λV=>nofun⟩,B,sw.cC ..,c,B,.n⟩,λu=>nofun,i,cc _⟩⟩
theorem xv.bV(o:tX a0 0=D c)(r:p.rO.heap.get? b=none)(s:sA L.sk p.rP p.rO p.rS)(d:rV.bV (D m)=D q)(k:ab)(Y:ai)(f:xv L p a0 (D (c,b)) m k Y):k=.none/\tB L p (λu=>rZ u.rP) q (.ref b) Y:=by
 cases f with
 |t b a=>exact sq d
 |F=>exact sq d
 |A E l=>
  refine sh (Option.bind_eq_some_iff.mp<|show(sR _ 0).bind (λj=>j.tb (h:=λh a5=>sv _ _))=D q from d) λj S i=>tP (De i) λh a5 w i=>?_;subst w;obtain rfl:=ak i;refine wo (l.C 0 c _ o<|Av S) λg x y v n=>?_;obtain rfl:=gx<|to.cE x<|l.Ra c b B;obtain⟨z,e⟩:=n.fT;exact⟨B,.cW s E r y e n⟩
theorem xa.bV(a:rV.bV (D m)=D q)(e:ab)(Y:ai)(f:xa L p m e Y):tS L p q e Y:=by
 cases f with
 |mk b c=>exact sq a
theorem Qn(l:sJ ⟨X,y,U⟩ p P)(d:P.rP b=.d i)(e:rQ.aC (D m) (λk a9=>k.aH (t:=sv (.b i) a9))=D q)(k:ab)(Y:ai)(f:tB ⟨X,h,U⟩ P (λc=>rZ c.rP) m k Y):k=.none/\tB ⟨X,y,U⟩ p (λc=>rZ c.rP) q (.ref b) Y:=by
 cases f with
 |@mk b2 s _ _ _ g a=>
  cases s with
  |e=>obtain rfl:=ak e;exact⟨a,.mk (l.aM ⟨g.r,g.n⟩)<|sn b B<|(g.r.y b<|by refine J d ?_;exact nofun).trans d⟩
  |_=>exact sq e
theorem Qo{q:uh rN×rR}{m:uh rN×rR}(l:sJ ⟨X,y,U⟩ p P)(a:rQ.aC (D m) (λk a9=>k.aH (t:=sv (.b i) a9))=D q)(e:ab)(Y:ai)(f:tS ⟨X,d,U⟩ P m e Y):tS ⟨X,y,U⟩ p q e Y:=by
 cases f with
 |mk g c=>obtain rfl:=ak a;exact(tS.mk (L:=⟨X,y,U⟩) ⟨g.r,g.n⟩ c).bB l
theorem Qp{R:al}(a:xo (t+1) y)(o:cj):xo t ((y.under<|.builtin "type.__call__" ⟨.ref R::O,[]⟩).deeper o):=Dh a (bc (by decide:2<=4) _)<|bc (by decide:4<=40) _
section
variable{R:al}
theorem Qq(b5:xP X)(i:yT X t)(P:zB X (t+1) a8 y c0 p)(j:tn p.rP b3 a6)(a:wA X (X.vl u) N a0 a5 b' b4)(d:tX a0 0=D f)(a7:∀o U c0 a7,ty (vp o U c0 a0 a7<|D (f,b)) ->o.scope=a5->uJ ⟨X,vp o U c0 a0 a7<|D (f,b),t,tZ a8⟩ b' N.d) (E:sJ ⟨X,y,U⟩ p c)(n:c.rS=p.rS)(b7:ux X p c A (.ref b))(r:uA N (.e::a6)=D T)(s:vV (td t) (tZ a8) N.d (T.set 0<|.sl A) p.rS=D m)(h:rV.bV (D m)=D q): rY (sj X) (y.under<|.builtin "type.__call__" ⟨.ref R::b3,[]⟩) (aw (.ref<|X.vl u)<|.ref b::b3) (λk Y=>k=.none/\tB ⟨X,y,U⟩ p (λv=>rZ v.rP) q (.ref b) Y) (tS ⟨X,y,U⟩ p q) c.rO:=by
 have l:=GD a.e (.c (show rZ _ .none .e from B)<|j.aQ E.r.y) a.d r;exact rY.tr (GF b5 a i (ar (ar (ci (by decide:1<120) y.depth)<|bv (ax ..) _) P.b.1) (Qp P.b) P.c (P.d.aS<|E.r.eW λ_ _ _ _ _=>id) E.n P.a E (P.e.bI E.r λ_ _ _ _=>id) l.g (l.jZ b7) l.kA l.kB (λM g e=>by
   refine Ac e λa' b2=>?_;subst a';subst b2;exact tv 0 (ar (bu _) l.g.1) d B) (λo U c0=>a7 o U c0 p.rO.heap)<|J n s) (xv.bV d (by cases b7 with|mk w _ _=>exact w) P.a h)<|xa.bV h
theorem Qr(i:yT X t)(c:zB X (t+1) a8 y c0 p)(j:tn p.rP b3 a6)(E:sJ ⟨X,y,U⟩ p d)(l:d.rS=p.rS)(b7:ux X p d A (.ref b))(n:td t a8 false u (.b p.rS.length::a6) (p.rS++[A])=D m)(g:rQ.aC (D m) (λk a9=>k.aH (t:=sv (.b p.rS.length) a9))=D q): rY (sj X) (y.under<|.builtin "type.__call__" ⟨.ref R::b3,[]⟩) (aw (.ref<|X.vl u)<|.ref b::b3) (λk Y=>k=.none/\tB ⟨X,y,U⟩ p (λo=>rZ o.rP) q (.ref b) Y) (tS ⟨X,y,U⟩ p q) d.rO:=by
 have f:=tB.fP c.a E b7;have f:=l▸f;cases f with
 |mk a r=>
  refine sh r λv e h=>?_;obtain rfl:=gx e;exact rY.tr (i a8 false u (.b p.rS.length::a6) (y.under<|.builtin "type.__call__" ⟨.ref R::b3,[]⟩) c0 ⟨_,_,_⟩ _ U ⟨(Dh c.b (bc (by decide:1<=4) _)<|bc (by decide:1<=40) _),c.c,c.d.aS<|a.r.eW λ_ _ _ _ _=>id,a.n,c.e.bI a.r λ_ _ _ _=>id⟩ (.c (sn _ B h)<|j.aQ a.r.y) m n) (Qn a h g)<|Qo a g
end
theorem Qs(b5:xP X)(r:BF X)(i:yT X t)(a8:Bool)(h:Nat)(a6:List rN)(y:bj)(c0:List cj)(p:sE)(b3:List ab)(U:al)(P:zB X (t+1) a8 y c0 p)(j:tn p.rP b3 a6):sy ⟨X,y,U⟩ p (aw (.ref<|X.sM h) b3) rZ (td (t+1) a8 true h a6 p.rS):=λq c=>by
 refine sh (Option.bind_eq_some_iff.mp<|show(sK.b h).bind _=D q from c) λu f c=>sh (Option.bind_eq_some_iff.mp c) λN s c=>?_;have k:(sK.b h).isSome=true:=J f B;obtain⟨R,e⟩:=b5.a h k;have g:=e.d.keeps P.a.h.C;obtain⟨E,b7⟩:=Qm (L:=⟨X,y,U⟩) P.a k;refine .yE<|Qk (P:=wants (tB ⟨X,y,U⟩ p (λv=>rZ v.rP) q)<|tS ⟨X,y,U⟩ p q) (makes_of g e.n) (nr g<|e.o u f) (λb6=>PySem.W.bind_fn g b6 (e.e 0 u<|.inr f).1) B ?_;refine Ad (r u N s) λa0 a5 b' b4 w x a7=>?_;cases d:sK.e h with
 |true=>
  rw[d]at c;obtain⟨l,c⟩:=vB c;refine sh (Option.bind_eq_some_iff.mp c) λT z c=>sh (Option.bind_eq_some_iff.mp c) λm d c=>?_;obtain⟨A,n⟩:=x l;exact Qq b5 i P j w n (λo U c0 a=>a7 t a8 o U c0 a _<|.inr ⟨l,A,_,n,B⟩) E B b7 z d c
 |false=>
  rw[d]at c;exact sh (Option.bind_eq_some_iff.mp c) λm d c=>Qr i P j E B b7 d c
theorem Qt(b5:xP X)(c:BF X):∀t,yT X t:=@λt=>A3 (λa8 i u a6 y c0 p b3 U P a q e=>sq e) (λt d=>λa8 i u a6 y c0 p b3 U P a=>match i with
  |false=>Ql b5 c (d) a8 u a6 y c0 p b3 U P a
  |true=>Qs b5 c (d) a8 u a6 y c0 p b3 U P a) t
end
noncomputable abbrev vW(b5:al):List ab:=[.ref b5,.type "ValueError",.type "Exception",.type "BaseException",.type "object"]
inductive zb(a:ba)(a1 b5:al):Prop
 |mk {d m:aj} {b7:al} {z:List ab} {b:List aj} {c:List ab} {e:Bool} {f:Option Bool} {g:Option al} {h i j k l:Option ab}:a.get? a1=D (excClassObj d m a1 b7 z (vW b5) true b c e f g h i j k l "ValueError.__new__") ->zb a a1 b5
structure wh(d:es)(a:ba)(a1 b5:al):Prop where
 h:∃b3 c b a0,a.get? a1=D ⟨b3,c,.cls b,a0⟩/\b.mro=.ref a1::vW b5/\b.hasDel=false/\b.hasDict=true
 i:∀g,bo d a (jp (.ref a1) g) ((iq a1::vW b5).contains g)
 k:bo d a (Bind.madeBy<|.ref a1) (D "ValueError.__new__")
 l:bo d a (Bind.madeHere "BaseException.__new__" <|.ref a1) ()
 j:bo d a (gw<|.ref a1) (.type "type")
 m:∀O,bo d a (ip "ValueError.__new__" ⟨.ref a1::O,[]⟩) ()
section
variable{a1:al}
theorem BG(e:zb a a1 b5):wh d a a1 b5:=by
 obtain⟨b⟩:=e;have c:=ns;exact⟨⟨_,_,_,_,b,B,B,B⟩,λg y a4 a2 l i f=>wpAny_isSubtype_exc (i _ _ b) f,λy a4 a2 l i f=>wpAny_madeBy_exc (i _ _ b) f,λy a4 a2 l i f=>wpAny_madeHere_exc c.canon (i _ _ b) f,(eq b).andThen .now,λO y a4 a2 l i f=>wpAny_check_new_subU c B .base (i _ _ b) f⟩
theorem wh.jV(U:wh d a a1 b5):bo d a (mroOf<|.ref a1) (.ref a1::vW b5):=by
 refine Ad U.h λb3 c f a0 b e v=>?_;exact((eq b).andThen .now).andThen<|sa e .now
theorem wh.jW(U:wh d a a1 b5):bo d a (jp (.ref a1)<|.ref a1) true:=(List.contains_cons.trans (G (·||_)<|gs _):(.ref a1::vW b5).contains (.ref a1)=true)▸U.i (.ref a1)
theorem wh.eM(U:wh d a a1 b5)(e:(vW 0).contains (.type t)=g):bo d a (jp (.ref a1)<|.type t) g:=sa (e)<|U.i<|.type t
theorem wh.jX(U:wh d a a1 b5):bo d a (classHasDel a1) false:=by
 obtain⟨b3,c,f,a0,b,_,e,_⟩:=U.h;exact(eq b).andThen<|sa e .now
theorem wh.iF(U:wh d a a1 b5):bo d a (isType<|.ref a1) true:=by
 exact Ad U.h λb3 c f a0 b e v=>(eq b).andThen .now
end
section
variable{a2:ab->ai->Prop} {a1:al}
theorem Qu{P:cs->ai->Prop}{l:ai}(U:wh (aq T v) l.heap a1 b5)(b:O.length<=1000) (c:P (.ok<|.ret<|.ref<|l.heap.objs.size+1) {l with heap:=(l.heap.push {cls:=.type "tuple",data:=.seq O.toArray}).push {cls:=.ref a1,data:=.fields #[.ref l.heap.objs.size,.none,.none,.none,.bool false,.none]}}): h_ (aq T v) y (.call (.builtin "ValueError.__new__") ⟨.ref a1::O,[]⟩) P l:=by
 have a:=ns;refine codeAny_call_builtin_code (pq _ a.quiet)<|(U.m O).here<|codeAny_builtinAt a.entry ?_;refine PySem.wpAt_bind<|PySem.wpAt_bind<|PySem.wpAt_stack λs d=>rn ?_;dsimp only;refine J a.ends<|as<|rn ?_;refine a.owner▸(ah<|U.iF.here<|ca B<|ah<|(U.eM B).here<|ca B<|ah<|U.l.here<|ah ?_);refine ah<|(U.eM (g:=false) B).here<|ca B<|ah<|(U.eM (g:=false) B).here<|ca B<|as ?_;refine ah<|ej ?_<|aa b<|by refine ch▸?_;decide
 unfold newObj;refine ah ?_;dsimp only;rw[am<|by refine sa ch ?_;exact Nat.not_lt.mpr<|show 6<=16777218 by decide];refine ah<|wpAny_alloc<|ah<|(U.jX.keeps λg j e=>?_).here<|ca B<|as<|as ?_
 ·exact cg _<|cg _ e
 ·rw[ox];exact c
theorem Qv(U:zb l.heap a1 b5)(i:l.heap.get? e=D j)(k:j.cls=.ref a1)(m:a4 () l):ap d y (ip "ValueError.__init__" ⟨.ref e::O,[]⟩) a4 a2 l:=by
 obtain⟨h⟩:=U;obtain⟨a,x,p,n,o⟩:=l;have f:=ns;have q:=f.noStar;simp only[ip,f.initKind,f.initSplit,f.initRow]
 repeat(first|(with_reducible refine wpAny_loadPart_at i ?_;refine k▸?_)|with_reducible refine wpAny_loadPart_at h ?_|(with_reducible refine wpAny_isSubtype_exc h ?_;refine(az (B:(.ref a1::vW b5).contains (.type "ValueError")=true))▸?_)|wp_step)
 refine wpAny_onRaise ?_;rw[show∀(b g:String) t,Bind.check ⟨.positional,"*","ValueError",.self,[⟨"args",.varPos,false⟩]⟩ b g t (.map (λc=>c.fst) ({pos:=.ref e::O}:PySem.Args).kw)=ay ()from λb g t=>check_star_args _ _ _ _ _ _];exact as m
theorem Qw(U:zb l.heap a1 b5)(b:l.heap.get? e=D {cls:=.ref a1,data:=.fields #[.ref h,.none,.none,.none,.bool false,.none]}) (d:∀a3,a3.get? e=D {cls:=.ref a1,data:=.fields #[.ref l.heap.objs.size,.none,.none,.none,.bool false,.none]} ->(∀g j,g≠e->l.heap.get? g=D j->a3.get? g=D j) ->a4 .none {l with heap:=a3}): ap (aq T v) y (aw (.builtin "ValueError.__init__") [.ref e,k]) a4 a2 l:=by
 have c:=ns;refine wpAny_call<|codeAny_call_builtin c.init.plain c.initEntry<|Qv U b B ?_;refine ah<|ej ?_<|show 1<=gr by refine ch▸?_;decide
 have a:=cg {cls:=.type "tuple",data:=.seq [k].toArray} b;refine ah<|ah<|cq a B B<|ah<|ll a B (bu _)<|wpAny_letGo<|as ?_;exact d _ (fy _ a B) λg j f a7=>(gv _ _<|dq f).trans<|cg _ a7
end
structure xw(X:s_)(R:dm)(h:Nat)(O:al):Prop where
 d:R.In X.sN
 e:zb X.sN (X.sM h) (X.sM 0)
 f:specialIn R (.ref<|X.sM h) "__call__"=D (D<|.builtin "type.__call__")
 g:instIn R (.ref<|X.sM h) (.type "type")=D true
 i:dn R (.ref<|X.sM h) "__init__"=D (D<|.ref O)
 j:typeIn R (.ref O)=D (.type "function")
 k:dn R (.ref<|X.sM h) "__setattr__"=D (D<|.builtin "object.__setattr__")
 l:dn R (.ref<|X.sM h) "reason"=D none
 m:hg R (.ref<|X.sM h)=true
theorem Qx:(vW 0).contains (.type "object")=true:=by decide+kernel
theorem Qy(b6:ab)(a1 b5:al):refuseLoop b6 "__setattr__" (.ref a1::vW b5)=ay ():=by
 refine ae (refuseLoop_ref ..) ?_;rw[vW];refine ae (refuseLoop_ref ..) ?_
 kernel_rfl
noncomputable abbrev wB(a1:al)(N:Option al)(n:al):Obj:={cls:=.ref a1,dict:=N,data:=.fields #[.ref n,.none,.none,.none,.bool false,.none]}
section
variable{a2:ab->ai->Prop} {R:dm}
theorem xw.cA(b:xw X R h O)(b5:X.sN.StaysIn a):zb a (X.sM h) (X.sM 0):=by
 obtain⟨c⟩:=b.e;exact⟨b5 _ _ c⟩
theorem Qz(a8:l.heap.get? N=D {cls:=.type "dict",data:=.dict #[]}) (a:∀a3 b8,cf N l.heap a3->a4 (.done<|.ret .none) {l with heap:=a3,toks:=b8}):ap d y (nsSet N a' k>>=λ_=>lookBehind N (D<|.str a' 0)>>=λ_=>ret .none) a4 a2 l:=by
 refine ah<|ah<|ah<|ol<|as<|ah<|jv<|ah<|np a8<|ca B<|wpAny_updatePart a8 ?_;exact bk (Gu (a':=a') (b:=lv d.w.params a') (p:=.str a' l.toks) (k:=k) a8 B) λt b=>ah<|pp b (pastItsLine_dict<|show 1<=gr+1 by refine ch▸?_;decide)<|as<|a _ _<|gu ..
theorem QA{P:cs->ai->Prop}(c:xw X R h O)(b5:X.sN.StaysIn l.heap)(b:l.heap.get? e=D (wB (X.sM h) none t)) (u:∀a3 b8 N,a3.get? e=D (wB (X.sM h) (D N) t) ->(∀g j,g≠e->l.heap.get? g=D j->a3.get? g=D j) ->P (.ok<|.ret .none) {l with heap:=a3,toks:=b8}):h_ (sj X) y (.call (.builtin "object.__setattr__") ⟨[.ref e,.str "reason" n,k],[]⟩) P l:=by
 have U:=BG (d:=sj X)<|c.cA b5;have a1:=c.d.keeps b5;have d:bo (sj X) l.heap (gw<|.ref e) (.ref<|X.sM h):=(eq b).andThen .now;have a:=PySem.F.store_object;refine codeAny_call_builtin a.slot.plain a.entry<|@check_slot (sj X) _ _ l "object.__setattr__" "object" "__setattr__" (.ref e) [.str "reason" n,k] [] _ a.kind a.split (d.andThen<|U.eM Qx) (a.args (.ref e) (.str "reason" n) k) ?_;refine uL (osa_eq ..) ?_;refine J (refuse_eq ..)<|ah<|ah<|d.here<|ah<|U.jV.here ?_;refine uL (Qy ..) ?_;refine as<|ah<|d.here<|ah<|(nr a1 c.l).here<|ah<|as ?_;refine ah<|as<|ah<|ah<|np b<|ah ?_;obtain⟨b3,E,v,a0,w,_,_,x⟩:=U.h;have z:bo (sj X) l.heap (classData<|Mine.s_.sM X h) v:=(eq w).andThen .now;refine z.here<|(az x)▸?_;have p:=cg {cls:=.type "dict",data:=.dict #[]} b;have i:=dq<|et<|eg b;refine ca B<|ca B<|ah<|wpAny_alloc<|ah<|wpAny_update p ?_;have m:=fy (λj:Obj=>{cls:=j.cls,dict:=D l.heap.objs.size,data:=j.data,slots:=j.slots}) p B;have o:((l.heap.push {cls:=.type "dict",data:=.dict #[]}).update e λj:Obj=>{cls:=j.cls,dict:=D l.heap.objs.size,data:=j.data,slots:=j.slots}).get? l.heap.objs.size=D {cls:=.type "dict",data:=.dict #[]}:=(gv _ _<|dq i).trans<|cl _ B;have q:∀g j,g≠e->l.heap.get? g=D j->((l.heap.push {cls:=.type "dict",data:=.dict #[]}).update e λj:Obj=>{cls:=j.cls,dict:=D l.heap.objs.size,data:=j.data,slots:=j.slots}).get? g=D j:=λg j f a7=>(gv _ _<|dq f).trans<|cg _ a7;have r:∀g j,l.heap.get? g=D j->g≠l.heap.objs.size:=λg j a7=>et<|eg a7;generalize (l.heap.push {cls:=.type "dict",data:=.dict #[]}).update e (λj:Obj=>{cls:=j.cls,dict:=D l.heap.objs.size,data:=j.data,slots:=j.slots})=A at m o q⊢
 generalize l.heap.objs.size=N at i m o r⊢
 exact bq B<|Qz (l:={l with heap:=A}) o λa3 b8 s=>u a3 b8 N ((s.2 e<|dq i).trans m) λg j f a7=>(s.2 g<|r g j a7).trans<|q g j f a7
theorem QB(a:xw X R h O)(b5:X.sN.StaysIn l.heap)(b:l.heap.get? e=D (wB (X.sM h) none c)) (d:∀a3 b8 N,a3.get? e=D (wB (X.sM h) (D N) c) ->(∀g j,g≠e->l.heap.get? g=D j->a3.get? g=D j) ->a4 () {l with heap:=a3,toks:=b8}):ap (sj X) y (setAttr (.ref e) "reason" k) a4 a2 l:=set_plain (a.d.keeps b5) (⟨b,B,B,trivial⟩:InstAt l.heap e _ (Mine.s_.sM X h) none) a.k<|QA a b5 b d
end
theorem QC{a2:ab->ai->Prop}(a:a4 (.builtin "ValueError.__init__",[]) {l with toks:=l.toks+1}): ap (aq T v) y (ez (.type "ValueError") "__init__" g) a4 a2 l:=by
 have a1:Frag.In [] l.heap:=λ_ _ e=>(sq e)
 have d:opaqueClassAbove (.type "ValueError")=ay none:=by unfold opaqueClassAbove;dsimp only;refine sa (show Manifest.isStub "ValueError"=false by decide+kernel) ?_;rfl
 have b:bo (aq T v) l.heap (gw<|.type "ValueError") (.type "type"):=hj<|by kernel_rfl
 have c:=type_tga;have e:findCls [] (.type "ValueError") (.type "type") "__init__"=D (.val<|.builtin "ValueError.__init__"):=by kernel_rfl
 refine ah<|ah<|b.here<|(nr a1 c).here ?_;refine uL (an canon_tga) ?_;refine ah<|wpAny_mono ?_ (λ_ _ f=>as f) λ_ _ f=>f;refine cls_open a1 (hj d) b c (looks_hook a1<|by rfl) (by rfl) e ?_;exact as<|handed_on B a
def GH:sx:={a:=2,e:=2,b:=[.f []],c:=false,d:=.n}
noncomputable abbrev Di:List (List Nat):=[[115,101,108,102],[114,101,97,115,111,110]]
inductive xx:List be->Prop
 |mk {c a d e b f g h i j:bp}:(a.endLine==b.line)=true->xx [.Expr (.Call (.Attribute (.Name "ValueError" c) "__init__" a) [.Name "self" d,.Name "reason" e] [] b) f,.Assign [.Attribute (.Name "self" g) "reason" h] (.Name "reason" i) j]
structure AI(X:s_)(O:al):Prop where
 b:∃a5 b' b4,wA X O GH Di a5 b' b4/\a5.names.lookup ("ValueError" :aj)=D .globalImplicit/\
  xx b'
 c:∃a,X.sN.Ns cb a/\a "ValueError"=none
section
variable{a2:ab->ai->Prop} {R:dm}
theorem to.cV(i:∀g j,g≠e->a.get? g=D j->a3.get? g=D j)(b:o.locals≠e)(c:∀M h,o.cells.lookup M=D h->h≠e)(f:to o a M z):to o a3 M z:=f.imp (λf=>⟨f.1,f.2.imp λA v=>⟨v.1.at' λj m=>i _ j b m,v.2⟩⟩) λf=>⟨f.1,f.2.imp λh v=>⟨v.1,v.2.imp λj m=>⟨i _ j (c _ h v.1) m.1,m.2⟩⟩⟩
theorem QD(a7:xx b')(d:xw c.sc R h O)(a:ty c.rW)(u:vb c "ValueError" (.type "ValueError"))(b5:c.sc.sN.StaysIn l.heap)(s:c.sc.sN.get? e=none)(i:c.rW.sb.locals≠e)(o:∀M h,c.rW.sb.cells.lookup M=D h->h≠e) (p:to c.rW.sb l.heap "self" (.ref e))(q:to c.rW.sb l.heap "reason" k)(t:l.heap.get? e=D (wB (c.sc.sM h) none n)) (v:∀a3 b8 N n,a3.get? e=D (wB (c.sc.sM h) (D N) n) ->(∀g j,g≠e->l.heap.get? g=D j->a3.get? g=D j) ->a4 .next {l with heap:=a3,toks:=b8}): rY (sj c.sc) y (du b' c.rW.sb) a4 a2 l:=by
 obtain⟨w⟩:=a7;refine uM (pj ..) ?_;rw[exec_Expr _ _ _ (C7 a)<|w_ B];refine .sf<|.tz<|.sf<|I.CV .a B (by refine(?_:2<30);decide) w<|toI<|u.cN a b5 λL=>toI<|QC ?_;refine I.xG (g:=[]) B (yr<|by kernel_rfl)<|I.Ae<|I.yF<|toI<|wb a p (by unfold ua;decide+kernel)<|I.yF<|toI<|wb a q (by unfold ua;decide+kernel)<|I.zs ⟨b5,?_⟩;refine toI<|Qw (d.cA b5) t λP x b=>toI<|pk ?_;refine uM (pj ..) ?_;rw[pr _ _ _ _ _<|w_ B];refine .sf<|.tz<|.sf<|toI<|wb a (q.cV b i o) (by unfold ua;decide+kernel) ?_;refine J (ps ..)<|.sf<|.sf<|.tD<|toI<|wb a (p.cV b i o) (by unfold ua;decide+kernel)<|.tz<|.sf<|.tD<|toI<|QB d (λg j m=>b g j (λf=>xu s f m)<|b5 g j m) x λz b8 N A E=>?_;exact toI<|jb<|.sF<|toI<|kn<|v z b8 N _ A λg j r m=>E g j r<|b g j r m
theorem QE(b5:xP X)(b:xw X R h O)(t:AI X O)(P:y.depth+1<kw)(r:sA X p.rP p.rO p.rS)(S:uN p.rP p.rO.heap c0) (T:∀b2 Y e N n,sJ ⟨X,y,0⟩ p ⟨b2,Y,p.rS⟩ ->p.rO.heap.get? e=none->b2 e=.b->Y.heap.get? e=D (wB (X.sM h) (D N) n) ->a4 (.ref e) Y):rY (sj X) y (aw (.ref<|X.sM h) [k]) a4 a2 p.rO:=by
 have w:=r.h.C;have a1:=b.d.keeps w;have U:=BG (d:=sj X)<|b.cA w;refine Ad U.h λb3 c2 c3 a0 V a' v=>?_;have c:((p.rO.heap.push {cls:=.type "tuple",data:=.seq [k].toArray}).push<|wB (X.sM h) none p.rO.heap.objs.size).get? (p.rO.heap.objs.size+1)=D (wB (X.sM h) none p.rO.heap.objs.size):=by heap_get
 have a6:∀g j,p.rO.heap.get? g=D j->((p.rO.heap.push {cls:=.type "tuple",data:=.seq [k].toArray}).push<|wB (X.sM h) none p.rO.heap.objs.size).get? g=D j:=λg j e=>cg _<|cg _ e;have s:p.rO.heap.get? (p.rO.heap.objs.size+1)=none:=pu<|ea _;refine .yE<|GG (P:=wants a4 a2) V (J a' B) (looks_specialIn a1 b.f) (looks_instIn a1 b.g) U.k U.jW (nr a1 b.i) (λb6=>PySem.W.bind_fn a1 b6 b.j) a6 ((eq c).andThen .now) (λc4 c5 a=>Qu U (by refine(?_:1<=1000);decide) a) ?_;generalize (p.rO.heap.push {cls:=.type "tuple",data:=.seq [k].toArray}).push (wB (X.sM h) none p.rO.heap.objs.size)=W at c a6⊢
 generalize p.rO.heap.objs.size+1=e at c s⊢
 have E:sJ ⟨X,y,0⟩ p ⟨p.rP,{p.rO with heap:=W,toks:=p.rO.toks},p.rS⟩:=.cU r a6;have u:=r.h.bH s;refine zr t.b λa5 b' b4 x a9 b0=>?_;refine GE b5 x P E.n.h.C ⟨bg 2,by show 2<=2+1;decide⟩ λo U c6 d=>?_;refine sh t.c λb1 b7 b9=>?_;refine sh b5.i λa8 a7 c1=>?_;have z:=d.dB E.n;have A:e≠U:=λf=>xu d.I f c;have q:(p.rP.aU U .c) e=.b:=(sw.bR _ _ A).trans u.1;refine QD (c:=⟨X,vp o U c0 Di p.rO.heap none,0,none⟩) b0 b (d.iC x<|S.bI E.r λ_ _ _ _=>id) ⟨(G (λl:cy=>l.names.lookup _) d.F).trans a9,by unfold ua;decide+kernel,b1,b7,.inr ⟨b9,a8,a7,(c1 _<|by decide+kernel).trans<|by kernel_rfl⟩⟩ z.n.h.C u.2 (λf=>A<|f.symm.trans d.Z) (λM h m f=>xu (d.Qw M h m).1 f.symm c) (d.Qt 0 "self" (.ref e) (bu _) (by kernel_rfl) B) (d.Qt 1 "reason" k (fz _) (by kernel_rfl) B) (d.Qs e _ c) λa3 b8 N n L i=>⟨B,T _ _ e N n ((E.aM z).cV r s (.inl q) i ⟨_,L⟩) s q L⟩
end
section
variable{y:bj} {a2:ab->ai->Prop} {p:sE} {T:sg} {R:dm} {r:Nat} {c:sL} {n:ag}
theorem GI:(vW 0).contains (.type "BaseException")=true:=by decide+kernel
theorem QF(g:xw X R h O)(i:y.handled=none) (a:rY (sj X) y A (λk b=>∃e N n,k=.ref e/\X.sN.StaysIn b.heap/\b.heap.get? e=D (wB (X.sM h) (D N) n)/\a2 (.ref e) b) a2 l):rY (sj X) y (raiseStmt o (D A) none) a4 a2 l:=by
 refine .sf<|a.uE λk b j=>?_;refine wq j λe N n m b5 d q=>?_;subst m;have U:=BG (d:=sj X)<|g.cA b5;have f:bo (sj X) b.heap (isType<|.ref e) false:=(eq d).andThen .now;refine toI<|ah<|as<|ah<|dz ?_;refine ah<|ah<|f.here<|as<|ah<|(((eq d).andThen .now).andThen<|U.eM GI).here<|as ?_;refine ah<|f.here<|ah ?_;refine ah<|((eq d).andThen .now:bo (sj X) b.heap (gw<|.ref e) (.ref<|X.sM h)).here<|ah<|U.j.here<|ne B<|as ?_;have s:(#[iq n,.none,.none,.none,.bool false,.none])[1]?=D .none:=B;exact ah<|ah<|cq d B s<|ca B<|as<|wpAny_raiseNew_none i q
def GJ(b:uj)(T:sg):Prop:=uj.casesOn (motive:=λ_=>Prop) b (λ_=>True) λr _=>∃k,um T r=D k/\E5 k=true
def xc(c:sL)(n:ag)(b:uj):Prop:=∀y T p,ss c y T p->GJ b T->∀(a2:ab->ai->Prop) (a4:ab->ai->Prop),(∀k b8,a4 k {p.rO with toks:=b8}) ->ap (sj c.sc) y (bz n c.rW.sb) a4 a2 p.rO
theorem QG(e:uC c (.j h b) T d=D q):q=(.uu h,T,d)/\c.vC.isSome=false/\GJ b T:=by
 obtain⟨a,e⟩:=vB e;have a:=(eo _).mp a;cases b with
 |a w=>obtain rfl:=ak e;exact⟨B,a,trivial⟩
 |b r w=>
  refine sh (Option.bind_eq_some_iff.mp e) λk S e=>?_;obtain⟨f,e⟩:=vB e;obtain rfl:=ak e;exact tG B a<|sn k S f
theorem GK(a:f.length<=1000000)(b:M.length<=1000):(Str.empty++f++M).length<=gr:=by
 refine J (pw ..) ?_;rw[pw];exact J ch<|aa (cu (bc a _) b)<|af ..
theorem QH(t:c.rW.tq r=D M)(a8:ua M)(j:f.length<=1000):xc c (.JoinedStr [.FormattedValue (.Name M O) (-1) none P,.Constant (.str f) i u] s) (.b r w):=λy T p x a a2 a4 A=>by
 refine sh a λk S b=>sh (x.o.C r M (.rL k) t<|CA S) λz E l=>wpAny_JoinedStr ?_;have e:∀(v:aj) b8,v.length<=1000000->Joins (sj c.sc) y a2 [bz (.Constant (.str f) i u) c.rW.sb] (Str.empty++v) (λo g=>o.length<=gr/\a4 (.str o g.toks) {g with toks:=g.toks+1}) {p.rO with toks:=b8}:=λv b8 d=>jv<|yf f _ B (GK d j) (GK d j)<|A _ _;have h:∀{v:aj},v.length<=1000000->(Str.empty++v).length<=gr:=λd=>by
  exact J (pw ..)<|J ch<|aa (bc d _)<|af ..
 refine wpAny_FormattedValue_plain<|wb x.l E a8 ?_;cases k with
 |f n=>
  obtain⟨v,b8,rfl,rfl,_⟩:=l;have d:v.length<=1000000:=by
   have b:(Mine.si (tQ v.cps.toList.length)<|D ()).isSome=true:=b;cases m:tQ v.cps.toList.length with
   |true=>
    show v.cps.size<=_;exact df▸(vJ m)
   |false=>have b:=m▸b;exact tC b
  exact wpAny_formatField_str (uQ _ _ B (h d)<|e _ p.rO.toks d) (uQ _ _ B (h d)<|e _ _ d) (aa d<|by refine ch▸?_;decide)
 |i L=>
  obtain⟨b8,rfl⟩:=l;have q:L.natAbs<2^64:=by
   have b:(Mine.si (uX L)<|D ()).isSome=true:=b;cases m:uX L with
   |true=>exact av m
   |false=>have b:=m▸b;exact tC b
  have N:L.natAbs.log2<1920:=by
   by_cases f:L.natAbs=0
   ·refine J f ?_;decide
   ·exact ce ((Nat.log2_lt f).mpr q)<|af ..
  have V:(ie<|toString L).length<=1000000:=by
   exact J (PySem.ofString_length ..)<|aa (int_text_length_le10 (k:=20) (af ..)<|ce q<|af ..)<|af ..
  exact wpAny_formatField_int N ⟨_,_,B,h V,e _ _ V⟩
 |_=>exact tC b
theorem ss.fZ{y:bj}{p:sE}(x:ss c y T p)(a:c.vC.isSome=false):y.handled=none:=by
 have f:=x.F;rw[show c.tF=false from a]at f;exact f.aE
theorem QI(a:xw c.sc R h O)(i:AI c.sc O)(u:vb c M (.ref<|c.sc.sM h))(j:xc c n b)(d:xR n=true)(o:h=2\/h=4\/h=5):sB c (.Raise (D<|.Call (.Name M s) [n] [] L) none b6) (.j h b):=λy T p x q v=>by
 refine ye (QG v) λw z A=>?_;subst w;refine uM (arm_exec_Raise ..)<|.tz<|QF a (x.fZ z)<|.sf<|I.A8<|toI<|u.cN x.l x.k.h.C ?_;refine I.xG (by refine(wT d)▸?_;rfl) (Bm a.d a.m) ?_;refine(wT d)▸(I.Ae<|I.yF<|toI<|j y T p x A _ _ λk b8=>I.zs ⟨x.k.h.C,?_⟩);have E:sJ (c.sI y) p ⟨p.rP,{p.rO with toks:=b8},p.rS⟩:=⟨x.k.h.aX,x.k.bE⟩
 refine QE x.u a i (ar (ar (ci (by decide) y.depth)<|bv (ax ..) _) x.C.1) E.n (x.aF E).o.Qt λb2 Y e N n l t q f=>?_;have g:=E.aM ⟨l.r,l.n⟩;exact .tz<|.sF<|xk e N n B l.n.h.C f<|.mk g.bF (x.aF g).o ⟨tA.dR x.o.toFb e t,q,_,_,f,⟨B,o,λb3 m=>by cases m;rfl⟩,B,.b<|.inl B⟩
theorem QJ:sB c (.Raise none none b6) .C:=λy T p x q b=>by
 refine sh (Option.bind_eq_some_iff.mp<|show c.vC.bind _=D q from b) λa S b=>sh (Option.bind_eq_some_iff.mp b) λh e b=>?_;subst e;obtain rfl:=ak b;refine tP (x.O h S) λi s g d=>?_;refine uM (arm_exec_Raise ..) ?_;refine .tz ?_;refine(?_);refine .sf<|toI<|wpAny_handled ?_;refine J g ?_;refine toI<|ah<|fa<|ah<|F7 d λb0=>ca B<|ah ?_;exact J x.l.f<|zG (λ_=>x.o.toFb.fA) x.k d λY t=>nb<|.mk ⟨t.a.aQ λ_ _ _ v=>(d.eK v).1,t.b⟩ (x.o.bI t.a<|x.o.gS d)<|t.c.bO (λj f=>.inr<|.inr f) λ_=>id
end
structure xd(X:s_)(O:al):Prop where
 c:∀h,(h=2\/h=4\/h=5) ->∃R,xw X R h O
 inj:∀r L,(r=0\/r=2\/r=4\/r=5) ->(L=2\/L=4\/L=5) ->X.sM r=X.sM L->r=L
abbrev wi(h:Nat):Prop:=h=2\/h=4\/h=5
noncomputable abbrev xy(X:s_)(L:List Nat):List ab:=L.map λi=>.ref<|X.sM i
section
variable{X:s_} {a:ba} {i:Nat} {d:es} {L:List Nat}
theorem Dj{c M:au a0}{q:a0}(m:g=false)(f:bo d a M q):bo d a (if g=true then c else M) q:=J m f
theorem GL{c M:au a0}{q:a0}(m:g=true)(f:bo d a c q):bo d a (if g=true then c else M) q:=J m f
theorem QK(b:wi h):sK.d h h=true:=by rcases b with rfl|rfl|rfl<;>rfl
theorem QL(b:wi h)(c:wi i)(t:h≠i):sK.d h i=false:=by
 rcases b with rfl|rfl|rfl<;>rcases c with rfl|rfl|rfl<;>first|rfl|exact absurd B t
theorem QM(a1:xd X O)(c:wi h)(b:wi i):(iq (X.sM h)::vW (X.sM 0)).contains (.ref<|X.sM i)=sK.d h i:=by
 by_cases f:h=i
 ·subst f;refine J (QK c) ?_;refine ae lf ?_;rw[gs];rfl
 ·have e:X.sM i≠X.sM 0:=λm=>(show 0≠i by rcases b with rfl|rfl|rfl<;>decide)<|a1.inj 0 i (.inl B) b m.symm;have S:X.sM i≠X.sM h:=λm=>f<|a1.inj h i (.inr c) b m.symm;refine J (QL c b f) ?_;rw[lf];refine(az<|beq_eq_false_iff_ne.mpr λf=>S<|gx f)▸?_;rw[vW,lf];refine(az<|beq_eq_false_iff_ne.mpr λf=>e<|gx f)▸?_;rfl
theorem xd.cA(a1:xd X O)(b5:X.sN.StaysIn a)(b:wi h):wh d a (X.sM h) (X.sM 0):=(a1.c h b).elim λR f=>BG<|f.cA b5
theorem QN(a1:xd X O)(b5:X.sN.StaysIn a)(b:wi h):bo d a (isExcClass<|.ref<|X.sM h) true:=by
 have U:=a1.cA (d:=d) b5 b;exact U.iF.andThen<|U.eM GI
theorem QO{b':ab->PUnit->au (ForInStep PUnit)}:∀{L:List Nat},(∀i∈L,bo d a (b' (.ref<|X.sM i) ())<|.yield ()) ->bo d a (forIn (xy X L) PUnit.unit b') ():=@λL=>uP (@λ_=>by rw[xy];refine J List.map_nil ?_;rw[List.forIn_nil];exact .now) (λi L b=>@λa7=>by
  rw[xy];refine J ge ?_;rw[nk];exact(a7 i<|.head _).andThen<|b λi A=>a7 i<|.tail _ A) L
theorem QP{b':ab->Option Bool×Unit->au (ForInStep<|Option Bool×Unit)}{u:Nat->Bool}:∀{L:List Nat},(∀i∈L,∀q,bo d a (b' (.ref<|X.sM i) q)<|bif u i then .done (D true,())else .yield (none,())) ->bo d a (forIn (xy X L) (none,()) b') (bif L.any u then(D true,())else(none,())):=@λL=>uP (@λ_=>by rw[xy];refine J List.map_nil ?_;rw[List.forIn_nil];exact .now) (λi L b=>@λa7=>by
  rw[xy];refine J ge ?_;rw[nk];refine J my ?_;refine(a7 i (.head _) _).andThen ?_;cases u i with
  |true=>exact .now
  |false=>exact b λi A=>a7 i<|.tail _ A) L
inductive AJ(X:s_)(a:ba):ab->List Nat->Prop
 |a {i:Nat}:AJ X a (.ref<|X.sM i) [i]
 |b {n:al} {L:List Nat}:a.get? n=D {cls:=.type "tuple",data:=.seq (xy X L).toArray} ->AJ X a (.ref n) L
theorem QQ{q:a0}{b:List ab->au a0}(a1:xd X O)(b5:X.sN.StaysIn a)(e:∀i∈L,wi i)(h:AJ X a k L)(f:bo (sj X) a (b<|xy X L) q): bo (sj X) a (isInstance k (.type "tuple")>>=λg=>if g=true then seqItems? k>>=λm=>ay (m.getD #[]).toList>>=b else ay [k]>>=b) q:=by
 cases h with
 |@a i=>
  have b1:bo (sj X) a (isInstance (.ref<|X.sM i)<|.type "tuple") false:=(a1.cA b5<|e i<|.head _).j.andThen<|hj tc_notTuple;exact b1.andThen<|Dj B<|lx .now f
 |@b n _ c=>
  have j:bo (sj X) a (seqItems?<|.ref n) (D (xy X L).toArray):=(eq c).andThen .now;exact(((eq c).andThen .now).andThen<|hj isSubtype_tuple_tuple).andThen<|GL B<|j.andThen<|lx .now f
theorem QR(a1:xd X O)(b5:X.sN.StaysIn a)(c:wi h)(b:∀i∈L,wi i)(f:a.get? e=D g)(j:g.cls=.ref (X.sM h))(l:AJ X a k L):bo (sj X) a (nt (.ref e) k) (L.any<|sK.d h):=by
 have U:=a1.cA (d:=sj X) b5 c;unfold nt;refine QQ a1 b5 b l<|lx (QO λi A=>?_)<|((eq f).andThen<|j▸.now).andThen<|lx (QP (u:=sK.d h) λi A q=>lx (QM a1 c (b i A)▸U.i (.ref<|X.sM i)) ?_) ?_
 ·exact(QN a1 b5<|b i A).andThen<|Dj B .now
 ·cases sK.d h i
  ·exact Dj B .now
  ·exact GL B .now
 ·cases L.any (sK.d h)<;>exact .now
end
section
variable{d:es} {y:bj} {a2:ab->ai->Prop} {l:ai} {o:cj} {P:cs->ai->Prop}
theorem I.GM{h:db}{e:ab}{a4:dc->ai->Prop}(a8:xl h=false)(b:D e≠D byPass) (a:sV d (y.mark<|D e) h (λq Y=>match q with|.ok u=>a4 u Y|.error c=>ap d y (Af o c) (λ_ g=>a2 c g) (λ_ _=>False) Y) l):rY d y (om h o<|D e) a4 a2 l:=by
 refine .wG<|.Cf (a.aQ λq Y f=>?_) a8 b;cases q with
 |ok u=>exact f
 |error e=>exact(toI f).tr (λ_ _ f=>f) λ_ _ f=>f.elim
theorem I.QS(a:rY (sj X) y (bz n o) (λh b=>rY (sj X) y (nt e h) (λg i=>P (.ok<|if g then .brk else .next) i) (λ_ _=>False) b) (λ_ _=>False) l): sV (sj X) y (.handlers e [.ExceptHandler (D n) none [] b6] o) P l:=by
 refine sV.cI<|(?_:rY _ y (do return Fin.done<|<-(handleWith e o [.ExceptHandler (D n) none [] b6]).onRaise (λc=>do fb c o;ia c)) _ _ l);refine rY.sf<|rY.wG ?_;refine rY.tz<|rY.sf<|a.tr (λh b j=>rY.tz<|rY.sf<|j.tr (λg i k=>rY.sF<|rY.sF k) λ_ _ f=>f.elim) λ_ _ f=>f.elim
theorem I.QT(a:rY (sj X) y (hr e none) (λ_ g=>rY (sj X) y (du (h::b') o) (λu b=>P (.ok u) b) (ui (sj X) y o λc b=>P (.error c) b) g) (λ_ _=>False) l): sV (sj X) y (.handlers e [.ExceptHandler none none (h::b') b6] o) P l:=by
 refine sV.cI<|(?_:rY _ y (do return Fin.done<|<-(handleWith e o [.ExceptHandler none none (h::b') b6]).onRaise (λc=>do fb c o;ia c)) _ _ l);refine rY.sf<|rY.wG ?_;exact rY.tz<|rY.sf<|a.tr (λ_ g i=>i.tr (λu b j=>rY.sF j) λ_ _ f=>rY.sf f) λ_ _ f=>f.elim
end
section
variable{c:sL} {y:bj} {a2:ab->ai->Prop} {T:sg} {p:sE} {L:List Nat} {n:ag} {b6:bp} {O e:al} {h:Nat}
inductive zc(c:sL):List ag->List Nat->Prop
 |n:zc c [] []
 |c {M:aj} {s:bp} {i:Nat} {U:List ag} {L:List Nat}:vb c M (.ref<|c.sc.sM i) ->zc c U L->zc c (.Name M s::U) (i::L)
def AK(c:sL)(n:ag)(L:List Nat):Prop:=∀(y:bj) (p:sE) (a4:ab->ai->Prop),ty c.rW->sA c.sc p.rP p.rO p.rS->(∀Y k,sJ (c.sI y) p ⟨p.rP,Y,p.rS⟩ ->AJ c.sc Y.heap k L->a4 k Y) ->rY (sj c.sc) y (bz n c.rW.sb) a4 (λ_ _=>False) p.rO
theorem QU(a:zc c U L)(R:ty c.rW)(b5:c.sc.sN.StaysIn l.heap):∀{a4:List ab->ai->Prop},a4 (xy c.sc L) l->rY (sj c.sc) y (ef<|dd b6<|dj U c.rW.sb) a4 a2 l:=by
 induction a with
 |n=>exactλm=>I.zs m
 |c x _ b=>
  intro a4 m;rw[wT B];exact I.yF<|toI<|x.cN R b5<|b m
theorem QV(x:zc c U L)(w:L.length<=1000):AK c (.Tuple U i s) L:=λy p a4 R b a=>.tz<|.sf<|QU x R b.h.C<|toI<|ej (a _ _ (sJ.dK b _)<|.b<|cl _ B)<|aa (ao<|a_ ..)<|aa w<|by refine sa ch ?_;decide
noncomputable abbrev sL.vX(c:sL)(a:tu):sL:=⟨c.sc,c.rW,c.t_,a⟩
inductive zd(c:sL):List it->sp->Prop
 |n:zd c [] .n
 |c {n:ag} {L:List Nat} {a:be} {b':List be} {b6:bp} {b:sp} {d:List it} {f:sp}:AK c n L->(∀i∈L,wi i) ->(∀h,uJ (c.vX<|D<|D h) (a::b') b) ->zd c d f->zd c (.ExceptHandler (D n) none (a::b') b6::d) (.u L b f)
theorem ts.bY(b:ts (c.vX a) p d):ts c p d:=⟨b.e,b.f⟩
theorem ss.bY(b:c.vC=none)(d:y.handled=none)(f:xo c.t_ y)(c0:y.frames=D c.rW.uZ)(x:ss (c.vX a) g T p):ss c y T p:=⟨f,c0,.inl d,x.k,x.o,x.u,x.l,x.I,λh m=>sq<|b.symm.trans m⟩
theorem uI.bY(d:c.vC=none)(f:y.handled=none)(g:xo c.t_ y)(c0:y.frames=D c.rW.uZ)(b:uI (c.vX a) i p q u Y):uI c y p q u Y:=by
 cases b with
 |e b x=>exact .e b.bY<|x.bY d f g c0
 |j b x=>exact .j b.bY<|x.bY d f g c0
 |h b k=>exact .h b.bY k
theorem uB.bY{R:Option ab->Prop}(b:uB R (c.vX a) p q k Y):uB R c p q k Y:=by
 cases b with
 |mk b u d=>exact .mk b.bY u d
abbrev AL:ab->ai->Prop:=λ_ _=>False
theorem QW(i:D k≠D byPass) (a:rY (sj X) (y.mark<|D k) (bz n o) (λh d=>rY (sj X) (y.mark<|D k) (nt k h) (λg b=>bif g then rY (sj X) (y.mark<|D k) (hr k none) (λ_ d=>rY (sj X) (y.mark<|D k) (du (j::b') o) a4 (ui (sj X) (y.mark<|D k) o λc b=>ap (sj X) y (Af o c) (λ_=>a2 c) AL b) d) AL b else rY (sj X) y (jy k o m) a4 a2 b) AL d) AL l): rY (sj X) y (jy k o<|.ExceptHandler (D n) none (j::b') b6::m) a4 a2 l:=by
 rw[jy];refine .sf<|.tD<|I.GM B i<|I.QS<|a.uE λh d f=>f.uE λg b f=>?_;cases g with
 |false=>exact .sf<|.sF<|BD B f
 |true=>exact .sf<|.sF<|vo B<|.sf<|.tD<|I.GM B i<|I.QT<|f.uE λ_ d f=>f.uE λu b f=>.sF f
theorem QX(b:ts c E p)(g:y.handled=none)(i:c.vC=none)(a7:uJ (c.vX<|D<|D h) a1 j)(x:ss c y T p)(a:yn c.sc .none (ud c.rW) p.rP p.rO.heap e h)(l:uC (c.vX<|D<|D h) j T p.rS=D q): rY (sj c.sc) (y.mark<|D<|.ref e) (du a1 c.rW.sb) (uI c y E q) (ui (sj c.sc) (y.mark<|D<|.ref e) c.rW.sb λk o=>ap (sj c.sc) y (Af c.rW.sb k) (λ_=>vh c E q k) AL o) p.rO:=by
 refine wp a.z λr V s t d v=>?_;refine(a7 (y.mark<|D<|.ref e) T _ ⟨x.C,x.A,.inr ⟨B,e,r,V,B,a.y,x.o.toFb.fA a.A,s,d,t.2.2 V d⟩,x.k,x.o,x.u,x.l,x.I,λz m=>sa (ak<|ak m)<|uw e _ B a⟩ q l).tr (λu w f=>(f.bY i g x.C x.A).bB b) λk w f=>?_;exact uB.gW (y:=y.mark<|D<|.ref e) (f.bY.bB b) x.l x.A B λA f=>F8 x.l f
theorem QY(a1:xd c.sc O)(f:c.vC=none){g:List it}{d:sp}(b3:zd c g d):∀{p:sE},ss c y T p->yn c.sc .none (ud c.rW) p.rP p.rO.heap e h->uv c y p (jy (.ref e) c.rW.sb g) (ym (td c.t_) h d T p.rS):=by
 induction b3 with
 |n=>exactλ_ _=>.aE
 |@c _ L _ _ _ l _ d o r a7 _ s=>
  intro p x a q b;refine ul a.z λA V u i v=>QW nofun<|o (y.mark _) p _ x.l x.k λY k E N=>toI<|(QR a1 E.n.h.C i.2.1 r (E.r.cR a.y id u) i.1 N).here ?_
  have b:(bif L.any (sK.d h)then uC (c.vX<|D<|D h) l T p.rS else ym (td c.t_) h d T p.rS)=D q:=b;have E:sJ (c.sI y) p ⟨p.rP,Y,p.rS⟩:=⟨E.r,E.n⟩
  have a:=a.aS<|E.r.eW λ_ _ _ _ _=>id;have x:=x.aF E
  revert b
  cases L.any<|sK.d h with
  |false=>exactλb=>(s x a).bN E.bF q b
  |true=>
   refineλb=>toI<|zG (λ_=>x.o.toFb.fA) E.n a λw t=>?_;have z:=x.o.bI t.a<|x.o.gS a;have j:=x.fZ<|by refine ae (G _ f) ?_;rfl
   exact QX (E.bF.aM (⟨t.a.aQ λ_ _ _ v=>(a.eK v).1,t.b⟩:ts c ⟨p.rP,Y,p.rS⟩ ⟨p.rP,w,p.rS⟩)) j f (a7 h) ⟨x.C,x.A,.inl j,t.b,z,x.u,x.l,x.I,λh m=>sq<|f.symm.trans m⟩ t.c b
theorem QZ(f:uI c y p m u Y)(a:@tR.casesOn (λ_=>rV) m.1 (D m) (D m) (λ_=>D m) b'=D q):uI c y p q u Y:=by
 cases f with
 |e b x=>obtain rfl:=ak a;exact .e b x
 |j b x=>obtain rfl:=ak a;exact .j b x
 |h b k=>obtain rfl:=ak a;exact .h b k
theorem Q0(a1:xd c.sc O)(d:c.vC=none)(l:zd c o r)(x:ss c y T p)(f:vh c p m k Y)(s:@tR.casesOn (λ_=>rV) m.1 (D m) (D m) (λ_=>D m) (λh=>ym (td c.t_) h r m.2.1 m.2.2)=D q): rY (sj c.sc) y (fb k c.rW.sb) (λ_=>rY (sj c.sc) y (hr k none) (λ_=>rY (sj c.sc) y (jy k c.rW.sb o) (uI c y p q)<|vh c p q)<|vh c p q) (vh c p q) Y:=by
 refine toI<|f.dB (n:=λe=>fb e c.rW.sb) (λg i j a m=>Bq g x.A x.l.f (x.l.g.elim λt f=>f.elim λv f=>uw t v f.1 f.2.1) i j.Qt a (tA.dR j) m) λw f=>?_;refine toI<|f.dB (n:=λe=>hr e none) (λg i j a m=>zG g i a m) λz f=>?_;cases f with
 |mk b u a=>exact uv.bN b (QY a1 d l ⟨x.C,x.A,.inl<|x.fZ<|by refine ae (G _ d) ?_;rfl,b.f,u,x.u,x.l,x.I,λh m=>sq<|d.symm.trans m⟩ a) q s
theorem Q1(a:rY d y (du g o) a4 (λk=>rY d y (fb k o) (λ_=>rY d y (hr k none) (λ_=>rY d y (jy k o<|b::i) a4 a2) a2) a2) l):rY d y (exec (.Try g (b::i) [] [] b6) o) a4 a2 l:=by
 refine uM (arm_exec_Try ..)<|.tz ?_
 delta tryStmt
 refine BD B<|.sf<|.En<|a.tr (λu j f=>?_) λe j f=>.sf<|f.uE λ_ m f=>vo B<|.sf<|f.uE λ_ q f=>vo B<|vo B f;cases u with
 |next=>exact toI<|kn f
 |_=>exact .sF f
theorem Q2(a1:xd c.sc O)(a7:uJ (c.vX none) g a8)(d:zd (c.vX none) (i::j) k):sB c (.Try g (i::j) [] [] b6) (.z a8 k):=by
 obtain⟨X,P,t,a⟩:=c;intro y T p x q b;obtain⟨l,b⟩:=vB b;cases a with
 |some a=>exact tC l
 |none=>
  exact sh (Option.bind_eq_some_iff.mp b) λm o b=>Q1<|(a7 y T p x m o).tr (λu r f=>QZ f b) λe r f=>Q0 a1 B d x f b
end
section
set_option genInjectivity false
structure su where
 d:Nat
 g:bp
 e:ag
 i:ag
 x:ag
 f:List ag
 h:aj
 q:Operator
 r:UnaryOp
 y:BoolOp
 o:List gt
 z:Nat
 j:Const
 v:List px
 l:cy
 n:Option ag
 s:Option ag
 u:Option ag
 p:List Keyword
 w:Int
noncomputable def su.aI:su:=⟨99,default,default,default,default,[],default,.Add,.Not,.And,[],0,.none,[],default,none,none,none,[],0⟩
def rU(c:ag):su:=@Expr.casesOn (λ_=>su) c (λv w s=>{su.aI with d:=7,y:=v,f:=w,g:=s}) (λ_ _ _=>su.aI) (λb j g s=>{su.aI with d:=2,e:=b,q:=j,i:=g,g:=s}) (λz b s=>{su.aI with d:=3,r:=z,e:=b,g:=s}) (λ_ _ _ _=>su.aI) (λb g h s=>{su.aI with d:=8,e:=b,i:=g,x:=h,g:=s}) (λa' w s=>bif a'.isEmpty&&w.isEmpty then{su.aI with d:=12,g:=s}else su.aI) (λ_ _ _=>su.aI) (λb x p s=>{su.aI with d:=13,e:=b,v:=x,l:=p,g:=s}) (λ_ _ _ _=>su.aI) (λ_ _ _ _ _=>su.aI) (λ_ _ _ _=>su.aI) (λ_ _=>su.aI) (λ_ _=>su.aI) (λ_ _=>su.aI) (λb d w s=>{su.aI with d:=6,e:=b,o:=d,f:=w,g:=s}) (λb w a' s=>{su.aI with d:=4,e:=b,f:=w,p:=a',g:=s}) (λb f u s=>{su.aI with d:=14,e:=b,w:=f,n:=u,g:=s}) (λw s=>{su.aI with d:=15,f:=w,g:=s}) (λk t s=>{su.aI with d:=9,j:=k,z:=t,g:=s}) (λb l s=>{su.aI with d:=1,e:=b,h:=l,g:=s}) (λb g s=>{su.aI with d:=5,e:=b,i:=g,g:=s}) (λ_ _=>su.aI) (λl s=>{su.aI with d:=0,h:=l,g:=s}) (λw s=>{su.aI with d:=11,f:=w,g:=s}) (λw t s=>{su.aI with d:=10,f:=w,z:=t,g:=s})<|λu a E s=>{su.aI with d:=16,n:=u,s:=a,u:=E,g:=s}
noncomputable def su.dL(t:Nat)(k:su):ag:=bif t.beq 0 then .Name k.h k.g else bif t.beq 1 then .Attribute k.e k.h k.g else bif t.beq 2 then .BinOp k.e k.q k.i k.g else bif t.beq 3 then .UnaryOp k.r k.e k.g else bif t.beq 4 then .Call k.e k.f k.p k.g else bif t.beq 5 then .Subscript k.e k.i k.g else bif t.beq 6 then .Compare k.e k.o k.f k.g else bif t.beq 7 then .BoolOp k.y k.f k.g else bif t.beq 8 then .IfExp k.e k.i k.x k.g else bif t.beq 9 then .Constant k.j k.z k.g else bif t.beq 10 then .Tuple k.f k.z k.g else bif t.beq 11 then .List k.f k.g else bif t.beq 12 then .Dict [] [] k.g else bif t.beq 13 then .ListComp k.e k.v k.l k.g else bif t.beq 14 then .FormattedValue k.e k.w k.n k.g else bif t.beq 15 then .JoinedStr k.f k.g else .Slice k.n k.s k.u k.g
theorem Q3(c:ag):(rU c).d≠99->su.dL (rU c).d (rU c)=c:=by
 cases c with
 |Dict a' w s=>
  cases a' with
  |nil=>cases w with
   |nil=>exactλ_=>B
   |cons=>exactλa=>absurd B a
  |cons=>exactλa=>absurd B a
 |_=>first|exactλ_=>B|exactλa=>absurd B a
theorem su.aL{a1:ag->Prop}{c:ag}{t:Nat}(a:(rU c).d.beq t=true)(m:a1 (su.dL t<|rU c))(b:t≠99:=by decide):a1 c:=by
 have a:=da a;subst a;rw[Q3 c b]at m;exact m
end
section
set_option genInjectivity false
structure ti where
 d:Nat
 e:bp
 f:ag
 j:ag
 o:List ag
 p:Operator
 g:List be
 h:List be
 q:List be
 l:List it
 i:Option ag
 n:Option ag
noncomputable def ti.aI:ti:=⟨99,default,default,default,[],.Add,[],[],[],[],none,none⟩
def sO(l:be):ti:=@Stmt.casesOn (λ_=>ti) l (λ_ _ _ _ _ _ _ _ _ _=>ti.aI) (λ_ _ _ _ _ _ _ _ _ _=>ti.aI) (λ_ _ _ _ _ _ _ _ _ _ _=>ti.aI) (λc s=>{ti.aI with d:=0,i:=c,e:=s}) (λ_ _=>ti.aI) (λw b s=>{ti.aI with d:=1,o:=w,f:=b,e:=s}) (λ_ _ _ _ _ _ _=>ti.aI) (λb j g s=>{ti.aI with d:=2,f:=b,p:=j,j:=g,e:=s}) (λ_ _ _ _ _=>ti.aI) (λb g a1 W s=>{ti.aI with d:=3,f:=b,j:=g,g:=a1,h:=W,e:=s}) (λ_ _ _ _ _=>ti.aI) (λb a1 W s=>{ti.aI with d:=4,f:=b,g:=a1,h:=W,e:=s}) (λb a1 W s=>{ti.aI with d:=5,f:=b,g:=a1,h:=W,e:=s}) (λ_ _ _=>ti.aI) (λ_ _ _=>ti.aI) (λ_ _ _=>ti.aI) (λc M s=>{ti.aI with d:=6,i:=c,n:=M,e:=s}) (λa1 a W a5 s=>{ti.aI with d:=7,g:=a1,l:=a,h:=W,q:=a5,e:=s}) (λ_ _ _ _ _=>ti.aI) (λ_ _ _=>ti.aI) (λ_ _=>ti.aI) (λ_ _ _ _=>ti.aI) (λ_ _=>ti.aI) (λ_ _=>ti.aI) (λb s=>{ti.aI with d:=8,f:=b,e:=s}) (λs=>{ti.aI with d:=9,e:=s}) (λ_=>ti.aI)<|λs=>{ti.aI with d:=10,e:=s}
noncomputable def ti.dL(t:Nat)(k:ti):be:=bif t.beq 0 then .Return k.i k.e else bif t.beq 1 then .Assign k.o k.f k.e else bif t.beq 2 then .AugAssign k.f k.p k.j k.e else bif t.beq 3 then .For k.f k.j k.g k.h k.e else bif t.beq 4 then .While k.f k.g k.h k.e else bif t.beq 5 then .If k.f k.g k.h k.e else bif t.beq 6 then .Raise k.i k.n k.e else bif t.beq 7 then .Try k.g k.l k.h k.q k.e else bif t.beq 8 then .Expr k.f k.e else bif t.beq 9 then .Pass k.e else .Continue k.e
theorem Q4(c:be):(sO c).d≠99->ti.dL (sO c).d (sO c)=c:=by
 cases c<;>first|exactλ_=>B|exactλa=>absurd B a
theorem ti.aL{a1:be->Prop}{c:be}{t:Nat}(a:(sO c).d.beq t=true)(m:a1 (ti.dL t<|sO c))(b:t≠99:=by decide):a1 c:=by
 have a:=da a;subst a;rw[Q4 c b]at m;exact m
end
section
def ze(b g:List Nat):Bool:=@ee Nat (λ_=>List Nat->Bool) (λg=>g.isEmpty) (λc _ a g=>@fn Nat (λ_=>Bool) g false λM m=>c.beq M&&a m) b g
theorem rM(a:(b&&g)=true):b=true/\g=true:=Bool.and_eq_true_iff.mp a
theorem AM:∀{b g:List Nat},ze b g=true->b=g
 |[],g,a=>(List.isEmpty_iff.mp a).symm
 |_::_,[],a=>tC a
 |c::b,M::g,a=>by
  have a:(c.beq M&&ze b g)=true:=a;exact J (da (rM a).1)<|G _<|AM (rM a).2
theorem GN:∀b:List Nat,ze b b=true:=@λb=>uP (B) (λc b a=>Bool.and_eq_true_iff.mpr ⟨Nat.beq_refl c,a⟩) b
noncomputable abbrev wj(l:aj):List Nat:=l.cps.toList
theorem GO(a:wj b=wj g):b=g:=by
 obtain⟨⟨b⟩⟩:=b;obtain⟨⟨g⟩⟩:=g;exact G (λw:List Nat=>(⟨⟨w⟩⟩:aj)) a
def vi(c M:aj):Bool:=ze (wj c)<|wj M
theorem xY(a:vi c M=true):c=M:=GO<|AM a
theorem BH(a:vi c M=false):c≠M:=λe=>by
 subst e;exact A4<|(GN _).symm.trans a
def Dk(c:aj):Bool:=!vi c "__debug__"
theorem GP(a:Dk c=true):ua c:=beq_eq_false_iff_ne.mpr<|BH<|(eo _).mp a
set_option genInjectivity false in
structure sG where
 GQ:List (aj×dr)
 yB:List (List Nat)
 GR:Bool
 GS:Option aj
structure sX(u:sG)(P:tT):Prop where
 d:P.tq=tX u.yB
 e:P.uc=u.GR
 f:P.sb.scope.names=u.GQ
 g:∀M b,P.zA=D (M,b) ->u.GS=D M
def wC(w:List (aj×dr))(c:aj):Option dr:=@ee (aj×dr) (λ_=>Option dr) none (λs _ a=>bif vi s.1 c then D s.2 else a) w
theorem Dl(c:aj):∀w:List (aj×dr),wC w c=w.lookup c
 |[]=>B
 |(t,i)::q=>by
  rw[lu];refine sa (Dl c q) ?_;refine(?_:(bif vi t c then D i else wC q c)=_);cases m:vi t c with
  |true=>(refine J (xY m) ?_;rw[gs]);rfl
  |false=>refine J (beq_eq_false_iff_ne.mpr<|dq<|BH m) ?_;rfl
abbrev xz(u:sG)(c:aj):Option dr:=wC u.GQ c
section
variable{u:sG} {c:aj} {r:Nat} {i:dr}
theorem sX.dT(a:sX u P)(c:aj):P.sb.kindOf c=xz u c:=(G (·.lookup c) a.f).trans (Dl c _).symm
noncomputable def vj(i:dr)(j:Option dr):Bool:=decide<|j=D i
def BI(u:sG)(c:aj):Bool:=vj .globalImplicit (xz u c)&&Dk c
theorem GT(b:sX u P)(a:BI u c=true):P.sb.kindOf c=D .globalImplicit/\ua c:=⟨(b.dT c).trans<|av (rM a).1,GP (rM a).2⟩
def wD(u:sG)(r:Nat)(c:aj):Bool:=(u.yB[r]?.any λw=>ze w<|wj c)&&!(wj c).isEmpty&&Dk c
theorem wk(b:sX u P)(a:wD u r c=true):P.tq r=D c/\ua c:=by
 obtain⟨a,d⟩:=rM a;obtain⟨S,e⟩:=rM a;refine⟨?_,GP d⟩;refine ae (hl b.d _) ?_;unfold tX;cases m:u.yB[r]? with
 |none=>have S:=m▸S;exact tC S
 |some w=>
  rw[m]at S;refine J (AM<|S)<|(?_:(bif (wj c).isEmpty then none else D<|yz<|wj c)=D c);exact J ((eo _).mp e)<|G D<|GO B
def AN(u:sG)(r:Nat)(c:aj):Bool:=wD u r c&&(u.GR||vj .local (xz u c))&&u.GS.all λM=>!vi M c
theorem BJ(d:sX u P)(R:P.uc=true->ty P)(a:AN u r c=true):vc P c r:=by
 obtain⟨a,e⟩:=rM a;obtain⟨S,g⟩:=rM a;have l:=(wk d S).1;refine⟨l,λb m=>?_,?_⟩
 ·exact BH ((eo _).mp<|(d.g c b m)▸e) B
 ·rcases Bool.or_eq_true_iff.mp g with v|v
  ·have v:=d.e.trans v;exact((R v).l r c l).imp id λf=>⟨v,f⟩
  ·exact .inl<|(d.dT c).trans<|av v
end
end
section
set_option genInjectivity false in
structure tl where
 uK:Nat
 xZ:Q
 xA:Q
 GU:tM
 Dm:List Nat
 Dn:Bool
 Do:List Nat
noncomputable def tl.ub:tl:=⟨9,.n,.n,.b,[],false,[]⟩
def tI(e:Q):tl:=@Q.casesOn (λ_=>tl) e {tl.ub with uK:=0} (λb g=>{tl.ub with uK:=1,xZ:=b,xA:=g}) (λk=>bif Bc k then{tl.ub with uK:=5}else tl.ub) (λ_ _=>tl.ub) (λ_=>tl.ub) (λ_ _=>tl.ub) (λ_ _ _=>tl.ub) (λ_ _ _ _=>tl.ub) (λ_ _=>tl.ub) (λ_ _=>tl.ub) (λj b g=>{tl.ub with uK:=2,xZ:=b,xA:=g,GU:=j}) (λ_ _=>tl.ub) (λ_ _ _=>tl.ub) (λ_ _=>tl.ub) {tl.ub with uK:=3} (λ_=>tl.ub) (λ_=>tl.ub) (λ_ _=>tl.ub) (λ_ _ _=>tl.ub) (λ_ _=>tl.ub) (λ_ _=>tl.ub) (λ_=>tl.ub) (λ_=>tl.ub) (λ_ _ _=>tl.ub) (λ_=>tl.ub) tl.ub (λU E S b g=>⟨4,b,g,.b,U,E,S⟩) tl.ub
noncomputable def tl.GV(t:Nat)(k:tl):Q:=bif t.beq 0 then .n else bif t.beq 1 then .c k.xZ k.xA else bif t.beq 2 then .p k.GU k.xZ k.xA else bif t.beq 3 then .z else bif t.beq 4 then .o k.Dm k.Dn k.Do k.xZ k.xA else .d .e
theorem Q5(e:Q):(tI e).uK≠9->tl.GV (tI e).uK (tI e)=e:=by
 cases e with
 |d k=>cases k<;>first|exactλ_=>B|exactλa=>absurd B a
 |_=>first|exactλ_=>B|exactλa=>absurd B a
theorem tl.xe{a1:Q->Prop}{e:Q}{t:Nat}(a:(tI e).uK.beq t=true)(m:a1 (tl.GV t<|tI e))(b:t≠9:=by decide):a1 e:=by
 have a:=da a;subst a;rw[Q5 e b]at m;exact m
def BK(q:ag->Q->Bool)(U:List ag)(W:Q):Bool:=@ee ag (λ_=>Q->Bool) (λW=>(tI W).uK.beq 0) (λn _ a W=>(tI W).uK.beq 1&&(q n (tI W).xZ&&a (tI W).xA)) U W
theorem BL(b:∀n e,q n e=true->a1 n e):∀{W:Q},BK q U W=true->vw a1 U W:=by
 induction U with
 |nil=>exactλa=>tl.xe a .n
 |cons n U c=>exactλa=>tl.xe (rM a).1<|.c (b _ _ (rM (rM a).2).1)<|c (rM (rM a).2).2
def Dp(q:ag->Q->Bool)(n:ag)(e:Q):Bool:=xR n&&q n e
abbrev xf(q:ag->Q->Bool)(U:List ag)(W:Q):Bool:=BK (Dp q) U W
section
variable{c:sL} {u:sG} {n:ag} {q:ag->Q->Bool} {r b:Nat} {e L E W:Q}
abbrev th(c:sL)(q:ag->Q->Bool):Prop:=∀n e,q n e=true->sd c n e
theorem GW(d:th c q)(n:ag)(e:Q)(a:Dp q n e=true):yV c n e:=⟨(rM a).1,d n e (rM a).2⟩
theorem wl(d:th c q)(a:xf q U W=true):uF c U W:=BL (GW d) a
def Dq(n:ag):Bool:=(rU n).d.beq 0||(rU n).d.beq 1||(rU n).d.beq 5||(rU n).d.beq 9
theorem GX(a:Dq n=true):wU n:=by
 rcases Bool.or_eq_true_iff.mp a with a|a
 ·rcases Bool.or_eq_true_iff.mp a with a|a
  ·rcases Bool.or_eq_true_iff.mp a with a|a
   ·exact su.aL a .a
   ·exact su.aL a .c
  ·exact su.aL a .d
 ·exact su.aL a .b
def BM(b:Nat)(l:aj):Bool:=vi l<|te b
def GY(u:sG)(r:Nat)(n:ag):Bool:=(rU n).d.beq 0&&wD u r (rU n).h
theorem Q6(d:sX u c.rW)(a:GY u r n=true):sd c n (.a r):=su.aL (a1:=λn=>sd c n _) (rM a).1<|Mr (wk d (rM a).2).1 (wk d (rM a).2).2
def GZ(q:ag->Q->Bool)(b:Nat)(e:Q)(n:ag):Bool:=(rU n).d.beq 1&&(BM b (rU n).h&&(Dq (rU n).e&&q (rU n).e e))
theorem Q7(d:th c q)(a:GZ q b e n=true):sd c n (.aD e b):=su.aL (a1:=λn=>sd c n _) (rM a).1 (by
 have a:=rM (rM a).2;refine(?_:sd c (.Attribute (rU n).e (rU n).h (rU n).g) _);exact J (xY a.1)<|Nf (d _ _ (rM a.2).2)<|GX (rM a.2).1)
def G0(u:sG)(r b:Nat)(n:ag):Bool:=(rU n).d.beq 1&&(BM b (rU n).h&&((rU (rU n).e).d.beq 0&&wD u r (rU (rU n).e).h))
theorem Q8(d:sX u c.rW)(a:G0 u r b n=true):sd c n (.x r b):=su.aL (a1:=λn=>sd c n _) (rM a).1 (by
 have a:=rM (rM a).2;have l:=wk d (rM a.2).2;refine(?_:sd c (.Attribute (rU n).e (rU n).h (rU n).g) _);exact J (xY a.1)<|su.aL (a1:=λm=>sd c (.Attribute m _ _) _) (rM a.2).1<|Np l.1 l.2)
def G1(q:ag->Q->Bool)(a:sT)(L E:Q)(n:ag):Bool:=(rU n).d.beq 2&&(decide ((rU n).q=wc a)&&(q (rU n).e L&&q (rU n).i E))
theorem Q9(d:th c q)(a:G1 q f L E n=true):sd c n (.aB f L E):=su.aL (a1:=λn=>sd c n _) (rM a).1 (by
 have a:=rM (rM a).2;refine(?_:sd c (.BinOp (rU n).e (rU n).q (rU n).i (rU n).g) _);exact J (av a.1)<|MK (d _ _ (rM a.2).1)<|d _ _ (rM a.2).2)
def AO(q:ag->Q->Bool)(z:UnaryOp)(e:Q)(n:ag):Bool:=(rU n).d.beq 3&&(decide ((rU n).r=z)&&q (rU n).e e)
theorem BN{m d:ag->Q->Prop}(f:∀{n s},m n e->d (.UnaryOp z n s) g)(h:∀n e,q n e=true->m n e)(a:AO q z e n=true):d n g:=su.aL (a1:=λn=>d n _) (rM a).1 (by
 have a:=rM (rM a).2;refine(?_:d (.UnaryOp (rU n).r (rU n).e (rU n).g) _);exact J (av a.1)<|f<|h _ _ a.2)
def G2(q:ag->Q->Bool)(L E:Q)(n:ag):Bool:=(rU n).d.beq 5&&(q (rU n).e L&&q (rU n).i E)
theorem Q'(d:th c q)(a:G2 q L E n=true):sd c n (.aP L E):=su.aL (a1:=λn=>sd c n _) (rM a).1<|Nn (d _ _ (rM (rM a).2).1)<|d _ _ (rM (rM a).2).2
def G3(q:ag->Q->Bool)(u:sG)(r:Nat)(e:Q)(n:ag):Bool:=(rU n).d.beq 5&&(((rU (rU n).e).d.beq 0&&wD u r (rU (rU n).e).h)&&q (rU n).i e)
theorem Q_(d:sX u c.rW)(f:th c q)(a:G3 q u r e n=true):sd c n (.E r e):=su.aL (a1:=λn=>sd c n _) (rM a).1 (by
 have a:=rM (rM a).2;have l:=wk d (rM a.1).2;exact su.aL (a1:=λm=>sd c (.Subscript m _ _) _) (rM a.1).1<|No l.1 l.2<|f _ _ a.2)
def G4(q:ag->Q->Bool)(W:Q)(n:ag):Bool:=(rU n).d.beq 10&&(decide ((rU n).f.length<=1000)&&xf q (rU n).f W)
theorem Ra(d:th c q)(a:G4 q W n=true):sd c n (.q W):=su.aL (a1:=λn=>sd c n _) (rM a).1<|M7 (wl d (rM (rM a).2).2)<|av (rM (rM a).2).1
def AP(q:ag->Q->Bool)(W:Q)(n:ag):Bool:=(rU n).d.beq 11&&(decide ((rU n).f.length<=1000)&&xf q (rU n).f W)
theorem Rb(d:th c q)(a:AP q W n=true):sd c n (.m W):=su.aL (a1:=λn=>sd c n _) (rM a).1<|M8 (wl d (rM (rM a).2).2)<|av (rM (rM a).2).1
theorem Rc(d:th c q)(a:AP q W n=true):sd c n (.I W):=su.aL (a1:=λn=>sd c n _) (rM a).1<|λy T p x=>(Bw (wl d (rM (rM a).2).2) (av (rM (rM a).2).1) x).fI λz a6 f l t q e=>sa (ak e)<|.fP x.k l t
theorem Rd(a:(rU n).d.beq 12=true):sd c n .L:=su.aL (a1:=λn=>sd c n _) a<|λy T p x=>(Gb x).fI (x:=λA d=>sv (rN.b d.length)<|d++[A]) λz a6 f l t q e=>sa (ak e)<|.fP x.k l t
end
end
section
noncomputable def zf:List String:=["BoardError","BadArgument","BadProgram","BadAddress","NoRoom","BadCall","Layout","Segment","Image","Fields","Tables","NewImage","Memory","Pages","Space","Pushing","Process"]
noncomputable def zR:List String:=["check_ident","check_header","check_row","read_row","read_elf","is_leaf","rights_of","add_rights","lay_segment","lay_stack","check_arguments","last_name","lay_out","become","need_stretch","_law_box","_law_take","_law_low","_law_file","_law_parts","_law_up","_law_places","_law_rights","_law_word","_law_space_right","_law_become_right","_law_word_of","_law_refused_right","_law_ends_right","_law_name_right","law"]
noncomputable def zg:ue->String:=λg=>@ue.casesOn (λ_=>String) g "len" "bytes" "list" "tuple" "min" "max" "range" "sum" "abs" "chr" "divmod" ""
def xB(X:s_)(M:aj)(k:ab):Prop:=∃A,X.sN.Ns cb A/\(A M=D k\/A M=none/\∃g,X.sN.Ns ff g/\g M=D k)
structure G5(X:s_)(M:aj)(k:ab):Prop where
 a:xB X M k
 b:wV X k
structure vt(X:s_):Prop where
 c:∀(r:Nat) (l:String),zR[r]?=D l->G5 X l (.ref<|X.vl<|71+r)
 b:∀(r:Nat) (l:String),zf[r]?=D l->G5 X l (.ref<|X.sM r)
 a:∀g:ue,g≠.d->xB X (zg g) (Az g)
 e:xB X "isinstance" (.builtin "isinstance")
 f:xB X "int" (.type "int")
 h:xB X "bytearray" (.type "bytearray")
section
variable{u:sG} {n:ag} {q:ag->Q->Bool} {r b:Nat} {e W:Q} {l:aj}
def BO(u:sG)(l:aj)(n:ag):Bool:=(rU n).d.beq 0&&(BI u (rU n).h&&vi (rU n).h l)
theorem G6(d:sX u c.rW)(i:xB c.sc l k)(a:BI u M=true)(m:vi M l=true):vb c M k:=⟨(GT d a).1,(GT d a).2,(J (xY m) i)⟩
theorem Dr{a1:ag->Prop}(d:sX u c.rW)(i:xB c.sc l k)(a:BO u l n=true)(m:∀M s,vb c M k->a1 (.Name M s)):a1 n:=su.aL (rM a).1<|m _ _<|G6 d i (rM (rM a).2).1 (rM (rM a).2).2
def yC(u:sG)(l:aj)(n:ag)(i:List ag->Bool):Bool:=(rU n).d.beq 4&&((rU n).p.isEmpty&&(BO u l (rU n).e&&i (rU n).f))
theorem zh{a1:ag->Prop}(d:sX u c.rW)(f:xB c.sc l k)(a:yC u l n i=true)(m:∀M s U b6,vb c M k->i U=true->a1 (.Call (.Name M s) U [] b6)):a1 n:=su.aL (rM a).1 (by
 have a:=rM (rM a).2;refine(?_:a1 (.Call (rU n).e (rU n).f (rU n).p (rU n).g));exact J (List.isEmpty_iff.mp a.1)<|Dr (a1:=λz=>a1<|.Call z _ _ _) d f (rM a.2).1 λM s x=>m M s _ _ x (rM a.2).2)
def G7(q:ag->Q->Bool)(u:sG)(i:Nat)(W:Q)(n:ag):Bool:=fr 71 i&&(zR[i -71]?).any λ(l:String)=>yC u l n λU=>xf q U W
theorem Re(a9:vt c.sc)(d:sX u c.rW)(f:th c q)(a:G7 q u i W n=true):sd c n (.i i W):=by
 obtain⟨S,a⟩:=rM a;cases m:zR[i -71]? with
 |none=>have a:=m▸a;exact tC a
 |some l=>
  rw[m,Option.any_some]at a;have a9:=a9.c _ _ m;have a9:=(ds<|di S)▸a9;exact zh (a1:=λn=>sd c n _) d a9.a a λM s U b6 x g=>Fw ⟨x,a9.b⟩ (wl f g) λ_ _=>B
def Ds(q:ag->Q->Bool)(u:sG)(i:Nat)(W:Q)(n:ag):Bool:=(zf[i]?).any λ(l:String)=>yC u l n λU=>xf q U W
theorem Rf(a9:vt c.sc)(d:sX u c.rW)(f:th c q)(a:Ds q u i W n=true):sd c n (.t i W):=by
 unfold Ds at a
 cases m:zf[i]? with
 |none=>have a:=m▸a;exact tC a
 |some l=>
  rw[m,Option.any_some]at a;have a9:=a9.b _ _ m;exact zh (a1:=λn=>sd c n _) d a9.a a λM s U b6 x g=>Fw ⟨x,a9.b⟩ (wl f g) λ_ _=>B
def G8(q:ag->Q->Bool)(u:sG)(e:Q)(n:ag):Bool:=yC u "isinstance" n λU=>match U with
 |[b,g]=>Dp q b e&&BO u "int" g
 |_=>false
theorem Rg(a9:vt c.sc)(h:sX u c.rW)(i:th c q)(a:G8 q u e n=true):sd c n (.fX e):=zh (a1:=λn=>sd c n _) h a9.e a λM s U b6 x d=>by
 match U,d with
 |[b,g],d=>
  have f:=GW i b e (rM d).1;exact Dr (a1:=λg=>sd c (.Call _ [b,g] _ _) _) h a9.f (rM d).2 λk m j=>Od x j f.a f.b
def Dt(u:sG)(r:Nat)(U:List ag):Bool:=match U with
 |[b]=>(rU b).d.beq 0&&wD u r (rU b).h
 |_=>false
theorem G9{c:sL}{a1:List ag->Prop}(d:sX u c.rW)(a:Dt u r U=true)(m:∀M s,c.rW.tq r=D M->ua M->a1 [.Name M s]):a1 U:=by
 match U,a with
 |[b],a=>exact su.aL (a1:=λb=>a1 [b]) (rM a).1<|m _ _ (wk d (rM a).2).1 (wk d (rM a).2).2
def G'(u:sG)(r:Nat)(n:ag):Bool:=yC u (zg .a) n<|Dt u r
theorem Rh(a9:vt c.sc)(d:sX u c.rW)(a:G' u r n=true):sd c n (.y r):=zh (a1:=λn=>sd c n _) d (a9.a .a nofun) a λM s U b6 x f=>G9 (a1:=λU=>sd c (.Call _ U _ _) _) d f λh i S g=>Oe x S g
def G_(u:sG)(r:Nat)(n:ag):Bool:=yC u (zg .b) n<|Dt u r
theorem Ri(a9:vt c.sc)(d:sX u c.rW)(a:G_ u r n=true):sd c n (.C r):=zh (a1:=λn=>sd c n _) d (a9.a .b nofun) a λM s U b6 x f=>G9 (a1:=λU=>sd c (.Call _ U _ _) _) d f λh i S g=>Og x S g
def Ha(q:ag->Q->Bool)(u:sG)(g:ue)(W:Q)(n:ag):Bool:=yC u (zg g) n λU=>xf q U W
theorem Rj(a9:vt c.sc)(d:sX u c.rW)(f:th c q)(a7:g≠.d)(a:Ha q u g W n=true):sd c n (.k g W):=zh (a1:=λn=>sd c n _) d (a9.a g a7) a λM s U b6 x h=>Oc a7 x<|wl f h
end
end
section
section
variable{c:sL} {u:sG} {n:ag} {q:ag->Q->Bool} {r b:Nat} {e L E W:Q} {l:aj}
def xg(l:aj)(n:ag)(i:ag->List ag->Bool):Bool:=(rU n).d.beq 4&&((rU n).p.isEmpty&&((rU (rU n).e).d.beq 1&&(vi (rU (rU n).e).h l&&((rU (rU n).e).g.endLine==(rU n).g.line&&i (rU (rU n).e).e (rU n).f))))
theorem xC{a1:ag->Prop}(a:xg l n i=true)(m:∀z U d b6,(d.endLine==b6.line)=true->i z U=true->a1 (.Call (.Attribute z l d) U [] b6)):a1 n:=su.aL (rM a).1 (by
 have a:=rM (rM a).2;refine(?_:a1 (.Call (rU n).e (rU n).f (rU n).p (rU n).g));refine J (List.isEmpty_iff.mp a.1) ?_;have a:=rM a.2;refine su.aL (a1:=λz=>a1<|.Call z _ _ _) a.1<|(?_:a1 (.Call (.Attribute (rU (rU n).e).e (rU (rU n).e).h (rU (rU n).e).g) _ _ _));have a:=rM a.2;exact J (xY a.1)<|m _ _ _ _ (rM a.2).1 (rM a.2).2)
def zi(q:ag->Q->Bool)(e W:Q)(z:ag)(U:List ag):Bool:=Dq z&&(q z e&&xf q U W)
structure Rk(c:sL)(e W:Q)(z:ag)(U:List ag):Prop where
 b:wU z
 d:sd c z e
 a:uF c U W
theorem zS(d:th c q)(a:zi q e W z U=true):Rk c e W z U:=⟨GX (rM a).1,d _ _ (rM (rM a).2).1,wl d (rM (rM a).2).2⟩
theorem vw.jK(a:vw a1 U .n):U=[]:=by cases a;rfl
theorem vw.fR(a:vw a1 U (.c e .n)):∃b,U=[b]:=by cases a with|c _ a=>cases a;exact⟨_,B⟩
theorem vw.gU(a:vw a1 U (.c e<|.c L .n)):∃b g,U=[b,g]:=by cases a with|c _ a=>cases a with|c _ a=>cases a;exact vK _ _ B
def Hb(q:ag->Q->Bool)(A:Nat)(e W:Q)(n:ag):Bool:=xg (te A) n λz U=>decide (U.length<30)&&zi q e W z U
theorem Rl(d:th c q)(a:Hb q A e W n=true):sd c n (.f A e W):=xC (a1:=λn=>sd c n _) a λz U g s w a=>have f:=zS d (rM a).2;Oi f.d f.b f.a (av (rM a).1) w
def Hc(q:ag->Q->Bool)(e:Q)(n:ag):Bool:=xg "pop" n<|zi q e .n
theorem Rm(g:th c q)(a:Hc q e n=true):sd c n (.r .d e):=xC (a1:=λn=>sd c n _) a λz U h s w a=>have f:=zS g a;(J f.a.jK<|λy T p x=>.dQ f.b .n (af ..) w (f.d y T p x) λz s i l d=>.kC l.n (λa=>FO l.n d a PySem.F.slot_list_pop PySem.F.type_list_pop) (yr B) λ_=>Oq l.n d)
def Hd(q:ag->Q->Bool)(e L:Q)(n:ag):Bool:=xg "pop" n<|zi q e<|.c L .n
theorem Rn(h:th c q)(a:Hd q e L n=true):sd c n (.hF e L):=xC (a1:=λn=>sd c n _) a λz U k s w a=>by
 have f:=zS h a;refine bk f.a.fR λb i=>?_;subst i;exactλy T p x=>.dQ f.b f.a (hy<|bu _) w (f.d y T p x) λz s o l d=>.iL (b0:=wK .e s) f.a (x.aF l) (λa=>CY l.n d a nh ro) (yr B) λv m P g j=>FR ((x.aF l).aF g) (d.aQ g.r.y) j .b
def He(q:ag->Q->Bool)(e L:Q)(n:ag):Bool:=xg "append" n<|zi q e<|.c L .n
theorem Ro(h:th c q)(a:He q e L n=true):sd c n (.hG e L):=xC (a1:=λn=>sd c n _) a λz U k s w a=>by
 have f:=zS h a;refine bk f.a.fR λb i=>?_;subst i;exactλy T p x=>.dQ f.b f.a (hy<|bu _) w (f.d y T p x) λz s o l d=>.iL (b0:=wK .d s) f.a (x.aF l) (λa=>FO l.n d a pg rj) (yr B) λv m P g j=>Op g.n (d.aQ g.r.y) j
def Hf(q:ag->Q->Bool)(e L E:Q)(n:ag):Bool:=xg "pop" n<|zi q e<|.c L<|.c E .n
theorem Rp(i:th c q)(a:Hf q e L E n=true):sd c n (.A .b e L E):=xC (a1:=λn=>sd c n _) a λz U A s w a=>by
 have f:=zS i a;refine vT f.a.gU λb g j=>?_;subst j;exactλy T p x=>.dQ f.b f.a (hy<|bu _) w (f.d y T p x) λz s M l d=>.hC (b0:=wt .b s) f.a (x.aF l) (λa=>CY l.n d a nh ro) (yr B) λk m v q P h o t=>FR ((x.aF l).aF h) (d.aQ h.r.y) o<|.c t
def Hg(q:ag->Q->Bool)(e L E:Q)(n:ag):Bool:=xg "get" n<|zi q e<|.c L<|.c E .n
theorem Rq(i:th c q)(a:Hg q e L E n=true):sd c n (.A .c e L E):=xC (a1:=λn=>sd c n _) a λz U A s w a=>by
 have f:=zS i a;refine vT f.a.gU λb g j=>?_;subst j;exactλy T p x=>.dQ f.b f.a (hy<|bu _) w (f.d y T p x) λz s M l d=>.hC f.a (x.aF l) (λa=>CY l.n d a ph ra) (yr B) λk m v q P h o t=>Ot ((x.aF l).aF h) (d.aQ h.r.y) o t
def Hh(q:ag->Q->Bool)(u:sG)(r:Nat)(L E:Q)(n:ag):Bool:=xg "get" n λz U=>(rU z).d.beq 0&&(wD u r (rU z).h&&xf q U (.c L<|.c E .n))
theorem Rr(d:sX u c.rW)(h:th c q)(a:Hh q u r L E n=true):sd c n (.F r L E):=xC (a1:=λn=>sd c n _) a λz U j s w a=>by
 have f:=wl h (rM (rM a).2).2;have l:=wk d (rM (rM a).2).1;refine vT f.gU λb g i=>?_;subst i;exact su.aL (a1:=λz=>sd c (.Call (.Attribute z _ _) _ _ _) _) (rM a).1<|Ou l.1 l.2 f w
def Du(q:ag->Q->Bool)(j:Option ag)(e:Q):Bool:=@eh ag (λ_=>Bool) j ((tI e).uK.beq 3) λn=>q n e
theorem Hi(d:th c q)(a:Du q j e=true):xS c j e:=by
 cases j with
 |none=>exact tl.xe (a) .b
 |some n=>exact .d<|d n e a
def Hj(q:ag->Q->Bool)(e L E:Q)(n:ag):Bool:=(rU n).d.beq 5&&(q (rU n).e e&&((rU (rU n).i).d.beq 16&&((rU (rU n).i).u.isNone&&(Du q (rU (rU n).i).n L&&Du q (rU (rU n).i).s E))))
theorem Rs(d:th c q)(a:Hj q e L E n=true):sd c n (.A .a e L E):=su.aL (a1:=λn=>sd c n _) (rM a).1 (by
 have a:=rM (rM a).2;have f:=rM a.2;refine su.aL (a1:=λz=>sd c (.Subscript _ z _) _) f.1 ?_;have f:=rM f.2;refine(?_:sd c (.Subscript _ (.Slice (rU (rU n).i).n (rU (rU n).i).s (rU (rU n).i).u _) _) _);exact J (Option.isNone_iff_eq_none.mp f.1)<|Nz (d _ _ a.1) (Hi d (rM f.2).1)<|Hi d (rM f.2).2)
def BP(q:ag->Q->Bool)(a:tM)(L E:Q)(n:ag):Bool:=(rU n).d.beq 6&&(decide ((rU n).o=[vx a])&&(q (rU n).e L&&(BK q (rU n).f (.c E .n)&&!lg [vx a] (rU n).f)))
end
end
section
section
variable{c:sL} {n:ag} {q:ag->Q->Bool} {b:Nat} {X:Q}
theorem Hk{a1:ag->Prop}(d:th c q)(a:BP q e L E n=true)(m:∀w z b6,sd c w L->sd c z E->ot (vx e) z=false->a1 (.Compare w [vx e] [z] b6)):a1 n:=su.aL (rM a).1 (by
 have a:=rM (rM a).2;refine(?_:a1 (.Compare (rU n).e (rU n).o (rU n).f (rU n).g));refine J (av a.1) ?_;have a:=rM a.2;have f:=BL d (rM a.2).1;have v:=(rM a.2).2;generalize (rU n).f=w at f v⊢
 cases f with
 |c f t=>
  cases t;exact m _ _ _ (d _ _ a.1) f<|(eo _).mp v)
theorem Rt(d:th c q)(a:BP q e L E n=true):sd c n (.aG e L E):=Hk (a1:=λn=>sd c n _) d a λ_ _ _=>M2
theorem ww.dK{o:List gt}(a:sd c n e)(i:ww c o a5 X):ww c (vx j::o) (n::a5) (.p j e X):=by
 cases i with
 |d i=>exact .b a<|.d i
 |b i w=>exact .b a<|.b i w
def Dv(q:ag->Q->Bool)(U:List ag)(o:List gt)(X:Q):Bool:=@ee ag (λ_=>List gt->Q->Bool) (λo X=>o.isEmpty&&(tI X).uK.beq 0) (λn _ a o X=>(tI X).uK.beq 2&&(decide (o.head?=D (vx (tI X).GU))&&(q n (tI X).xZ&&a o.tail (tI X).xA))) U o X
theorem Ru(e:th c q):∀{U:List ag} {o:List gt} {X:Q},U≠[] ->Dv q U o X=true->ww c o U X:=by
 intro U;induction U with
 |nil=>
  exact @λ_ _ t _=>absurd B t
 |cons n U g=>
  exact @λo X _ a=>tl.xe (rM a).1 (by
   have a:=rM (rM a).2;have m:=av a.1;cases o with
   |nil=>exact sq m
   |cons j o=>
    obtain rfl:=ak m;have a:=rM a.2;have d:Dv q U o (tI X).xA=true:=a.2;cases U with
    |nil=>
     have d:=rM d;exact J (List.isEmpty_iff.mp d.1)<|tl.xe (a1:=λf=>ww c _ _<|.p _ _ f) d.2<|.d<|e _ _ a.1
    |cons h a5=>exact .dK (e _ _ a.1)<|g Cb d)
end
end
section
section
variable{c:sL} {n:ag} {q r:ag->Q->Bool} {b:Nat} {e L E W:Q}
abbrev Hl(c:sL)(q:ag->Q->Bool):Prop:=∀n e,q n e=true->uk c n e
def Dw(r q:ag->Q->Bool)(e L E:Q)(n:ag):Bool:=(rU n).d.beq 8&&(r (rU n).e e&&(q (rU n).i L&&q (rU n).x E))
theorem Rv(g:Hl c r)(d:th c q)(a:Dw r q e L E n=true):sd c n (.s e L E):=su.aL (a1:=λn=>sd c n _) (rM a).1<|have f:=rM (rM a).2;Mu (g _ _ f.1) (d _ _ (rM f.2).1)<|d _ _ (rM f.2).2
def Dx(q:ag->Q->Bool)(h:Bool)(W:Q)(n:ag):Bool:=(rU n).d.beq 7&&(decide (yp (rU n).y=h)&&BK q (rU n).f W)
theorem Rw(d:th c q)(a:Dx q h W n=true):sd c n (.v h W):=su.aL (a1:=λn=>sd c n _) (rM a).1<|have f:=rM (rM a).2;(sa (av f.1)<|Mv<|BL d f.2)
def BQ(q:ag->Q->Bool)(L E:Q)(n:ag):Bool:=(rU n).d.beq 2&&(decide ((rU n).q=.Mult)&&(q (rU n).i E&&((rU (rU n).e).d.beq 11&&xf q (rU (rU n).e).f (.c L .n))))
theorem vw.eI(a:vw a1 U (.c e .n)):∃b,U=[b]/\a1 b e:=by cases a with|c f a=>cases a;exact sn _ B f
theorem Rx(d:th c q)(a:BQ q L E n=true):sd c n (.dJ L E):=su.aL (a1:=λn=>sd c n _) (rM a).1 (by
 have a:=rM (rM a).2;refine(?_:sd c (.BinOp (rU n).e (rU n).q (rU n).i (rU n).g) _);refine J (av a.1) ?_;have a:=rM a.2;refine su.aL (a1:=λz=>sd c (.BinOp z _ _ _) _) (rM a.2).1<|sh ((wl d (rM a.2).2).eI) λb m f=>(?_:sd c (.BinOp (.List (rU (rU n).e).f _) _ _ _) _)
 exact J m<|O0 f<|d _ _ a.1)
def Hm(q:ag->Q->Bool)(e:Q)(n:ag):Bool:=xg "join" n λz U=>(rU z).d.beq 9&&(decide ((rU z).j=.str ⟨#[]⟩)&&xf q U (.c e .n))
theorem Ry(d:th c q)(a:Hm q e n=true):sd c n (.k .d<|.c e .n):=xC (a1:=λn=>sd c n _) a λz U h s w a=>by
 have f:=wl d (rM (rM a).2).2;refine bk f.fR λb g=>?_;subst g;refine su.aL (a1:=λz=>sd c (.Call (.Attribute z _ _) _ _ _) _) (rM a).1<|(?_:sd c (.Call (.Attribute (.Constant (rU z).j _ _) _ _) _ _ _) _);exact J (av (rM (rM a).2).1)<|O6 B f w
end
end
section
section
variable{n:ag} {q:ag->Q->Bool} {r b:Nat} {e X:Q} {M l:aj} {k:ab}
def BR(q:ag->Q->Bool)(e X:Q)(n:ag):Bool:=(rU n).d.beq 6&&(q (rU n).e e&&(fr 2 (rU n).f.length&&(!lg (rU n).o (rU n).f&&Dv q (rU n).f (rU n).o X)))
theorem Hn{a1:ag->Prop}(u:th c q)(a:BR q e X n=true)(m:∀w h j o p s a5 b6,sd c w e->ww c (h::j::o) (p::s::a5) X->lg (h::j::o) (p::s::a5)=false->a1 (.Compare w (h::j::o) (p::s::a5) b6)):a1 n:=su.aL (rM a).1 (by
 have a:=rM (rM a).2;have v:=rM a.2;have f:=rM v.2;refine(?_:a1 (.Compare (rU n).e (rU n).o (rU n).f (rU n).g));have t:(rU n).f≠[]:=λm=>by rw[m]at v;exact tC v.1
 have i:=Ru u t f.2;have A:=(eo _).mp f.1;have g:=v.1;generalize (rU n).f=w at i A g⊢
 generalize (rU n).o=d at i A⊢
 cases i with
 |d=>exact tC g
 |b x y=>exact m _ _ _ _ _ _ _ _ (u _ _ a.1) (.b x y) A)
theorem Rz(d:th c q)(a:BR q e X n=true):sd c n (.w e X):=Hn (a1:=λn=>sd c n _) d a λ_ _ _ _ _ _ _ _=>M9
noncomputable def BS(h:Const):Option aj:=@Const.casesOn (λ_=>Option aj) h none (λ_=>none) (λ_=>none) (λ_=>none) (λ_ _=>none) D (λ_=>none) none
noncomputable def Ho(h:Const):Option (List UInt8):=@Const.casesOn (λ_=>Option<|List UInt8) h none (λ_=>none) (λ_=>none) (λ_=>none) (λ_ _=>none) (λ_=>none) D none
theorem Dy(a:BS h=D M):h=.str M:=by cases h<;>first|obtain rfl:=ak a;rfl|exact sq a
theorem RA(a:Ho h=D g):h=.bytes g:=by cases h<;>first|obtain rfl:=ak a;rfl|exact sq a
noncomputable def Hp(b g:List Int):Bool:=decide<|b=g
def Hq(k:rN)(h:Const):Bool:=@rN.casesOn (λ_=>Bool) k (decide<|h=.none) (λg=>decide<|h=.bool g) (λr=>decide<|h=.int r) (λl=>(BS h).any λM=>ze (wj M) l&&fr (wj M).length 2000000) (λg=>(Ho h).any λM=>Hp (M.map λz=>(z.toNat:Int)) g&&fr M.length 2000000) (λ_=>false) (λ_=>false) (λ_ _ _=>false) (λ_ _=>false) (λ_=>false)<|λ_=>false
theorem vk{a0:Type}{j:Option a0}{s:a0->Bool}(a:j.any s=true):∃b,j=D b/\s b=true:=by
 cases j with
 |none=>exact tC a
 |some b=>exact sn b B a
theorem RB(a:Hq s h=true):sd c (.Constant h t b6) (.d s):=by
 cases s with
 |e=>exact J (av a)<|λy T p x=>.aJ λa2=>Constant_none<|.bP x.k B
 |d g=>exact av a▸(λy T p x=>.aJ λa2=>Constant_bool<|.bP x.k B)
 |i r=>exact av a▸E9
 |f l=>
  exact sh (vk a) λM e a=>(Dy e)▸(AM (rM a).1)▸(λy T p x=>.aJ λa2=>jv<|.bE x.k<|uQ _ _ B B<|di (rM a).2)
 |m g=>
  exact sh (vk a) λM e a=>(RA e)▸(av (rM a).1)▸(λy T p x=>.aJ λa2 _ _ _=>tB.bE x.k<|uQ _ _ B B<|by rw[a_];exact(di (rM a).2))
 |_=>exact tC a
def Hr(k:rN)(n:ag):Bool:=(rU n).d.beq 9&&Hq k (rU n).j
theorem RC(a:Hr s n=true):sd c n (.d s):=su.aL (a1:=λn=>sd c n _) (rM a).1<|RB (rM a).2
def Hs(q:ag->Q->Bool)(e:Q)(n:ag):Bool:=(rU n).d.beq 5&&(q (rU n).e e&&((rU (rU n).i).d.beq 16&&((rU (rU n).i).n.isNone&&((rU (rU n).i).s.isNone&&(rU (rU n).i).u.any λz=>(rU z).d.beq 3&&(decide ((rU z).r=.USub)&&((rU (rU z).e).d.beq 9&&decide ((rU (rU z).e).j=.int 1)))))))
theorem RD(d:th c q)(a:Hs q e n=true):sd c n (.r .a e):=su.aL (a1:=λn=>sd c n _) (rM a).1 (by
 have a:=rM (rM a).2;have f:=rM a.2;refine su.aL (a1:=λz=>sd c (.Subscript _ z _) _) f.1 ?_;have f:=rM f.2;have v:=rM f.2;refine sh (vk v.2) λz m i=>(?_:sd c (.Subscript _ (.Slice (rU (rU n).i).n (rU (rU n).i).s (rU (rU n).i).u _) _) _)
 refine J (Option.isNone_iff_eq_none.mp f.1)<|J (Option.isNone_iff_eq_none.mp v.1)<|J m<|su.aL (a1:=λz=>sd c (.Subscript _ (.Slice _ _ (D z) _) _) _) (rM i).1 ?_;have i:=rM (rM i).2;refine(?_:sd c (.Subscript _ (.Slice _ _ (D<|.UnaryOp (rU z).r (rU z).e _) _) _) _);refine J (av i.1)<|su.aL (a1:=λk=>sd c (.Subscript _ (.Slice _ _ (D<|.UnaryOp _ k _) _) _) _) (rM i.2).1<|(?_:sd c (.Subscript _ (.Slice _ _ (D<|.UnaryOp _ (.Constant (rU (rU z).e).j _ _) _) _) _) _);exact J (av (rM i.2).2)<|ND<|d _ _ a.1)
end
end
section
section
variable{u:sG} {n:ag} {i:Nat}
structure xh(X:s_)(d:Nat->Option ab):Prop where
 a:vt X
 b:∀i z,d i=D z->xB X (te i) z
noncomputable def Dz(z:ab):ct:=@nu (λ_=>ct) z 0 0 0 (λ_=>0) (λ_ n=>n) (λ_ _=>0) (λ_ n=>n) (λ_ n=>n) (λ_=>0) (λ_=>0)<|λ_=>0
noncomputable def Ht(z:ab):aj:=@nu (λ_=>aj) z default default default (λ_=>default) (λ_ _=>default) (λ_ _=>default) (λl _=>l) (λ_ _=>default) (λ_=>default) (λ_=>default)<|λ_=>default
noncomputable def Hu(z:ab):Array UInt8:=@nu (λ_=>Array UInt8) z #[] #[] #[] (λ_=>#[]) (λ_ _=>#[]) (λ_ _=>#[]) (λ_ _=>#[]) (λg _=>g) (λ_=>#[]) (λ_=>#[])<|λ_=>#[]
noncomputable def x_(z k:ab):Bool:=decide<|z=k
theorem zT(a:x_ z k=true):z=k:=av a
def BU(k:rN)(z:ab):Bool:=@rN.casesOn (λ_=>Bool) k (x_ z .none) (λg=>x_ z<|.bool g) (λr=>x_ z<|.int r<|Dz z) (λl=>x_ z (.str (Ht z)<|Dz z)&&(ze (wj<|Ht z) l&&fr l.length 2000000)) (λg=>x_ z (.bytes (Hu z)<|Dz z)&&(Hp ((Hu z).toList.map λz=>(z.toNat:Int)) g&&fr g.length 2000000)) (λ_=>false) (λ_=>false) (λ_ _ _=>false) (λ_ _=>false) (λ_=>false)<|λ_=>false
theorem DA:BU k z=true->rZ (λ_=>.b) z k/\Bg k=true:=@rN.casesOn (λk=>BU k z=true->rZ (λ_=>.b) z k/\Bg k=true) k (λa=>⟨zT a,B⟩) (λg a=>⟨zT a,B⟩) (λr a=>⟨⟨_,zT a⟩,B⟩) (λl a=>⟨(uQ _ _ (zT (rM a).1) (AM (rM (rM a).2).1)<|di (rM (rM a).2).2),B⟩) (λg a=>⟨(uQ _ _ (zT (rM a).1) (av (rM (rM a).2).1)<|di (rM (rM a).2).2),B⟩) (λ_=>sD) (λ_=>sD) (λ_ _ _=>sD) (λ_ _=>sD) (λ_=>sD)<|λ_=>sD
def Hv(d:Nat->Option ab)(u:sG)(i:Nat)(k:rN)(n:ag):Bool:=(rU n).d.beq 0&&(BM i (rU n).h&&(BI u (rU n).h&&(d i).any (BU k)))
theorem RE(a9:xh c.sc d)(b:sX u c.rW)(a:Hv d u i s n=true):sd c n (.l i s):=su.aL (a1:=λn=>sd c n _) (rM a).1 (by
 have a:=rM (rM a).2;have f:=rM a.2;exact sh (vk f.2) λh m v=>λy T p x=>.aJ λa2=>(G6 b (a9.b i h m) f.1 a.1).cN x.l x.k.h.C<|.bP x.k<|((DA v).1).jC<|(DA v).2)
def RF(n:ag):Prop:=∀o a,isTrue n o a=(do let k<-a;hd n.pos;gm [k]<|ig k)
def AQ(n:ag):Bool:=(rU n).d.beq 0||(rU n).d.beq 1||(rU n).d.beq 2||(rU n).d.beq 4||(rU n).d.beq 5
theorem RG(a:AQ n=true):RF n:=by
 rcases Bool.or_eq_true_iff.mp a with a|a
 ·rcases Bool.or_eq_true_iff.mp a with a|a
  ·rcases Bool.or_eq_true_iff.mp a with a|a
   ·rcases Bool.or_eq_true_iff.mp a with a|a
    ·exact su.aL a λ_ _=>B
    ·exact su.aL a λ_ _=>B
   ·exact su.aL a λ_ _=>B
  ·exact su.aL a λ_ _=>B
 ·exact su.aL a λ_ _=>B
theorem RH(a:AQ n=true)(b:sd c n e):uk c n e:=λy T p x=>J ((RG a) _ _)<|(b y T p x).aC λk s f l d=>.aT<|.aZ<|yo l.n d
end
end
section
def BV(s:Nat->List Nat->Bool)(w:List (List Nat)):Nat->Bool:=@ee (List Nat) (λ_=>Nat->Bool) (λ_=>true) (λA _ a i=>s i A&&a (i+1)) w
theorem Hw:∀{w:List (List Nat)} {i r:Nat} {A:List Nat},BV s w i=true->w[r]?=D A->s (i+r) A=true
 |b::w,i,0,A,a,e=>sa (ak e)<|(rM<|show(s i b&&BV s w (i+1))=true from a).1
 |b::w,i,r+1,A,a,e=>sa (dw i 1 r)<|Hw (rM<|show(s i b&&BV s w (i+1))=true from a).2 e
def AR(s:Nat->aj->Bool)(w:List (List Nat)):Bool:=BV (λr A=>A.isEmpty||s r (yz A)) w 0
theorem BW(a:AR s w=true)(m:tX w r=D c):s r c=true:=by
 unfold tX at m
 cases e:w[r]? with
 |none=>have m:=e▸m;exact sq m
 |some A=>
  rw[e]at m;have v:=Hw a e;rw[bt]at v;have m:(bif A.isEmpty then none else D<|yz A)=D c:=m;cases f:A.isEmpty with
  |true=>rw[f]at m;exact sq m
  |false=>rw[f]at m v;exact sa (ak m) v
def RI(u:sG)(w:List (aj×dr)):List (aj×dr):=w.map λ(t,i)=>if(i==.free&&xz u t==D .cell)then(t,.cell)else(t,i)
def RJ(o:List (List Nat))(S:List Nat)(a6:List (Nat×aj)):List (List Nat):=a6.foldl (λo s=>o.set s.1<|wj s.2)<|o.zipIdx.map λm=>bif S.contains m.2 then m.1 else[]
def RK(n:ag):List aj:=bif (rU n).d.beq 0 then[(rU n).h]else(rU n).f.map λc=>(rU c).h
def AS(u:sG)(p:cy)(a0 S:List Nat)(n:ag):sG:=⟨RI u p.names,RJ u.yB S<|a0.zip<|RK n,false,none⟩
def BX(u:sG)(p:cy)(s:aj×dr):Bool:=bif vj .local (D s.2)then vj .local<|wC p.names s.1 else bif vj .cell (D s.2)then false else bif vj .free (D s.2)then vj .cell (xz u s.1)&&(b_ u.yB.length).any λr=>wD u r s.1 else true
def RL(u:sG)(p:cy)(S:List Nat)(r:Nat)(c:aj):Bool:=bif S.contains r then vj .free (wC p.names c)&&(wD u r c&&vj .cell (xz u c))else vj .local<|wC p.names c
def DB(o:List (List Nat)):Bool:=AR (λr c=>AR (λL M=>r.beq L||!vi c M) o) o
theorem Hx(a:DB o=true)(r L:Nat)(c:aj)(m:tX o r=D c)(q:tX o L=D c):r=L:=by
 rcases Bool.or_eq_true_iff.mp<|BW (BW a m) q with v|v
 ·exact da v
 ·exact(BH ((eo _).mp v) B).elim
def Hy(u:sG)(p:cy)(S:List Nat)(o:List (List Nat)):Bool:=decide (p.kind=.function)&&(p.names.all (BX u p)&&(AR (RL u p S) o&&DB o))
section
variable{u:sG} {P:tT} {p:cy} {S:List Nat}
theorem zj(a:vj i (wC w c)=true):w.lookup c=D i:=(Dl c w).symm.trans<|av a
theorem RM{o:List (List Nat)}(R:ty P)(d:sX u P)(a:Hy u p S o=true):yZ P p S (tX o)where
 a:=av (rM a).1
 e:=λs b e=>by
  have f:=List.all_eq_true.mp (rM (rM a).2).1 s b;unfold BX at f
  rw[e]at f;exact zj f
 g:=λs b e=>by
  have f:=List.all_eq_true.mp (rM (rM a).2).1 s b;unfold BX at f
  rw[e]at f;exact tC f
 b:=λs b e=>by
  have f:=List.all_eq_true.mp (rM (rM a).2).1 s b;unfold BX at f
  rw[e]at f;have f:=rM f;obtain⟨r,_,m⟩:=List.any_eq_true.mp f.2;rcases R.l r s.1 (wk d m).1 with v|v
  ·cases v.symm.trans<|(d.dT s.1).trans<|av f.1
  ·exact v.2
 f:=λr c m=>by
  have f:(bif S.contains r then vj .free (wC p.names c)&&(wD u r c&&vj .cell (xz u c))else vj .local<|wC p.names c)=true:=BW (rM (rM (rM a).2).2).1 m;cases h:S.contains r with
  |false=>rw[h]at f;exact .inl ⟨zj f,B⟩
  |true=>
   rw[h]at f;have v:=rM (rM f).2;exact .inr ⟨zj (rM f).1,(wk d v.1).1,(d.dT c).trans<|av v.2⟩
 inj:=Hx (rM (rM (rM a).2).2).2
theorem Hz(R:ty P)(a:sX u P):sX (AS u p a0 S n) (xs P p (tX (AS u p a0 S n).yB) s a2 a7):=by
 refine⟨B,B,?_,λ_ _ e=>sq e⟩;refine(?_);refine ln λ⟨c,i⟩ _=>(?_:(if(i==.free&&P.sb.scope.kind==.function&&P.sb.kindOf c==D .cell)=true then(c,jt)else(c,i))=_)
 refine(a.dT ..)▸(az R.d)▸?_;cases i<;>rfl
end
end
section
abbrev tY:=Bool->sG->ag->Q->Bool
def RN(a:Bool)(c:sL)(n:ag)(e:Q):Prop:=@dy (λ_=>Prop) a (sd c n e)<|uk c n e
def AT(u:sG)(U:List ag)(a0:List Nat):Bool:=@ee ag (λ_=>List Nat->Bool) (λa0=>a0.isEmpty) (λn _ a a0=>@fn Nat (λ_=>Bool) a0 false λr a0=>(rU n).d.beq 0&&(AN u r (rU n).h&&a a0)) U a0
theorem DC(b:sX u P)(R:P.uc=true->ty P):∀{U:List ag} {a0:List Nat},AT u U a0=true->xr P U a0:=by
 intro U;induction U with
 |nil=>
  exact @λa0 a=>J (List.isEmpty_iff.mp a) .n
 |cons n U c=>
  exact @λ(r::a0) a=>have a:((rU n).d.beq 0&&(AN u r (rU n).h&&AT u U a0))=true:=a;su.aL (a1:=λn=>xr P (n::U)<|r::a0) (rM a).1 (.c (BJ b R (rM (rM a).2).1)<|c (rM (rM a).2).2)
def DD(u:sG)(n:ag)(a0:List Nat)(E:Bool):Bool:=bif E then(rU n).d.beq 10&&AT u (rU n).f a0 else AT u [n] a0&&a0.length.beq 1
theorem HA(b:sX u P)(R:P.uc=true->ty P)(a:DD u n a0 E=true):wW P n a0 E:=by
 cases E with
 |true=>exact su.aL (a1:=λn=>wW P n a0 true) (rM a).1<|.a<|DC b R (rM a).2
 |false=>
  have f:=DC b R (rM<|a).1;cases f with
  |c s m=>cases m;exact .b s
def RO(n:ag):Prop:=∀o k,mp n o k=ay k
def DE(n:ag):Bool:=(rU n).d.beq 0||(rU n).d.beq 1||(rU n).d.beq 2||(rU n).d.beq 4||(rU n).d.beq 5||(rU n).d.beq 11
theorem HB(a:DE n=true):RO n:=by
 rcases Bool.or_eq_true_iff.mp a with a|a
 ·rcases Bool.or_eq_true_iff.mp a with a|a
  ·rcases Bool.or_eq_true_iff.mp a with a|a
   ·rcases Bool.or_eq_true_iff.mp a with a|a
    ·rcases Bool.or_eq_true_iff.mp a with a|a
     ·exact su.aL a λ_ _=>B
     ·exact su.aL a λ_ _=>B
    ·exact su.aL a λ_ _=>B
   ·exact su.aL a λ_ _=>B
  ·exact su.aL a λ_ _=>B
 ·exact su.aL a λ_ _=>B
noncomputable def HC(w:List px)(i:ag->ag->Bool):Bool:=@fn px (λ_=>Bool) w false λh q=>q.isEmpty&&(h.ifs.isEmpty&&(decide (h.is_async=0)&&i h.target h.iter))
theorem RP(a:HC w i=true):∃b g,w=[⟨b,g,[],0⟩]/\i b g=true:=by
 cases w with
 |nil=>exact tC a
 |cons h q=>
  have a:=rM a;have f:=rM a.2;have v:=rM f.2;obtain⟨b,g,r,t⟩:=h;obtain rfl:=List.isEmpty_iff.mp a.1;obtain rfl:=List.isEmpty_iff.mp f.1;obtain rfl:=av v.1;exact uw b g B v.2
def zU(q:tY)(u:sG)(a0:List Nat)(E:Bool)(S:List Nat)(b7 b':Q)(n:ag):Bool:=(rU n).d.beq 13&&HC (rU n).v λb g=>Hy u (rU n).l S (AS u (rU n).l a0 S b).yB&&(DE g&&(q false u g b7&&(DD (AS u (rU n).l a0 S b) b a0 E&&q false (AS u (rU n).l a0 S b) (rU n).e b')))
section
variable{d:Nat->Option ab} {q:tY} {c:sL} {u:sG} {n:ag} {e b g h W b7 b':Q} {a0 S:List Nat} {E:Bool}
def wm(d:Nat->Option ab)(q:tY):Prop:=∀a u c n e,xh c.sc d->sX u c.rW->q a u n e=true->RN a c n e
theorem wm.eN(P:wm d q)(a9:xh c.sc d)(a:sX u c.rW):th c (q false u):=λn e=>P false u c n e a9 a
theorem wm.gY(P:wm d q)(a9:xh c.sc d)(a:sX u c.rW):Hl c (q true u):=λn e=>P true u c n e a9 a
theorem HD{a1:ag->Prop}(P:wm d q)(a9:xh c.sc d)(l:sX u c.rW)(R:ty c.rW)(a:zU q u a0 E S b7 b' n=true)(m:∀j i U a5 b6 o,AE c j i U a5 a0 E S b7 b' o->a1 (.ListComp j [⟨i,U,[],0⟩] a5 b6)):a1 n:=su.aL (rM a).1 (by
 refine tP (RP (rM a).2) λz k e a=>(?_:a1 (.ListComp (rU n).e (rU n).v (rU n).l (rU n).g))
 refine J e ?_;have a:=rM a;have f:=rM a.2;have v:=rM f.2;exact m _ _ _ _ _ _ ⟨RM R l a.1,P.eN a9 l _ _ v.1,λk=>HB f.1 _ k,λs a2 a7=>HA (Hz R l) tC (rM v.2).1,λs a2 a7=>P.eN (c:=⟨c.sc,xs c.rW _ _ s a2 a7,c.t_,c.vC.map λ_=>none⟩) a9 (Hz R l) _ _ (rM v.2).2⟩)
theorem RQ(P:wm d q)(a9:xh c.sc d)(f:sX u c.rW)(a:zU q u a0 E S b7 b' n=true):sd c n (.o a0 E S b7 b'):=λy T p x=>(λR=>HD (a1:=λn=>sd c n _) P a9 f R a λ_ _ _ _ _ _=>OR) x.l y T p x
noncomputable def DF(g:ue):Bool:=@ue.casesOn (λ_=>Bool) g false false false false false false false false false false false true
theorem RR{g:ue}(a:DF g=true):g=.d:=by cases g<;>first|rfl|exact tC a
def DG(q:ag->Q->Bool)(u:sG)(g:ue)(W:Q)(n:ag):Bool:=bif DF g then(tI W).uK.beq 1&&((tI (tI W).xA).uK.beq 0&&Hm q (tI W).xZ n)else Ha q u g W n
theorem RS{g:ue}{q:ag->Q->Bool}(a9:vt c.sc)(j:sX u c.rW)(i:th c q)(a:DG q u g W n=true):sd c n (.k g W):=by
 unfold DG at a
 cases m:DF g with
 |true=>
  rw[m]at a;have f:=rM (rM a).2;exact J (RR m)<|tl.xe (a1:=λW=>sd c n<|.k .d W) (rM a).1<|tl.xe (a1:=λW=>sd c n<|.k .d<|.c _ W) f.1<|Ry i f.2
 |false=>
  rw[m]at a;exact Rj a9 j i (λv=>by subst v;exact A4 m) a
def zk(d:Nat->Option ab)(q:tY)(u:sG)(n:ag)(e:Q):Bool:=@Q.casesOn (λ_=>Bool) e false (λ_ _=>false) (λk=>Hr k n) (λi k=>Hv d u i k n) (λr=>GY u r n) (λj b=>@xH.casesOn (λ_=>Bool) j (λi=>GZ (q false u) i b n) (AO (q false u) .Invert b n) (AO (q false u) .USub b n) (AO (q false u) .Not b n) (Hs (q false u) b n) (Hc (q false u) b n)<|G8 (q false u) u b n) (λj b g=>@xI.casesOn (λ_=>Bool) j (λa=>G1 (q false u) a b g n) (λa=>BP (q false u) a b g n) (G2 (q false u) b g n) (Hd (q false u) b g n) (He (q false u) b g n)<|BQ (q false u) b g n) (λj b g h=>@zt.casesOn (λ_=>Bool) j (Hj (q false u) b g h n) (Hg (q false u) b g h n)<|Hf (q false u) b g h n) (λr i=>G0 u r i n) (λb X=>BR (q false u) b X n) (λ_ _ _=>false) (λh W=>Dx (q false u) h W n) (λb g h=>Dw (q true u) (q false u) b g h n) (λr b=>G3 (q false u) u r b n) false (λW=>G4 (q false u) W n) (λW=>AP (q false u) W n) (λi W=>G7 (q false u) u i W n) (λA b W=>Hb (q false u) A b W n) (λi W=>Ds (q false u) u i W n) (λg W=>DG (q false u) u g W n) (λr=>G' u r n) (λr=>G_ u r n) (λr b g=>Hh (q false u) u r b g n) (λW=>AP (q false u) W n) ((rU n).d.beq 12) (λa0 E S b7 b'=>zU q u a0 E S b7 b' n) true
theorem HE(P:wm d q)(a9:xh c.sc d)(l:sX u c.rW):zk d q u n e=true->sd c n e:=have f:=P.eN a9 l;@Q.casesOn (λe=>zk d q u n e=true->sd c n e) e sD (λ_ _=>sD) (λk=>RC) (λi k=>RE a9 l) (λr=>Q6 l) (λj b=>@xH.casesOn (λj=>zk d q u n (.r j b)=true->sd c n (.r j b)) j (λi=>Q7 f) (BN M5 f) (BN Fl f) (BN Mt f) (RD f) (Rm f)<|Rg a9.a l f) (λj b g=>@xI.casesOn (λj=>zk d q u n (.u j b g)=true->sd c n (.u j b g)) j (λm=>Q9 f) (λm=>Rt f) (Q' f) (Rn f) (Ro f)<|Rx f) (λj b g h=>@zt.casesOn (λj=>zk d q u n (.A j b g h)=true->sd c n (.A j b g h)) j (Rs f) (Rq f)<|Rp f) (λr i=>Q8 l) (λb X=>Rz f) (λ_ _ _=>sD) (λh W=>Rw f) (λb g h=>Rv (P.gY a9 l) f) (λr b=>Q_ l f) sD (λW=>Ra f) (λW=>Rb f) (λi W=>Re a9.a l f) (λA b W=>Rl f) (λi W=>Rf a9.a l f) (λg W=>RS a9.a l f) (λr=>Rh a9.a l) (λr=>Ri a9.a l) (λr b g=>Rr l f) (λW=>Rc f) Rd (λa0 E S b7 b'=>RQ P a9 l) λ_ _ _ _ _ _ a=>sq a
def AU(q:tY)(u:sG)(n:ag)(e:Q):Bool:=@Q.casesOn (λ_=>Bool) e false (λ_ _=>false) (λ_=>false) (λ_ _=>false) (λ_=>false) (λj b=>@xH.casesOn (λ_=>Bool) j (λ_=>false) false false (AO (q true u) .Not b n) false false false) (λj b g=>@xI.casesOn (λ_=>Bool) j (λ_=>false) (λa=>BP (q false u) a b g n) false false false false) (λ_ _ _ _=>false) (λ_ _=>false) (λb X=>BR (q false u) b X n) (λ_ _ _=>false) (λh W=>Dx (q true u) h W n) (λb g h=>Dw (q true u) (q true u) b g h n) (λ_ _=>false) false (λ_=>false) (λ_=>false) (λ_ _=>false) (λ_ _ _=>false) (λ_ _=>false) (λ_ _=>false) (λ_=>false) (λ_=>false) (λ_ _ _=>false) (λ_=>false) false (λ_ _ _ _ _=>false) true
theorem RT(P:wm d q)(a9:xh c.sc d)(k:sX u c.rW):AU q u n e=true->uk c n e:=have l:=P.eN a9 k;have i:=P.gY a9 k;@Q.casesOn (λe=>AU q u n e=true->uk c n e) e sD (λ_ _=>sD) (λ_=>sD) (λ_ _=>sD) (λ_=>sD) (λj b=>@xH.casesOn (λj=>AU q u n (.r j b)=true->uk c n (.r j b)) j (λ_=>sD) sD sD (BN Ms i) sD sD sD) (λj b g=>@xI.casesOn (λj=>AU q u n (.u j b g)=true->uk c n (.u j b g)) j (λ_=>sD) (λm=>(λa=>Hk (a1:=λn=>uk c n _) l a λ_ _ _=>M4)) sD sD sD sD) (λ_ _ _ _=>sD) (λ_ _=>sD) (λb X=>(λa=>Hn (a1:=λn=>uk c n _) l a λ_ _ _ _ _ _ _ _=>M')) (λ_ _ _=>sD) (λh W=>(λa=>su.aL (a1:=λn=>uk c n _) (rM a).1<|have f:=rM (rM a).2;(sa (av f.1)<|Mx<|BL i f.2))) (λb g h=>(λa=>su.aL (a1:=λn=>uk c n _) (rM a).1<|have f:=rM (rM a).2;My (i _ _ f.1) (i _ _ (rM f.2).1)<|i _ _ (rM f.2).2)) (λ_ _=>sD) sD (λ_=>sD) (λ_=>sD) (λ_ _=>sD) (λ_ _ _=>sD) (λ_ _=>sD) (λ_ _=>sD) (λ_=>sD) (λ_=>sD) (λ_ _ _=>sD) (λ_=>sD) sD (λ_ _ _ _ _=>sD) λ_ _ _ _ _ _ a=>sq a
def HF(d:Nat->Option ab):Nat->tY:=λA=>@Nat.rec (λ_=>tY) (λ_ _ _ _=>false) (λ_ q a u n e=>bif a then AU q u n e||(AQ n&&zk d q u n e)else zk d q u n e) A
theorem RU:∀A,wm d<|HF d A:=@λA=>A3 (λ_ _ _ _ _ _ _ a=>tC a) (λA i=>λj u c n e a9 f=>by
  have P:=i;cases j with
  |false=>exact HE P a9 f
  |true=>exactλa=>(Bool.or_eq_true_iff.mp a).elim (RT P a9 f) λa=>RH (rM a).1<|HE P a9 f (rM a).2) A
end
end
section
noncomputable def zV{a0:Type}(w:List a0)(i:a0->Bool):Bool:=@fn a0 (λ_=>Bool) w false λb q=>q.isEmpty&&i b
theorem AV{w:List a0}{i:a0->Bool}(a:zV w i=true):∃b,w=[b]/\i b=true:=by
 cases w with
 |nil=>exact tC a
 |cons b q=>exact sn b (G (b::·)<|List.isEmpty_iff.mp (rM a).1)<|(rM a).2
def wn(l:be)(i:ag->ag->bp->Bool):Bool:=(sO l).d.beq 1&&zV (sO l).o λn=>i n (sO l).f (sO l).e
theorem wE{a1:be->Prop}(a:wn l i=true)(m:∀n M s,i n M s=true->a1 (.Assign [n] M s)):a1 l:=ti.aL (rM a).1 (by
 refine sh (AV (rM a).2) λn e a=>(?_:a1 (.Assign (sO l).o (sO l).f (sO l).e))
 exact J e<|m _ _ _ a)
def zW(u:sG)(r:Nat)(n:ag):Bool:=(rU n).d.beq 0&&wD u r (rU n).h
theorem AW{a1:ag->Prop}(b:sX u P)(a:zW u r n=true)(m:∀M s,P.tq r=D M->ua M->a1 (.Name M s)):a1 n:=su.aL (rM a).1<|m _ _ (wk b (rM a).2).1 (wk b (rM a).2).2
def zX(u:sG)(r:Nat)(n:ag):Bool:=(rU n).d.beq 0&&AN u r (rU n).h
theorem BY{a1:ag->Prop}(b:sX u P)(R:ty P)(a:zX u r n=true)(m:∀M s,vc P M r->a1 (.Name M s)):a1 n:=su.aL (rM a).1<|m _ _<|BJ b (λ_=>R) (rM a).2
noncomputable def BZ(b:aj->Option dr)(a5 V:List ag):Option (Option<|List aj):=if(!(a5.length==2||a5.length==3)||V.length !=a5.length)=true then D none
 else if(V.any λ|.Starred ..=>true|_=>false)=true then D none
 else let c:=(a5.head?.map (·.pos.line)).getD 0;let a:=a5.filterMap λ
   |.Name o b6=>if b o==D .local&&b6.line==c then D o else none
   |_=>none
  if(a.length !=a5.length||a.eraseDups.length !=a.length)=true then D none
  else if V.all (foldedForSure 8)=true then D none
  else if V.all (constantsAlone 8)=true then none
  else D<|D a
theorem B0{a0:Type}{b:Prop}[Decidable b]{c:Option (Option a0)}{n:au (Option a0)}{q:Option a0}(a:(if b then D none else c)=D q)(i:c=D q->n=ay q):(if b then ay none else n)=ay q:=by
 by_cases f:b
 ·rw[an f]at a⊢;exact G ay<|ak a
 ·rw[am f]at a⊢;exact i a
theorem HG(b:o.scope.kind=.function)(a:BZ o.kindOf a5 V=D q):hz [.Tuple a5 i s] (.Tuple V c d) o=ay q:=by
 have a7:(o.blockKind !=ScopeKind.function)=false:=by
  unfold rp;refine J b ?_
  rfl
 unfold BZ at a
 unfold hz;dsimp only at a⊢
 refine J a7<|J (ng ..)<|B0 a λa=>B0 a λa=>B0 a λa=>B0 a λa=>?_
 split at a
 ·exact sq a
 ·rename_i f
  exact ae (am f)<|G ay<|ak a
def RV(n:ag):Prop:=∀a5 i s o,hz [.Tuple a5 i s] n o=ay none
theorem RW(a:AQ n=true):RV n:=by
 rcases Bool.or_eq_true_iff.mp a with a|a
 ·rcases Bool.or_eq_true_iff.mp a with a|a
  ·rcases Bool.or_eq_true_iff.mp a with a|a
   ·rcases Bool.or_eq_true_iff.mp a with a|a
    ·exact su.aL a λ_ _ _ _=>B
    ·exact su.aL a λ_ _ _ _=>B
   ·exact su.aL a λ_ _ _ _=>B
  ·exact su.aL a λ_ _ _ _=>B
 ·exact su.aL a λ_ _ _ _=>B
def DH(u:sG)(a5:List ag)(n:ag)(q:Option (List aj)):Bool:=(AQ n&&q.isNone)||((rU n).d.beq 10&&decide (BZ (xz u) a5 (rU n).f=D q))
theorem HH(b:sX u P)(R:ty P)(a:DH u a5 n q=true):hz [.Tuple a5 i s] n P.sb=ay q:=by
 rcases Bool.or_eq_true_iff.mp a with a|a
 ·exact J (Option.isNone_iff_eq_none.mp (rM a).2)<|RW (rM a).1 _ _ _ _
 ·refine su.aL (a1:=λn=>hz [.Tuple a5 i s] n P.sb=ay q) (rM a).1<|HG R.d ?_;exact J (funext b.dT)<|av (rM a).2
end
section
section
variable{q:tY} {c:sL} {u:sG} {l:be} {n:ag} {e b g W:Q} {r i:Nat}
theorem sB.dI(a:ty c.rW->sB c l A):sB c l A:=λy T p x=>a x.l y T p x
def AX(a:Nat)(p:cy)(s:Nat)(u:sG)(M:aj):Bool:=vj .local (xz u M)&&(a==s)&&!(p.names.any λ(t,i)=>t==M&&(i==.local||i==.cell))
theorem RX(h:sX u P)(R:ty P)(a:AX s.line p d.line u M=true):swapsWith (.ListComp j x p d) (D<|.Name M s) w P.sb=ay true:=by
 have v:=rM a;have f:=rM v.1;have a7:P.sb.blockKind=.function:=by
  unfold rp;refine J R.d ?_
  rfl
 refine(?_:(ay (P.sb.blockKind==.function&&P.sb.kindOf M==D .local&&s.line==d.line&&!(p.names.any λ(t,i)=>t==M&&(i==.local||i==.cell))):au Bool)=_);refine(az a7)▸(h.dT M)▸(az<|av f.1)▸(az f.2)▸(az v.2)▸?_
 rfl
def HI(q:tY)(u:sG)(r:Nat)(e:Q)(l:be):Bool:=wn l λn M s=>zX u r n&&bif vz M then q false u M e else(tI e).uK.beq 4&&(zU q u (tI e).Dm (tI e).Dn (tI e).Do (tI e).xZ (tI e).xA M&&AX (rU n).g.line (rU M).l (rU M).g.line u (rU n).h)
theorem RY(P:wm d q)(a9:xh c.sc d)(h:sX u c.rW)(R:ty c.rW)(k:vc c.rW M r)(a:zU q u a0 E S b7 b' n=true)(f:AX m.line (rU n).l (rU n).g.line u M=true):sB c (.Assign [.Name M m] n s) (.a r<|.o a0 E S b7 b'):=by
 revert f
 exact HD (a1:=λn=>AX m.line (rU n).l (rU n).g.line u M=true->sB c (.Assign [.Name M m] n s) (.a r<|.o a0 E S b7 b')) P a9 h R a λ_ _ _ _ _ _ j f=>P6 j k<|RX h R f
theorem RZ(P:wm d q)(a9:xh c.sc d)(j:sX u c.rW)(a:HI q u r e l=true):sB c l (.a r e):=.dI λR=>wE (a1:=λl=>sB c l _) a λn M s a=>by
 obtain⟨S,h⟩:=rM a;have x:=rM S;have k:=BJ j (λ_=>R) x.2
 revert h
 refine su.aL (a1:=λn=>(bif vz M then q false u M e else(tI e).uK.beq 4&&(zU q u (tI e).Dm (tI e).Dn (tI e).Do (tI e).xZ (tI e).xA M&&AX (rU n).g.line (rU M).l (rU M).g.line u (rU n).h))=true->sB c (.Assign [n] M s) (.a r e)) x.1 λh=>?_;cases m:vz M with
 |true=>rw[m]at h;exact OU k (P.eN a9 j _ _ h) m
 |false=>
  rw[m]at h;have f:=rM h;exact tl.xe (a1:=λe=>sB c (.Assign [.Name _ _] M s)<|.a r e) f.1<|RY P a9 j R k (rM f.2).1 (rM f.2).2
def zl(q:tY)(u:sG)(M:ag)(e:Q):Bool:=vz M&&q false u M e
def B1(i:Nat)(n:ag)(m:ag->Bool):Bool:=(rU n).d.beq 1&&(BM i (rU n).h&&(dt i tW.length&&m (rU n).e))
theorem DI{a1:ag->Prop}(a:B1 i n m=true)(f:∀z s,i<tW.length->m z=true->a1 (.Attribute z (te i) s)):a1 n:=su.aL (rM a).1 (by
 have a:=rM (rM a).2;refine(?_:a1 (.Attribute (rU n).e (rU n).h (rU n).g));exact J (xY a.1)<|f _ _ (di (rM a.2).1) (rM a.2).2)
def HJ(q:tY)(u:sG)(b:Q)(i:Nat)(e:Q)(l:be):Bool:=wn l λn M s=>zl q u M e&&B1 i n λz=>q false u z b
theorem R0(d:th c (q false u))(a:HJ q u b i e l=true):sB c l (.g b i e):=wE (a1:=λl=>sB c l _) a λn M s a=>DI (a1:=λn=>sB c (.Assign [n] M s) _) (rM a).2 λz m f h=>PU (d _ _ (rM (rM a).1).2) (rM (rM a).1).1 (d _ _ h) f
def HK(q:tY)(u:sG)(r i:Nat)(e:Q)(l:be):Bool:=wn l λn M s=>zl q u M e&&B1 i n (zW u r)
theorem R1(d:sX u c.rW)(h:c.rW.uc=true)(j:th c (q false u))(a:HK q u r i e l=true):sB c l (.i r i e):=wE (a1:=λl=>sB c l _) a λn M s a=>DI (a1:=λn=>sB c (.Assign [n] M s) _) (rM a).2 λz m k o=>AW (a1:=λz=>sB c (.Assign [.Attribute z _ _] M s) _) d o λf m S p=>PV h S p (j _ _ (rM (rM a).1).2) (rM (rM a).1).1 k
def HL(q:tY)(u:sG)(b g e:Q)(l:be):Bool:=wn l λn M s=>zl q u M e&&((rU n).d.beq 5&&(q false u (rU n).e b&&q false u (rU n).i g))
theorem R2(d:th c (q false u))(a:HL q u b g e l=true):sB c l (.m b g e):=wE (a1:=λl=>sB c l _) a λn M s a=>su.aL (a1:=λn=>sB c (.Assign [n] M s) _) (rM (rM a).2).1 <|have f:=rM (rM (rM a).2).2;Pk (d _ _ (rM (rM a).1).2) (rM (rM a).1).1 (d _ _ f.1)<|d _ _ f.2
def HM(q:tY)(u:sG)(r:Nat)(g e:Q)(l:be):Bool:=wn l λn M s=>zl q u M e&&((rU n).d.beq 5&&(zW u r (rU n).e&&q false u (rU n).i g))
theorem R3(h:sX u c.rW)(j:c.rW.uc=true)(d:th c (q false u))(a:HM q u r g e l=true):sB c l (.v r g e):=wE (a1:=λl=>sB c l _) a λn M s a=>su.aL (a1:=λn=>sB c (.Assign [n] M s) _) (rM (rM a).2).1 <|have f:=rM (rM (rM a).2).2;AW (a1:=λz=>sB c (.Assign [.Subscript z _ _] M s) _) h f.1 λ_ _ S k=>Pj j S k (d _ _ (rM (rM a).1).2) (rM (rM a).1).1<|d _ _ f.2
def HN(q:tY)(u:sG)(a0:List Nat)(e:Q)(l:be):Bool:=wn l λn M s=>zl q u M e&&((rU n).d.beq 10&&(AT u (rU n).f a0&&DH u (rU n).f M none))
theorem R4(d:sX u c.rW)(h:th c (q false u))(a:HN q u a0 e l=true):sB c l (.p a0 e):=.dI λR=>wE (a1:=λl=>sB c l _) a λn M s a=>su.aL (a1:=λn=>sB c (.Assign [n] M s) _) (rM (rM a).2).1 <|have f:=rM (rM (rM a).2).2;Pe (DC d (λ_=>R) f.1) (h _ _ (rM (rM a).1).2) (rM (rM a).1).1<|HH d R f.2
def DJ(u:sG)(i:tE)(n:ag):Bool:=@tE.casesOn (λ_=>Bool) i ((rU n).d.beq 11&&(rU n).f.isEmpty) ((rU n).d.beq 12)<|yC u "bytearray" n List.isEmpty
theorem HO{i:tE}(a9:vt c.sc)(f:sX u c.rW)(a:DJ u i n=true):y_ c n i:=by
 cases i with
 |a=>
  refine su.aL (a1:=λn=>y_ c n .a) (rM a).1<|(?_:y_ c (.List (rU n).f _) .a);exact(List.isEmpty_iff.mp (rM a).2)▸(λy T p x=>(Bw .n (cc _) x).fI (x:=λa6 d=>sv (sC.sr a6) d) λz a6 j l t q e=>sa (ak e)<|.mk l t)
 |c=>exact su.aL (a1:=λn=>y_ c n .c) a<|λy T p x=>Gb x
 |b=>exact zh (a1:=λn=>y_ c n .b) f a9.h a λM s U b6 x h=>List.isEmpty_iff.mp h▸PI x
def HP(q:tY)(u:sG)(U:List ag)(a':List (Option tE))(W:Q):Bool:=@ee ag (λ_=>List (Option tE) ->Q->Bool) (λa' W=>a'.isEmpty&&(tI W).uK.beq 0) (λn _ a a' W=>@fn (Option tE) (λ_=>Bool) a' false λi a'=>xR n&&@eh tE (λ_=>Bool) i ((tI W).uK.beq 1&&(q false u n (tI W).xZ&&a a' (tI W).xA)) λi=>DJ u i n&&a a' W) U a' W
theorem DK(a9:vt c.sc)(d:sX u c.rW)(h:th c (q false u)):∀{U:List ag} {a':List (Option tE)} {W:Q},HP q u U a' W=true->yy c U a' W
 |[],a',W,a=>by
  exact J (List.isEmpty_iff.mp (rM a).1)<|tl.xe (rM a).2 .a
 |n::U,[],W,a=>sD a
 |n::U,none::a',W,a=>have f:=rM (rM a).2;tl.xe f.1<|.b ⟨(rM a).1,h _ _ (rM f.2).1⟩<|DK a9 d h (rM f.2).2
 |n::U,D i::a',W,a=>have f:=rM (rM a).2;.c (rM a).1 (HO a9 d f.1)<|DK a9 d h f.2
def HQ(u:sG)(a:List aj)(a0:List Nat):Bool:=@ee aj (λ_=>List Nat->Bool) (λa0=>a0.isEmpty) (λM _ d a0=>@fn Nat (λ_=>Bool) a0 false λr a0=>AN u r M&&d a0) a a0
theorem HR(f:sX u c.rW)(R:ty c.rW):∀{d:List aj} {a0:List Nat},HQ u d a0=true->sU (vc c.rW) d a0
 |[],a0,a=>J (List.isEmpty_iff.mp a) .n
 |M::d,[],a=>sD a
 |M::d,r::a0,a=>.c (BJ f (λ_=>R) (rM a).1)<|HR f R (rM a).2
def HS(a5:List ag):List aj:=a5.map λn=>(rU n).h
def HT(q:tY)(u:sG)(a0:List Nat)(a':List (Option tE))(W:Q)(l:be):Bool:=wn l λn M s=>(rU n).d.beq 10&&((rU M).d.beq 10&&(HQ u (HS (rU n).f) a0&&(HP q u (rU M).f a' W&&(fr a0.length 1000&&decide (BZ (xz u) (rU n).f (rU M).f=D (D<|HS (rU n).f))))))
theorem R5(a9:vt c.sc)(d:sX u c.rW)(h:th c (q false u))(a:HT q u a0 a' W l=true):sB c l (.k a0 a' W):=.dI λR=>wE (a1:=λl=>sB c l _) a λn M s a=>su.aL (a1:=λn=>sB c (.Assign [n] M s) _) (rM a).1 (su.aL (a1:=λM=>sB c (.Assign [_] M s) _) (rM (rM a).2).1 (by
  have f:=rM (rM (rM a).2).2;have v:=rM f.2;refine P0 (HR d R f.1) (DK a9 d h v.1) (di (rM v.2).1)<|HG R.d ?_;exact J (funext d.dT)<|av (rM v.2).2))
end
end
section
section
variable{d:Nat->Option ab} {q:tY} {u:sG} {l:be} {n:ag} {e b g h W:Q} {r i:Nat}
def HU(u:sG)(r:Nat)(M:aj)(a5:List ag)(a0:List Int):Bool:=@ee ag (λ_=>List Int->Bool) (λa0=>a0.isEmpty) (λn _ a a0=>@fn Int (λ_=>Bool) a0 false λL a0=>(rU n).d.beq 5&&(((rU (rU n).e).d.beq 0&&vi (rU (rU n).e).h M)&&(((rU (rU n).i).d.beq 9&&decide ((rU (rU n).i).j=.int L))&&a a0))) a5 a0
theorem HV:∀{a5:List ag} {a0:List Int},HU u r M a5 a0=true->wy M a5 a0
 |[],a0,a=>J (List.isEmpty_iff.mp a) .n
 |n::a5,[],a=>sD a
 |n::a5,L::a0,a=>su.aL (a1:=λn=>wy M (n::a5)<|L::a0) (rM a).1 (by
  have f:=rM (rM a).2;have v:=rM f.2;refine su.aL (a1:=λz=>wy M (.Subscript z _ _::a5)<|L::a0) (rM f.1).1<|su.aL (a1:=λz=>wy M (.Subscript (.Name _ _) z _::a5)<|L::a0) (rM v.1).1 ?_;refine(?_:wy M (.Subscript (.Name (rU (rU n).e).h _) (.Constant (rU (rU n).i).j _ _) _::a5) _);exact J (xY (rM f.1).2)<|J (av (rM v.1).2)<|.c<|HV v.2)
def HW(a5:List ag):aj:=@fn ag (λ_=>aj) a5 default λn _=>(rU (rU n).e).h
def HX(q:tY)(u:sG)(r:Nat)(a0:List Int)(e:Q)(l:be):Bool:=wn l λn M s=>zl q u M e&&((rU n).d.beq 10&&(wD u r (HW (rU n).f)&&(HU u r (HW (rU n).f) (rU n).f a0&&DH u (rU n).f M none)))
theorem R6(j:sX u c.rW)(k:c.rW.uc=true)(o:th c (q false u))(a:HX q u r a0 e l=true):sB c l (.w r a0 e):=.dI λR=>wE (a1:=λl=>sB c l _) a λn M s a=>su.aL (a1:=λn=>sB c (.Assign [n] M s) _) (rM (rM a).2).1 <|have f:=rM (rM (rM a).2).2;have v:=rM f.2;have m:=wk j f.1;Po k m.1 m.2 (HV v.1) (o _ _ (rM (rM a).1).2) (rM (rM a).1).1<|HH j R v.2
def HY(u:sG)(r:Nat)(i:tE)(l:be):Bool:=wn l λn M s=>zX u r n&&(vz M&&DJ u i M)
theorem R7{i:tE}(a9:vt c.sc)(f:sX u c.rW)(a:HY u r i l=true):sB c l (.o r i):=.dI λR=>wE (a1:=λl=>sB c l _) a λn M s a=>BY (a1:=λn=>sB c (.Assign [n] M s) _) f R (rM a).1 λ_ _ j=>C8 j ((rM (rM a).2).1) (HO a9 f (rM (rM a).2).2) λ_ _=>B
def HZ(q:tY)(u:sG)(r:Nat)(W:Q)(l:be):Bool:=wn l λn M s=>zX u r n&&AP (q false u) W M
theorem R8(j:sX u c.rW)(k:th c (q false u))(a:HZ q u r W l=true):sB c l (.F r W):=.dI λR=>wE (a1:=λl=>sB c l _) a λn M s a=>BY (a1:=λn=>sB c (.Assign [n] M s) _) j R (rM a).1 λ_ _ m=>su.aL (a1:=λM=>sB c (.Assign [.Name _ _] M s) _) (rM (rM a).2).1<|have f:=rM (rM (rM a).2).2;(C8 (i:=vN c W) m B (λy T p x=>Bw (wl k f.2) (av f.1) x) λ_ _=>B)
def H0(q:tY)(u:sG)(r:Nat)(b g:Q)(l:be):Bool:=wn l λn M s=>zX u r n&&BQ (q false u) b g M
theorem R9{a1:ag->Prop}(j:th c (q false u))(a:BQ (q false u) b g n=true)(m:∀z k o s,yV c z b->sd c k g->a1 (.BinOp (.List [z] o) .Mult k s)):a1 n:=su.aL (rM a).1 (by
 have a:=rM (rM a).2;refine(?_:a1 (.BinOp (rU n).e (rU n).q (rU n).i (rU n).g));refine J (av a.1) ?_;have a:=rM a.2;refine su.aL (a1:=λz=>a1<|.BinOp z _ _ _) (rM a.2).1<|sh ((wl j (rM a.2).2).eI) λb p f=>(?_:a1 (.BinOp (.List (rU (rU n).e).f _) _ _ _))
 exact J p<|m _ _ _ _ f<|j _ _ a.1)
theorem R'(f:sX u c.rW)(j:th c (q false u))(a:H0 q u r b g l=true):sB c l (.x r b g):=.dI λR=>wE (a1:=λl=>sB c l _) a λn M s a=>BY (a1:=λn=>sB c (.Assign [n] M s) _) f R (rM a).1 λ_ _ k=>R9 (a1:=λM=>sB c (.Assign [.Name _ _] M s) _) j (rM a).2 λ_ _ _ _ S m=>Pc k S m
def B2(l:be)(i:ag->Bool):Bool:=(sO l).d.beq 8&&i (sO l).f
theorem DL{i:ag->Bool}{a1:be->Prop}(a:B2 l i=true)(m:∀n s,i n=true->a1 (.Expr n s)):a1 l:=ti.aL (rM a).1<|m _ _ (rM a).2
def H1(q:tY)(u:sG)(e:Q)(l:be):Bool:=B2 l λn=>zl q u n e
theorem R_(f:th c (q false u))(a:H1 q u e l=true):sB c l (.e e):=DL (a1:=λl=>sB c l _) a λn s a=>OT (f _ _ (rM a).2) (rM a).1
def DM(A:aj)(q:tY)(u:sG)(r:Nat)(e:Q)(l:be):Bool:=B2 l λn=>xg A n λz U=>zW u r z&&xf (q false u) U (.c e .n)
theorem H2{a1:be->Prop}(k:sX u c.rW)(o:th c (q false u))(a:DM A q u r e l=true)(m:∀M a6 n j b6 p,c.rW.tq r=D M->ua M->uF c [n] (.c e .n) ->(j.endLine==b6.line)=true->a1 (.Expr (.Call (.Attribute (.Name M a6) A j) [n] [] b6) p)):a1 l:=DL a λn s a=>xC (a1:=λn=>a1<|.Expr n s) a λz U x b6 w a=>AW (a1:=λz=>a1<|.Expr (.Call (.Attribute z _ _) _ _ _) _) k (rM a).1 λM a6 S t=>by
  have f:=wl o (rM a).2;refine bk f.fR λb v=>?_;subst v;exact m _ _ _ _ _ _ S t f w
def DN(a:sT)(q:tY)(u:sG)(e:Q)(l:be)(i:ag->Bool):Bool:=(sO l).d.beq 2&&(decide ((sO l).p=wc a)&&(AG a&&(q false u (sO l).j e&&i (sO l).f)))
theorem H3{i:ag->Bool}{a1:be->Prop}(a:DN c q u e l i=true)(m:∀n z s,AG c=true->q false u z e=true->i n=true->a1 (.AugAssign n (wc c) z s)):a1 l:=ti.aL (rM a).1 (by
 have f:=rM (rM a).2;refine(?_:a1 (.AugAssign (sO l).f (sO l).p (sO l).j (sO l).e));exact J (av f.1)<|m _ _ _ (rM f.2).1 (rM (rM f.2).2).1 (rM (rM f.2).2).2)
def Sa(a:sT)(q:tY)(u:sG)(r:Nat)(e:Q)(l:be):Bool:=DN a q u e l<|zX u r
def H4(a:sT)(q:tY)(u:sG)(b:Q)(i:Nat)(e:Q)(l:be):Bool:=DN a q u e l λn=>B1 i n λz=>q false u z b
theorem Sb(f:th c (q false u))(a:H4 j q u b i e l=true):sB c l (.A j b i e):=H3 (a1:=λl=>sB c l _) a λn z s S o p=>DI (a1:=λn=>sB c (.AugAssign n _ _ _) _) p λk m t v=>PW (f _ _ o) (f _ _ v) S t
def H5(q:tY)(u:sG)(e:Q)(l:be):Bool:=(sO l).d.beq 0&&@eh ag (λ_=>Bool) (sO l).i ((tI e).uK.beq 5) λn=>q false u n e
theorem Sc(k:th c (q false u))(a:H5 q u e l=true):sB c l (.d e):=ti.aL (a1:=λl=>sB c l _) (rM a).1 (by
 have f:=(rM a).2;refine(?_:sB c (.Return (sO l).i (sO l).e) _);generalize (sO l).i=j at f
 cases j with
 |none=>exact tl.xe (a1:=λe=>sB c _<|.d e) f Pb
 |some n=>exact OV<|k _ _ f)
def H6(u:sG)(r:Nat)(l:be):Bool:=(sO l).d.beq 0&&(sO l).i.any (zW u r)
theorem Sd(j:sX u c.rW)(k:c.rW.uc=true)(a:H6 u r l=true):sB c l (.s r):=ti.aL (a1:=λl=>sB c l _) (rM a).1 (by
 refine sh (vk (rM a).2) λn e f=>(?_:sB c (.Return (sO l).i (sO l).e) _)
 exact J e<|AW (a1:=λn=>sB c (.Return (D n) _) _) j f λ_ _ S m=>Pa k S m)
structure zY(X:s_)(d:Nat->Option ab)(O:al):Prop where
 a:xh X d
 b:xd X O
 c:AI X O
noncomputable def DO(h:Nat):Bool:=h.beq 2||(h.beq 4||h.beq 5)
theorem H7{h:Nat}(a:DO h=true):wi h:=(Bool.or_eq_true_iff.mp a).imp da λa=>(Bool.or_eq_true_iff.mp a).imp da da
def B3(u:sG)(h:Nat)(n:ag):Bool:=(zf[h]?).any λ(l:String)=>BO u l n
theorem DP{h:Nat}{a1:ag->Prop}(a9:vt c.sc)(f:sX u c.rW)(a:B3 u h n=true)(m:∀M s,vb c M (.ref<|c.sc.sM h) ->a1 (.Name M s)):a1 n:=by
 exact sh (vk a) λl e a=>Dr f (a9.b _ _ e).a a m
def H8(u:sG)(b:uj)(n:ag):Bool:=@uj.casesOn (λ_=>Bool) b (λ_=>(rU n).d.beq 9&&(BS (rU n).j).isSome) λr _=>(rU n).d.beq 15&&@fn ag (λ_=>Bool) (rU n).f false λz w=>(rU z).d.beq 14&&(decide ((rU z).w= -1)&&((rU z).n.isNone&&(zW u r (rU z).e&&zV w λv=>(rU v).d.beq 9&&(BS (rU v).j).any λf=>fr f.length 1000)))
theorem Se{b:uj}(A:sX u c.rW)(a:H8 u b n=true):xc c n b:=by
 cases b with
 |a w=>
  obtain⟨M,e⟩:=Option.isSome_iff_exists.mp (rM a).2;refine su.aL (a1:=λn=>xc c n _) (rM a).1<|(?_:xc c (.Constant (rU n).j _ _) _);exact J (Dy e)<|λy T p x _ a2 a4 a=>jv<|a _ _
 |b r w=>
  have f:=(rM a).2;refine su.aL (a1:=λn=>xc c n _) (rM a).1<|(?_:xc c (.JoinedStr (rU n).f _) _);generalize (rU n).f=a5 at f
  cases a5 with
  |nil=>exact sD f
  |cons z a5=>
   have j:=rM<|f;have m:=rM j.2;have o:=rM m.2;have s:=rM o.2;refine sh (AV s.2) λv e t=>sh (vk (rM t).2) λM b2 E=>?_;subst e;refine su.aL (a1:=λz=>xc c (.JoinedStr [z,v] _) _) j.1<|su.aL (a1:=λv=>xc c (.JoinedStr [_,v] _) _) (rM t).1 ?_;refine(?_:xc c (.JoinedStr [.FormattedValue (rU z).e (rU z).w (rU z).n _,.Constant (rU v).j _ _] _) _);exact J (Dy b2)<|J (av m.1)<|J (Option.isNone_iff_eq_none.mp o.1)<|AW (a1:=λk=>xc c (.JoinedStr [.FormattedValue k _ _ _,_] _) _) A s.1 λ_ _ S L=>QH S L<|di E
def H9(u:sG)(h:Nat)(b:uj)(l:be):Bool:=(sO l).d.beq 6&&((sO l).n.isNone&&(DO h&&(sO l).i.any λn=>(rU n).d.beq 4&&((rU n).p.isEmpty&&(B3 u h (rU n).e&&zV (rU n).f λz=>xR z&&H8 u b z))))
theorem Sf{h:Nat}{b:uj}(a9:zY c.sc d O)(j:sX u c.rW)(a:H9 u h b l=true):sB c l (.j h b):=ti.aL (a1:=λl=>sB c l _) (rM a).1 (by
 have f:=rM (rM a).2;have v:=rM f.2;refine sh (vk v.2) λn e m=>?_;have o:=rM (rM m).2;have p:=rM o.2;refine sh (AV p.2) λz b2 s=>(?_:sB c (.Raise (sO l).i (sO l).n _) _)
 refine J e<|J (Option.isNone_iff_eq_none.mp f.1)<|su.aL (a1:=λn=>sB c (.Raise (D n) none _) _) (rM m).1<|(?_:sB c (.Raise (D<|.Call (rU n).e (rU n).f (rU n).p _) none _) _);refine J b2<|J (List.isEmpty_iff.mp o.1) ?_;have t:=H7 v.1;obtain⟨R,w⟩:=a9.b.c _ t;exact DP (a1:=λk=>sB c (.Raise (D<|.Call k _ _ _) none _) _) a9.a.a j p.1 λ_ _ x=>QI w a9.c x (Se j (rM s).2) (rM s).1 t)
def H'(l:be):Bool:=(sO l).d.beq 6&&((sO l).n.isNone&&(sO l).i.isNone)
theorem Sg(a:H' l=true):sB c l .C:=ti.aL (a1:=λl=>sB c l _) (rM a).1 (by
 have f:=rM (rM a).2;refine(?_:sB c (.Raise (sO l).i (sO l).n _) _);exact J (Option.isNone_iff_eq_none.mp f.1)<|J (Option.isNone_iff_eq_none.mp f.2)<|QJ)
end
end
section
set_option genInjectivity false
section
structure tt where
 d:Nat
 e:sp
 g:sp
 h:Nat
 i:List Nat
noncomputable def tt.aI:tt:=⟨9,.n,.n,0,[]⟩
def uD(A:sp):tt:=@sp.casesOn (λ_=>tt) A {tt.aI with d:=0} (λb g=>{tt.aI with d:=1,e:=b,g}) (λL b g=>{tt.aI with d:=4,e:=b,g,i:=L}) (λ_=>tt.aI) (λ_ _=>tt.aI) (λ_ _ _=>tt.aI) (λ_ _ _=>tt.aI) (λ_ _ _=>tt.aI) (λ_ _ _=>tt.aI) (λ_ _=>tt.aI) (λ_ _ _=>tt.aI) (λ_ _ _=>tt.aI) (λ_ _=>tt.aI) (λ_ _ _=>tt.aI) (λ_ _=>tt.aI) (λr=>{tt.aI with d:=2,h:=r}) (λ_ _=>tt.aI) (λ_ _=>tt.aI) (λ_ _ _=>tt.aI) (λ_ _ _ _=>tt.aI) (λ_ _ _=>tt.aI) (λ_ _ _=>tt.aI) (λ_ _ _ _=>tt.aI) (λ_=>tt.aI) (λ_=>tt.aI) (λ_ _=>tt.aI) tt.aI (λ_ _=>tt.aI) tt.aI {tt.aI with d:=3}
noncomputable def tt.dL(t:Nat)(k:tt):sp:=bif t.beq 0 then .n else bif t.beq 1 then .c k.e k.g else bif t.beq 2 then .t k.h else bif t.beq 3 then .f else .u k.i k.e k.g
theorem Sh(A:sp):(uD A).d≠9->tt.dL (uD A).d (uD A)=A:=by
 cases A<;>first|exactλ_=>B|exactλa=>absurd B a
theorem tt.aL{a1:sp->Prop}{A:sp}{t:Nat}(a:(uD A).d.beq t=true)(m:a1 (tt.dL t<|uD A))(b:t≠9:=by decide):a1 A:=by
 have a:=da a;subst a;rw[Sh A b]at m;exact m
abbrev ya:=List be->sp->Bool
section
variable{d:Nat->Option ab} {q:tY} {c:sL} {u:sG} {l:be} {n:ag} {e b g h W:Q} {r i:Nat} {s:ya} {O:al}
def H_(u:sG)(a5:List ag)(L:List Nat):Bool:=@ee ag (λ_=>List Nat->Bool) (λL=>L.isEmpty) (λn _ a L=>@fn Nat (λ_=>Bool) L false λh L=>B3 u h n&&a L) a5 L
theorem Ia(a9:vt c.sc)(f:sX u c.rW):∀{a5:List ag} {L:List Nat},H_ u a5 L=true->zc c a5 L
 |[],L,a=>J (List.isEmpty_iff.mp a) .n
 |n::a5,[],a=>sD a
 |n::a5,h::L,a=>DP (a1:=λn=>zc c (n::a5)<|h::L) a9 f (rM a).1 λ_ _ x=>.c x<|Ia a9 f (rM a).2
def Ib(u:sG)(n:ag)(L:List Nat):Bool:=L.all DO&&bif (rU n).d.beq 10 then H_ u (rU n).f L&&fr L.length 1000 else zV L λh=>B3 u h n
theorem Si(a9:vt c.sc)(k:sX u c.rW)(a:Ib u n L=true):AK c n L/\∀i∈L,wi i:=by
 refine⟨?_,λi o=>H7<|List.all_eq_true.mp (rM a).1 i o⟩;have f:=(rM a).2;cases m:(rU n).d.beq 10 with
 |true=>
  rw[m]at f;exact su.aL (a1:=λn=>AK c n L) m<|QV (Ia a9 k (rM f).1)<|di (rM f).2
 |false=>
  rw[m]at f;exact sh (AV f) λh e f=>J e<|DP (a1:=λn=>AK c n [h]) a9 k f λ_ _ x=>λy p a4 R j a=>toI<|x.cN R j.h.C<|a _ _ ⟨j.h.aX,j⟩ .a
def Ic(s:ya)(u:sG)(j:List it)(f:sp):Bool:=@ee it (λ_=>sp->Bool) (λf=>(uD f).d.beq 0) (λa _ k f=>(uD f).d.beq 4&&(k (uD f).g&&@ExceptHandler.casesOn (λ_=>Bool) a λn t g _=>t.isNone&&(!g.isEmpty&&(s g (uD f).e&&n.any λn=>Ib u n (uD f).i)))) j f
theorem Ie(a9:vt c.sc)(p:sX u c.rW)(w:∀h a1 A,s a1 A=true->uJ (c.vX<|D<|D h) a1 A):∀{o:List it} {j:sp},Ic s u o j=true->zd c o j
 |[],j,a=>tt.aL a .n
 |.ExceptHandler n t g b6::o,j,a=>tt.aL (rM a).1 (by
  have f:=rM (rM a).2;have v:=rM f.2;have k:=rM v.2;have z:=rM k.2;refine sh (vk z.2) λn e m=>?_;obtain rfl:=Option.isNone_iff_eq_none.mp v.1;subst e;have b0:=Si a9 p m;cases g with
  |nil=>exact sD k.1
  |cons x g=>exact .c b0.1 b0.2 (λh=>w h _ _ z.1)<|Ie a9 p w f.1)
def DQ(q:tY)(s:ya)(u:sG)(l:be)(A:sp):Bool:=@sp.casesOn (λ_=>Bool) A false (λ_ _=>false) (λ_ _ _=>false) (λe=>H1 q u e l) (λr e=>HI q u r e l) (λb i e=>HJ q u b i e l) (λr i e=>HK q u r i e l) (λb g e=>HL q u b g e l) (λr g e=>HM q u r g e l) (λa0 e=>HN q u a0 e l) (λa0 a' W=>HT q u a0 a' W l) (λr a0 e=>HX q u r a0 e l) (λr i=>HY u r i l) (λr b g=>H0 q u r b g l) (λr W=>HZ q u r W l) (λ_=>false) (λr e=>DM "append" q u r e l) (λr e=>DM "extend" q u r e l) (λa r e=>Sa a q u r e l) (λa b i e=>H4 a q u b i e l) (λe b g=>(sO l).d.beq 5&&(q true u (sO l).f e&&(s (sO l).g b&&s (sO l).h g))) (λ_ e b=>(sO l).d.beq 4&&(q true u (sO l).f e&&((sO l).h.isEmpty&&s (sO l).g b))) (λa0 E e b=>(sO l).d.beq 3&&(DD u (sO l).f a0 E&&(q false u (sO l).j e&&(DE (sO l).j&&((sO l).h.isEmpty&&s (sO l).g b))))) (λe=>H5 q u e l) (λr=>H6 u r l) (λh b=>H9 u h b l) (H' l) (λb f=>(sO l).d.beq 7&&(s (sO l).g b&&(!(sO l).l.isEmpty&&(Ic s u (sO l).l f&&((sO l).h.isEmpty&&(sO l).q.isEmpty))))) ((sO l).d.beq 10) false
def B4(d:Nat->Option ab)(O:al)(s:sG->ya):Prop:=∀u c a1 A,zY c.sc d O->sX u c.rW->c.rW.uc=true->s u a1 A=true->uJ c a1 A
theorem ty.dU(R:ty P):ty (P.vR b1):=⟨R.1,R.2,R.3,R.4,R.5,R.6,R.7,R.8⟩
theorem Sj{s:sG->ya}(P:wm d q)(b5:B4 d O s)(a9:zY c.sc d O)(j:sX u c.rW)(L:c.rW.uc=true)(A:sp):DQ q (s u) u l A=true->sB c l A:=have o:=P.eN a9.a j;have X:=P.gY a9.a j;have U:=λa1 A=>b5 u c a1 A a9 j L;@sp.casesOn (λA=>DQ q (s u) u l A=true->sB c l A) A sD (λ_ _=>sD) (λ_ _ _=>sD) (λe=>R_ o) (λr e=>RZ P a9.a j) (λb i e=>R0 o) (λr i e=>R1 j L o) (λb g e=>R2 o) (λr g e=>R3 j L o) (λa0 e=>R4 j o) (λa0 a' W=>R5 a9.a.a j o) (λr a0 e=>R6 j L o) (λr i=>R7 a9.a.a j) (λr b g=>R' j o) (λr W=>R8 j o) (λ_=>sD) (λr e a=>H2 (a1:=λl=>sB c l<|.q r e) j o a λ_ _ _ _ _ _ S M N V=>λy T p x=>Gt (o:=false) L S M N V (λ_=>B) x) (λr e a=>H2 (a1:=λl=>sB c l<|.y r e) j o a λ_ _ _ _ _ _ S M N V=>λy T p x=>Gt (o:=true) L S M N V (λ_=>B) x) (λa2 r e=>(λa=>.dI λR=>H3 (a1:=λl=>sB c l _) a λn z s S M N=>BY (a1:=λn=>sB c (.AugAssign n _ _ _) _) j R N λ_ _ a3=>Pd a3 (o _ _ M) S)) (λa2 b i e=>Sb o) (λe b g a=>ti.aL (a1:=λl=>sB c l _) (rM a).1<|have f:=rM (rM a).2;OX (X _ _ f.1) (U _ _ (rM f.2).1)<|U _ _ (rM f.2).2) (λi e b a=>ti.aL (a1:=λl=>sB c l _) (rM a).1 (by
  have f:=rM (rM a).2;refine(?_:sB c (.While (sO l).f (sO l).g (sO l).h _) _);exact J (List.isEmpty_iff.mp (rM f.2).1)<|OY (X _ _ f.1)<|U _ _ (rM f.2).2))
 (λa0 E e b a=>.dI λR=>ti.aL (a1:=λl=>sB c l _) (rM a).1 (by
  have f:=rM (rM a).2;have v:=rM f.2;have k:=rM v.2;refine(?_:sB c (.For (sO l).f (sO l).j (sO l).g (sO l).h _) _);refine J (List.isEmpty_iff.mp (rM k.2).1) ?_;have Y:∀b1,sX u<|c.rW.vR b1:=λb1=>⟨j.d,j.e,j.f,j.g⟩
  exact O9 (λb1=>HA (Y b1) (λ_=>R.dU) f.1) (o _ _ v.1) (λz=>HB k.1 _ z) λb1=>b5 u (c.xX b1) _ _ a9 (Y b1) L (rM k.2).2))
 (λe=>Sc o) (λr=>Sd j L) (λh b=>Sf a9 j) Sg
 (λb a4 a=>ti.aL (a1:=λl=>sB c l _) (rM a).1 (by
  have f:=rM (rM a).2;have v:=rM f.2;have k:=rM v.2;have b3:=Ie (c:=c.vX none) a9.a.a j (λh a1 A m=>b5 u (c.vX<|D<|D h) a1 A a9 j L m) k.1;have t:=v.1;refine(?_:sB c (.Try (sO l).g (sO l).l (sO l).h (sO l).q _) _);refine(List.isEmpty_iff.mp (rM k.2).1)▸(az<|List.isEmpty_iff.mp (rM k.2).2)▸?_;generalize (sO l).l=w at b3 t⊢
  cases w with
  |nil=>exact sD t
  |cons S a5=>exact Q2 a9.b (b5 u (c.vX none) _ _ a9 j L f.1) b3))
 (λa=>ti.aL (a1:=λl=>sB c l _) a OW) sD
def If(q:tY)(s:sG->ya)(u:sG)(a1:List be)(A:sp):Bool:=((uD A).d.beq 0&&a1.isEmpty)||((uD A).d.beq 1&&((uD (uD A).e).d.beq 3||(((uD (uD A).e).d.beq 2&&((tX u.yB (uD (uD A).e).h).isSome&&s u a1 (uD A).g))||@fn be (λ_=>Bool) a1 false λl a1=>DQ q (s u) u l (uD A).e&&s u a1 (uD A).g)))
theorem Sk{s:sG->ya}(P:wm d q)(b5:B4 d O s):B4 d O (If q s):=λu c a1 A a9 j k a=>by
 rcases Bool.or_eq_true_iff.mp a with a|a
 ·exact tt.aL (rM a).1<|List.isEmpty_iff.mp (rM a).2▸(λy T p x q e=>sa (ak e)<|toI<|kn<|.e (.aX x.k) x)
 ·refine tt.aL (rM a).1 ?_;rcases Bool.or_eq_true_iff.mp (rM a).2 with a|a
  ·exact tt.aL (a1:=λb=>uJ c a1<|.c b _) a<|λ_ _ _ _ _ a=>sq a
  ·rcases Bool.or_eq_true_iff.mp a with a|a
   ·have f:=rM (rM a).2;obtain⟨M,e⟩:=Option.isSome_iff_exists.mp f.1;exact tt.aL (a1:=λb=>uJ c a1<|.c b _) (rM a).1<|O_ k ((hl j.d _).trans e)<|b5 u c _ _ a9 j k f.2
   ·cases a1 with
    |nil=>exact sD a
    |cons l a1=>exact OS (Sj P b5 a9 j k _ (rM a).1)<|b5 u c _ _ a9 j k (rM a).2
def Ig(d:Nat->Option ab)(t:Nat):sG->ya:=@Nat.rec (λ_=>sG->ya) (λ_ _ _=>false) (λ_ s=>If (HF d 40) s) t
theorem Sl:∀t,B4 d O<|Ig d t:=@λt=>A3 (λ_ _ _ _ _ _ _ a=>sD a) (λt f=>Sk (RU 40)<|f) t
end
end
end
section
abbrev tK:=al->Option Obj
noncomputable def B5(N:Data):Option jx:=@py (λ_=>Option jx) N none (λ_=>none) (λ_ _=>none) (λ_ _=>none) (λ_ _ _=>none) (λ_ _=>none) (λ_=>none) D (λ_=>none) (λ_=>none) none
noncomputable def Ih(N:Data):Option (List ab):=@py (λ_=>Option<|List ab) N none (λ_=>none) (λw _=>D w.toList) (λ_ _=>none) (λ_ _ _=>none) (λ_ _=>none) (λ_=>none) (λ_=>none) (λ_=>none) (λ_=>none) none
noncomputable def DR(N:Data):Option ClassData:=@py (λ_=>Option ClassData) N none (λ_=>none) (λ_ _=>none) (λ_ _=>none) (λ_ _ _=>none) (λ_ _=>none) (λ_=>none) (λ_=>none) D (λ_=>none) none
theorem Sm(a:B5 N=D u):N=.func u:=by cases N<;>first|obtain rfl:=ak a;rfl|exact sq a
theorem Sn(a:DR N=D u):N=.cls u:=by cases N<;>first|obtain rfl:=ak a;rfl|exact sq a
theorem So(a:Ih N=D w):∃t,N=.seq w.toArray t:=by cases N<;>first|obtain rfl:=ak a;exact⟨_,B⟩|exact sq a
noncomputable def vG(a:tK)(b:al)(a':aj):Option ab:=match a b with
 |some j=>(match j.data with|.dict W _=>nsFind W a'|_=>none)
 |none=>none
noncomputable def Ii(a:tK)(b:al):Bool:=match a b with
 |some j=>(match j.data with|.dict W _=>W.all (λe=>match e.key with|.str _ _=>true|_=>false)|_=>false)
 |none=>false
noncomputable def Sp(a:tK)(b:ab)(m:aj):Bool:=match b with
 |.ref h=>(match a h with
  |some j=>(match j.data with
   |.fields V=>(match(V[1]?:Option ab)with|some (Value.str t _)=>t==m|_=>false)
   |_=>false)
  |none=>false)
 |_=>false
noncomputable def AY(z:ab):Option al:=@nu (λ_=>Option al) z none none none (λ_=>none) (λ_ _=>none) (λ_ _=>none) (λ_ _=>none) (λ_ _=>none) (λ_=>none) (λ_=>none) D
theorem DS(a:AY z=D b):z=.ref b:=by cases z<;>first|obtain rfl:=ak a;rfl|exact sq a
def AZ(a:tK)(k:ab):Option (List ab):=bif x_ k .none then D []else(AY k).bind λn=>(a n).bind λj=>Ih j.data
theorem Sq(e:AZ a k=D b4):(b4=[]/\k=.none)\/∃b0 b c,k=.ref b0/\a b0=D b/\b.data=.seq b4.toArray c:=by
 unfold AZ at e
 cases m:x_ k .none with
 |true=>rw[m]at e;exact .inl ⟨(ak e).symm,av m⟩
 |false=>
  rw[m]at e;exact sh (Option.bind_eq_some_iff.mp e) λn a' e=>sh (Option.bind_eq_some_iff.mp e) λj b2 e=>.inr<|(So e).elim λt f=>A6 n j t (DS a') b2 f
def Ij(V:List rN)(b3:List ab):Bool:=@ee rN (λ_=>List ab->Bool) (λb3=>b3.isEmpty) (λk _ a b3=>@fn ab (λ_=>Bool) b3 false λz b3=>BU k z&&a b3) V b3
theorem Ik:∀{V:List rN} {b3:List ab},Ij V b3=true->tn (λ_=>.b) b3 V
 |[],b3,a=>J (List.isEmpty_iff.mp a) .n
 |k::V,[],a=>sD a
 |k::V,z::b3,a=>.c (DA (rM a).1).1<|Ik (rM a).2
def B6(w:List aj):Bool:=@ee aj (λ_=>Bool) true (λc q a=>!(q.any λM=>vi c M)&&a) w
theorem Sr:∀{w:List aj},B6 w=true->w.Nodup:=@λw=>uP (@λ_=>.nil) (λc w b=>@λa=>List.nodup_cons.mpr ⟨λm=>Bool.eq_false_iff.mp ((eo _).mp (rM<|show(!(w.any λM=>vi c M)&&B6 w)=true from a).1)<|List.any_eq_true.mpr<|sn c m<|GN _,b (rM<|show(!(w.any λM=>vi c M)&&B6 w)=true from a).2⟩) w
theorem Ss(a:tX w r=D c):∃A,w[r]?=D A/\c=yz A:=by
 refine sh (Option.bind_eq_some_iff.mp a) λA e a=>⟨A,e,?_⟩
 cases m:A.isEmpty with
 |true=>rw[m]at a;exact sq a
 |false=>rw[m]at a;exact(ak a).symm
noncomputable def Su(b g:List aj):Bool:=decide<|b=g
def DT(a:tK)(N:sx)(a0:List (List Nat))(n:jx)(b4:List ab):Bool:=(Sp a n.code n.qualname&&(n.closure.isEmpty&&(n.globals.beq cb&&n.builtins.beq ff)))&& ((n.params.posonlyargs.isEmpty&&(n.params.vararg.isNone&&(n.params.kwonlyargs.isEmpty&&(n.params.kwarg.isNone&&Su (n.params.args.map (·.arg)) (wz N a0)))))&& ((decide (n.scope.kind=.function)&&(!n.scope.isCoroutine&&(!n.scope.isGenerator&&(fr N.a a0.length&&fr N.b.length N.a))))&& ((Ij N.b b4&&((b_ N.a).all λr=>(tX a0 r).isSome))&&(B6 (wz N a0)&&(DB a0&&AR (λ_ c=>vj .local (wC n.scope.names c)||vj .cell (wC n.scope.names c)) a0)))))
theorem Sv{s:Arguments}(S:s.posonlyargs.isEmpty=true)(a:s.vararg.isNone=true)(c:s.kwonlyargs.isEmpty=true)(d:s.kwarg.isNone=true):s=⟨[],s.args,none,[],s.kw_defaults,none,s.defaults⟩:=by
 cases s with
 |mk b g h N e u x=>
  obtain rfl:=List.isEmpty_iff.mp S;obtain rfl:=Option.isNone_iff_eq_none.mp a;obtain rfl:=List.isEmpty_iff.mp c;obtain rfl:=Option.isNone_iff_eq_none.mp d
  rfl
theorem Il(S:X.sN.get? b=D j)(u:B5 j.data=D n)(a7:n.body=.stmts b')(v:AZ X.sN.get? n.defaults=D b4)(m:DT X.sN.get? N a0 n b4=true):wA X b N a0 n.scope b' b4:=by
 obtain⟨i,m⟩:=rM m;obtain⟨w,m⟩:=rM m;obtain⟨x,m⟩:=rM m;obtain⟨k,l⟩:=rM m;have d:=rM (rM i).2;have o:=rM w;have p:=rM o.2;have g:=rM p.2;have q:=rM x;have s:=rM q.2;have h:=rM s.2;have a':=rM (rM l).2;refine⟨⟨j,n,S,Sm u,.of_ok (rM i).1,(zq _ _ _ (Sv o.1 p.1 g.1 (rM g.2).1)<|av (rM g.2).2),a7,List.isEmpty_iff.mp d.1,da (rM d.2).1,da (rM d.2).2,B,Sq v⟩,Ik (rM k).1,av q.1,(eo _).mp s.1,(eo _).mp h.1,di (rM h.2).1,di (rM h.2).2,λr t=>?_,Sr (rM l).1,Hx a'.1,λr c a=>?_⟩
 ·refine bk (Option.isSome_iff_exists.mp<|List.all_eq_true.mp (rM k).2 r<|List.mem_range.mpr t) λc a=>sh (Ss a) λA e y=>?_;subst y;refine sn _ a<|?_;refine ae (ew) ?_;refine ae (G _<|rm t) ?_;refine ae (G _ e) ?_
  rfl
 ·exact(Bool.or_eq_true_iff.mp<|BW a'.2 a).imp zj λf=>⟨zj f,yY<|zj f⟩
def Im(d:Nat->Option ab)(a:tK)(N:sx)(a0:List (List Nat))(b:al):Bool:=(a b).any λj=>(B5 j.data).any λn=>@rq (λ_=>Bool) n.body (λg=>(AZ a n.defaults).any λb4=>DT a N a0 n b4&&((!N.c||(tX a0 0).isSome)&&Ig d 60 ⟨n.scope.names,a0,true,bif N.c then tX a0 0 else none⟩ g N.d)) λ_=>false
theorem Sw(a9:zY X d O)(a:Im d X.sN.get? N a0 (X.vl u)=true):∃a0 a5 b' b4,wA X (X.vl u) N a0 a5 b' b4/\(N.c=true->∃c,tX a0 0=D c)/\ ∀t a8 o U c0 a7 b6,(b6=none\/N.c=true/\∃c h,tX a0 0=D c/\b6=D (c,h)) ->ty (vp o U c0 a0 a7 b6) ->o.scope=a5->uJ ⟨X,vp o U c0 a0 a7 b6,t,tZ a8⟩ b' N.d:=by
 refine sh (vk a) λj S a=>sh (vk a) λn i a=>?_;generalize a7:n.body=g at a
 cases g with
 |expr=>exact sD a
 |stmts g=>
  refine sh (vk a) λb4 k a=>?_;obtain⟨l,a⟩:=rM a;obtain⟨f,a⟩:=rM a;refine IP a0 n.scope g b4 (Il S i a7 k l) (λr=>?_)<|λt a8 o U c0 a7 b6 p R W=>Sl 60 ⟨n.scope.names,a0,true,bif N.c then tX a0 0 else none⟩ ⟨X,vp o U c0 a0 a7 b6,t,tZ a8⟩ _ _ a9 ⟨B,B,G Scope.names W,λM b m=>?_⟩ B a
  ·have f:=r▸f;exact Option.isSome_iff_exists.mp f
  ·rcases p with rfl|⟨r,c,h,e,rfl⟩
   ·exact sq m
   ·refine Ac m λa' b2=>?_;subst a';subst b2;refine(?_:(bif N.c then tX a0 0 else none)=_);exact J r e
end
section
noncomputable def Sx:List String:=["Layout.__init__ self page_bits","Layout.parts self address number","Layout.address self first second offset","Layout.down self address","Layout.up self address","Layout.pages_in self begin end","Layout.entry self physical flags","Layout.physical self entry","Segment.__init__ self address octets size flags","Segment.end self","Segment.holds self address","Segment.may self flag","Image.__init__ self entry segments","Image.segment_at self address segment","Fields.__init__ self octets","Fields.part self place count what","Fields.number self place count what value octet","Fields.half self place what","Fields.word self place what","Fields.row self place count what ","Tables.__init__ self memory layout pages","Tables.new_table self page","Tables.need_parts self address parts","Tables.walk self root address make first second offset place entry","Tables.tables_of self root found first entry","Tables.rows self root found first entry row","Tables.rows_of self table first found second entry address","Tables.free self root first table","NewImage.__init__ self space entry stack count row","Memory.__init__ self size begin","Memory.need self address count","Memory.need_aligned self address size","Memory.word self address","Memory.put_word self address value","Memory.keep self index value","Memory.put_part self address ones value shift old","Memory.load self address count found place end word turn","Memory.store self address octets place at end size value octet","Memory.zero self address count place end size","Pages.__init__ self memory begin count size fill","Pages.address_of self index","Pages.is_page self address index inside","Pages.holders self address","Pages.need_held self address","Pages.free_count self","Pages.need_free self count","Pages.filled self address octet","Pages.take self address","Pages.give self address","Space.__init__ self pages layout","Space.need_bounds self start end","Space.slot self address","Space.entry self address slot","Space.has self address","Space.rows self ","Space.add_page self address rights slot page","Space.grow self start end rights place","Space.protect self address rights slot page","Space.guard self address entry","Space.load self address octets place begin count page","Space.pieces self address count found done place many","Space.own self address slot entry page flags fresh","Space.lets self address rights entry","Space.fetch self address count found place end many page","Space.text self address most found octet","Space.free self address page flags","Pushing.__init__ self space bottom top","Pushing.push self octets place","Pushing.push_texts self texts places row place at ","Process.__init__ self place","Process.clear self","- fields","- fields","- place address file_size size align","- fields at kind place address physical file_size size flags align octets","- octets fields segments index segment image home","- entry","- flags found","- space begin end rights place","- space segment begin end","- space octets guard bottom top","- arguments argument","- path found octet","- pages layout octets arguments stack_octets image space segment bottom top stack row","- process image name old","- begin end","- script seed great cell","- box many digit mix","- value count ","- entry parts found place rest address octets size flags value","- box small first many found begin  ","- value page","- texts bottom top place found size ","- parts page bottom top found address octets size flags at old","- space address octets ","- space parts texts places page bottom top due at told address octets size flags k ","- pages layout image before is_new process due","- pages layout octets texts stack ","- box pages layout octets parts texts stack way before told due at odd held page     ","- pages layout stack page before last fits image address size octets told ","- box parts path part   ","- script box small layout page texts turn memory pages parts entry stack octets before bottom top places image   "]
def Io(i:Nat)(w:List Nat):List (List Nat):=@ee Nat (λ_=>List<|List Nat) [[]] (λc _ a=>bif c.beq i then[]::a else(c::a.headD [])::a.tail) w
def Ip(i:Nat):List (List Nat):=Io 32<|wj<|ie<|(Sx[i]?).getD ""
def Iq(i:Nat):List (List Nat):=(Ip i).tail
def yD(j:Option ab):al:=(j.bind AY).getD 0
def us(a:tK)(h:Nat):al:=yD<|vG a cb<|ie<|(zf[h]?).getD ""
def zZ(a:tK)(b:al):al:=(((a b).bind λj=>DR j.data).map λh=>h.ns).getD 0
def Sy(a:tK)(v:List (List Nat)):al:=yD<|vG a (zZ a<|yD<|vG a cb<|yz<|v.headD [])<|yz<|v.tail.headD []
def vY(a:tK)(i:Nat):al:=bif dt i 71 then Sy a<|Io 46<|(Ip i).headD []else yD<|vG a cb<|ie<|(zR[i -71]?).getD ""
noncomputable def zm(a:tK)(R:List al):dm:=R.filterMap λb=>(a b).map λj=>(b,j)
theorem B7(a:ba):∀R:List al,(zm a.get? R).In a:=@λR=>uP (λb j e=>sq e) (λg R c=>λb j e=>by
  unfold zm at e
  rw[rk]at e;cases a7:a.get? g with
  |none=>rw[a7]at e;exact c b j e
  |some d=>
   rw[a7]at e;have e:nl b (_::zm a.get? R)=D j:=e;rw[wY]at e;by_cases m:(b==g)=true
   ·rw[an m]at e;exact J (ei m)<|J a7 e
   ·rw[am m]at e;exact c b j e) R
noncomputable def xi(q k:Option (Option ab)):Bool:=decide<|q=k
theorem xD(a:xi q k=true):q=k:=av a
noncomputable def Sz(q:Option Bool):Bool:=decide<|q=D true
noncomputable def Ir(R:dm)(b:al):Bool:=decide (typeIn R (.ref b)=D (.type "function"))&&hg R (.ref b)
def B8(a:tK)(h:Nat):dm:=zm a<|us a h::zZ a (us a h)::(((Ba[h]?).getD []).map (λs=>vY a s.2)++(sK.b h).toList.map (vY a))
noncomputable def DU(b:al):Option (Option ab):=D<|D<|.ref b
noncomputable def B9(l:String):Option (Option ab):=D<|D<|.builtin l
def Is(a:tK)(R:dm)(y:al)(h:Nat)(s:Nat×Nat):Bool:=xi (dn R (.ref y)<|te s.1) (DU<|vY a s.2)&&(dt s.1 tW.length&&(!sK.a h s.1&&Ir R (vY a s.2)))
def SA(R:dm)(y:al)(h b:Nat):Bool:=!sK.a h b||xi (dn R (.ref y)<|te b) (D none)
def It(a:tK)(R:dm)(y:al)(u:Nat):Bool:=xi (dn R (.ref y) "__init__") (DU<|vY a u)&&Ir R (vY a u)
def DV(a:tK)(R:dm)(y:al)(h:Nat):Bool:=((xi (dn R (.ref y) "__getattribute__") (B9 "object.__getattribute__")&&xi (dn R (.ref y) "__getattr__") (D none))&&(xi (dn R (.ref y) "__setattr__") (B9 "object.__setattr__")&&(hasDictIn R y&&plainOver R y)))&& (((b_ tW.length).all (SA R y h)&&((Ba[h]?).getD []).all (Is a R y h))&&(makesIn R y&&(hg R (.ref y)&&(sK.b h).all (It a R y))))
theorem Iu:∀{w:List (Nat×a0)},tV i w=D k->(i,k)∈w
 |(L,z)::q,a=>by
  have a:(if i=L then D z else tV i q)=D k:=a;by_cases f:i=L
  ·rw[an f]at a;obtain rfl:=ak a;exact J f<|.head _
  ·rw[am f]at a;exact .tail _<|Iu a
abbrev wF(v:co)(g:ba)(o:de):s_:=⟨v,g,o,us g.get?,vY g.get?⟩
section
variable{g:ba} {o:de}
theorem Iv{g:Nat}(a:dt b g=true):b<g:=di a
theorem SB(m:DV g.get? (B8 g.get? h) (us g.get? h) h=true):Au (wF v g o) (B8 g.get? h) h:=by
 obtain⟨k,m⟩:=rM m;obtain⟨j,m⟩:=rM m;obtain⟨n,m⟩:=rM m;have a:=rM k;have c:=rM a.2;have d:∀A u,sK.c h A=D u->Is g.get? _ _ h (A,u)=true:=λA u e=>by
  exact sh (Option.bind_eq_some_iff.mp<|show(Ba[h]?).bind (tV A)=D u from e) λw p e=>List.all_eq_true.mp (rM j).2 (A,u)<|by exact J p<|Iu e
 have i:∀u,sK.b h=D u->It g.get? _ (us g.get? h) u=true:=λu e=>by
  have m:=(rM m).2;have m:=e▸m;exact m
 exact⟨B7 g _,xD (rM a.1).1,xD (rM a.1).2,xD c.1,(rM c.2).1,(rM c.2).2,λb l w=>xD<|(Bool.or_eq_true_iff.mp<|List.all_eq_true.mp (rM j).1 b<|List.mem_range.mpr w).resolve_left λf=>Bool.eq_false_iff.mp ((eo _).mp f) l,λA u e=>have f:=rM<|d A u e;have M:=rM f.2;(tG (xD f.1) (Iv M.1)<|(eo _).mp (rM M.2).1),n,λu e=>xD (rM<|i u e).1,(rM m).1,λA u e=>⟨av (rM<|e.elim (λe=>(rM (rM (rM<|d A u e).2).2).2) λe=>(rM<|i u e).2).1,(rM<|e.elim (λe=>(rM (rM (rM<|d A u e).2).2).2) λe=>(rM<|i u e).2).2⟩⟩
def xE(a:tK):al:=yD<|vG a (zZ a<|us a 0) "__init__"
def DW(a:tK)(h:Nat):dm:=zm a [us a h,zZ a<|us a h,us a 0,zZ a<|us a 0,xE a]
def Iw(y b5:al)(j:Obj):Bool:=(x_ j.cls (.type "type")&&(j.slots.toList.length.beq 6&&decide (j.slots.toList[4]?=D (D<|.builtin "ValueError.__new__"))))&&(DR j.data).any λh=>decide (h.mro=.ref y::vW b5)&&(h.hasDict&&!h.hasDel)
theorem z_{a0:Type}{w:List a0}(a:w.length=t+1):∃b q,w=b::q/\q.length=t:=by
 cases w with
 |nil=>cases a
 |cons b q=>exact uw b q B<|fm a
theorem SC{a0:Type}{w:List a0}{k:a0}(a:w.length=6)(e:w[4]?=D k):∃c d f i j,w=[c,d,f,i,k,j]:=by
 refine tP (z_ a) λb r a' S=>tP (z_ S) λg s b2 l=>tP (z_ l) λh t b6 m=>tP (z_ m) λN v a2 n=>tP (z_ n) λu y b8 p=>tP (z_ p) λx z Y q=>?_;rw[a',b2,b6,a2,b8,Y,List.length_eq_zero_iff.mp q]at e⊢;exact sa (ak e) ⟨b,g,h,N,x,B⟩
theorem SD{j:Obj}(S:j.cls=i)(a:j.data=N)(b:j.slots.toList=l):j=⟨i,j.dict,N,l.toArray⟩:=by
 subst S a b
 rfl
theorem SE{h:ClassData}(S:h.mro=A)(a:h.hasDict=true)(b:h.hasDel=false):h=⟨h.name,h.bases,A,h.ns,h.qualname,true,h.slotNames,h.subclasses,h.abstract,h.collection,false⟩:=by
 subst S;exact a▸(b▸B)
theorem SF(m:Iw y b5 j=true)(a:g.get? y=D j):zb g y b5:=by
 obtain⟨b,m⟩:=rM m;obtain⟨c,b⟩:=rM b;refine sh (vk m) λh e m=>?_;obtain⟨d,f,i,k,l,b8⟩:=SC (da (rM b).1)<|av (rM b).2;have a2:=rM (rM m).2;exact .mk<|a.trans<|G D<|SD (zT c) ((Sn e).trans<|G Data.cls<|SE (av (rM m).1) a2.1<|(eo _).mp a2.2) b8
def Ix(a:tK)(R:dm)(y O:al):Bool:=((a y).any (Iw y<|us a 0)&&(xi (specialIn R (.ref y) "__call__") (B9 "type.__call__")&&Sz (instIn R (.ref y)<|.type "type")))&& (xi (dn R (.ref y) "__init__") (DU O)&&(decide (typeIn R (.ref O)=D (.type "function"))&&(xi (dn R (.ref y) "__setattr__") (B9 "object.__setattr__")&&(xi (dn R (.ref y) "reason") (D none)&&hg R (.ref y)))))
theorem SG(m:Ix g.get? (DW g.get? h) (us g.get? h) (xE g.get?)=true):xw (wF v g o) (DW g.get? h) h (xE g.get?):=by
 obtain⟨a,m⟩:=rM m;have b:=rM (rM a).2;refine sh (vk (rM a).1) λj e f=>?_;have c:=rM m;have d:=rM c.2;have i:=rM d.2;have k:=rM i.2;exact⟨B7 g _,SF f e,xD b.1,(av b.2),xD c.1,av d.1,xD i.1,xD k.1,k.2⟩
def Aa(l:aj)(n:ag):Bool:=(rU n).d.beq 0&&vi (rU n).h l
theorem A0{a1:ag->Prop}(a:Aa l n=true)(m:∀s,a1<|.Name l s):a1 n:=su.aL (rM a).1 (by
 refine(?_:a1 (.Name (rU n).h _));exact J (xY (rM a).2)<|m _)
def DX{a0:Type}(w:List a0)(i:a0->a0->Bool):Bool:=@fn a0 (λ_=>Bool) w false λb q=>zV q<|i b
theorem Iy{w:List a0}{i:a0->a0->Bool}(a:DX w i=true):∃b g,w=[b,g]/\i b g=true:=by
 cases w with
 |nil=>exact sD a
 |cons b q=>exact(AV a).elim λg f=>uw b g (G _ f.1) f.2
def SH(l:be):Bool:=B2 l λn=>xg "__init__" n λz U=>Aa "ValueError" z&&DX U λM f=>Aa "self" M&&Aa "reason" f
def Iz(l:be):Bool:=wn l λn M _=>((rU n).d.beq 1&&(vi (rU n).h "reason" &&Aa "self" (rU n).e))&&Aa "reason" M
def IA(w:List be):Bool:=DX w λl n=>SH l&&Iz n
theorem SI{a1:be->Prop}(a:Iz l=true)(m:∀b d c e,a1<|.Assign [.Attribute (.Name "self" b) "reason" d] (.Name "reason" c) e):a1 l:=wE a λn M s a=>su.aL (a1:=λn=>a1<|.Assign [n] M s) (rM (rM a).1).1 (by
 have f:=rM (rM (rM a).1).2;refine(?_:a1 (.Assign [.Attribute (rU n).e (rU n).h _] M s));exact J (xY f.1)<|A0 (a1:=λz=>a1<|.Assign [.Attribute z _ _] M s) f.2 λb=>A0 (a1:=λM=>a1<|.Assign _ M s) (rM a).2 λc=>m b _ c _)
theorem SJ(a:IA w=true):xx w:=by
 refine tP (Iy a) λl n c a=>?_;subst c;refine DL (a1:=λl=>xx [l,n]) (rM a).1 λz b f=>xC (a1:=λz=>xx [.Expr z b,n]) f λk U i d w f=>tP (Iy (rM f).2) λM e c h=>?_;subst c;exact A0 (a1:=λk=>xx [.Expr (.Call (.Attribute k _ i) _ _ d) b,n]) (rM f).1 λj=>A0 (a1:=λM=>xx [.Expr (.Call _ [M,e] _ d) b,n]) (rM h).1 λm=>A0 (a1:=λe=>xx [.Expr (.Call _ [_,e] _ d) b,n]) (rM h).2 λp=>SI (a1:=λn=>xx [_,n]) (rM a).2 λ_ _ _ _=>.mk w
def IB(a:tK):Bool:=Ii a cb&&((vG a cb "ValueError").isNone&&(a<|xE a).any λj=>(B5 j.data).any λn=>@rq (λ_=>Bool) n.body (λg=>(AZ a n.defaults).any λb4=>DT a GH Di n b4&&(vj .globalImplicit (wC n.scope.names "ValueError")&&IA g)) λ_=>false)
theorem SK(m:IB g.get?=true):AI (wF v g o) (xE g.get?):=by
 obtain⟨a,m⟩:=rM m;obtain⟨b,m⟩:=rM m;refine sh (vk m) λj a' m=>sh (vk m) λn b2 m=>?_;generalize b6:n.body=l at m
 cases l with
 |expr=>exact sD m
 |stmts w=>
  refine sh (vk m) λb4 a2 m=>?_;obtain⟨c,m⟩:=rM m;exact⟨(A6 n.scope w b4 (Il a' b2 b6 a2 c) (zj (rM m).1)<|SJ (rM m).2),_,.of_isNs a,Option.isNone_iff_eq_none.mp b⟩
end
end
section
def DY(j:Option ab):Bool:=(j.bind AY).isSome
theorem IC(a:DY j=true):j=D (.ref<|yD j):=by
 refine bk (Option.isSome_iff_exists.mp a) λb e=>sh (Option.bind_eq_some_iff.mp e) λz a' b2=>?_;unfold yD;refine J e ?_;refine ae a' ?_;refine ae (G _<|DS b2) ?_
 rfl
def ID(a:tK):Bool:=(Ii a cb&&((a ff).isSome&&((a cStatics).isSome&&(a kx).isSome)))&&((vG a cb "__builtins__").bind AY).any λg=>(a g).isSome
def DZ(a:tK)(i:Nat):Option ab:=vG a cb<|te i
noncomputable def D0:List String:=["isinstance","int","bytearray","len","bytes","list","tuple","min","max","range","sum","abs","chr","divmod"]
def D1(a:tK):Bool:=(zR.all λl=>DY<|vG a cb l)&&((zf.all λl=>DY<|vG a cb l)&&D0.all λl=>(vG a cb l).isNone)
def B'(a:tK)(a':List Nat):Bool:=a'.all λi=>(uR i).all λN=>Im (DZ a) a N (Iq i)<|vY a i
def D2(a:tK):Bool:=(b_ 31).all (λi=>hg (zm a [vY a<|71+i])<|.ref<|vY a<|71+i)&&(b_ 17).all λh=>hg (zm a [us a h,zZ a<|us a h])<|.ref<|us a h
def D3(a:tK):Bool:=(b_ 17).all λh=>(sK.b h).isNone||DV a (B8 a h) (us a h) h
def IE(a:tK)(r L:Nat):Bool:=r.beq L||!(us a r).beq (us a L)
def D4(a:tK):Bool:=([2,4,5].all λh=>Ix a (DW a h) (us a h)<|xE a)&&(IB a&&[0,2,4,5].all λr=>[2,4,5].all<|IE a r)
def Ab(a:tK):Bool:=((ID a&&D1 a)&&(D2 a&&D3 a))&&(D4 a&&B' a (b_ 102))
section
variable{v:co} {g S:ba} {o:de}
theorem A1(i:g.StaysIn a)(e:(g.get? b).isSome=true)(t:a.Ns b A):g.Ns b A:=by
 obtain⟨j,c⟩:=Option.isSome_iff_exists.mp e;refine zp t λb9 W d S f=>?_;obtain rfl:=ak<|(i b j c).symm.trans S;exact zq j W d c f
theorem SL{a:al}(i:g.StaysIn S)(c:S.NoSeer)(a':(g.get? cStatics).isSome=true)(b2:(g.get? kx).isSome=true)(b6:(g.get? ff).isSome=true)(a2:g.isNs cb=true)(b8:g.nsMap cb "__builtins__"=D (.ref a))(Y:(g.get? a).isSome=true):g.NoSeer where
 statics:=c.statics.imp λ_ f=>⟨A1 i a' f.1,f.2⟩
 mods:=c.mods.imp λ_ f=>⟨A1 i b2 f.1,f.2⟩
 imp:=c.imp.imp λ_ f=>⟨A1 i b6 f.1,f.2⟩
 main:=by
  refine wq c.main λk l n b h N e=>?_;have A:=Heap.Ns.of_isNs a2;have m:=Ns.cE b<|A.keeps i;subst m;cases b8.symm.trans h;obtain⟨j,d⟩:=Option.isSome_iff_exists.mp Y;obtain rfl:=ak<|(i a j d).symm.trans N;exact xk _ a _ A b8 d e
theorem SM:EV.length=102:=by kernel_rfl
theorem SN:zR.length=31:=by kernel_rfl
theorem SO:zf.length=17:=by kernel_rfl
theorem SP:EW.length=17:=by kernel_rfl
theorem SQ(a:(sK.b h).isSome=true):h<17:=by
 exact bk (Option.isSome_iff_exists.mp a) λu e=>J SP<|(List.getElem?_eq_some_iff.mp<|Option.join_eq_some_iff.mp<|e).1
theorem D5(c:ue):c≠.d->zg c∈D0/\ky (zg c)=D (Az c)/\(zg c:aj)≠ "__name__" :=by
 cases c<;>first|exactλa=>absurd B a|exactλ_=>tG (by decide+kernel) (by kernel_rfl)<|by decide+kernel
structure IF(v:co)(g:ba)(o:de):Prop where
 a:xP (wF v g o)
 d:zY (wF v g o) (DZ g.get?) (xE g.get?)
 b:BF (wF v g o)
 c:g.Ns cb (g.nsMap cb)
theorem SR(i:g.Ns cb (g.nsMap cb))(b:D1 g.get?=true)(d:D2 g.get?=true)(a7:g.Ns ff a8)(m:∀c:aj,c≠ "__name__" ->a8 c=ky c):vt (wF v g o):=by
 have b:=rM b;have j:=rM b.2;have d:=rM d;have h:∀{l:String} {k:ab},l∈D0->ky l=D k->(l:aj)≠ "__name__" ->xB (wF v g o) l k:=λA e t=>sn _ i<|.inr ⟨Option.isNone_iff_eq_none.mp<|List.all_eq_true.mp j.2 _ A,_,a7,(m _ t).trans e⟩;refine⟨λr l e=>⟨⟨_,i,.inl ?_⟩,Bm (B7 g _)<|List.all_eq_true.mp d.1 r<|List.mem_range.mpr<|SN▸(List.getElem?_eq_some_iff.mp e).1⟩,λr l e=>⟨⟨_,i,.inl ?_⟩,Bm (B7 g _)<|List.all_eq_true.mp d.2 r<|List.mem_range.mpr<|SO▸(List.getElem?_eq_some_iff.mp e).1⟩,λc t=>h (D5 c t).1 (D5 c t).2.1 (D5 c t).2.2,h (by decide+kernel) (by kernel_rfl)<|by decide+kernel,h (by decide+kernel) (by kernel_rfl)<|by decide+kernel,h (by decide+kernel) (by kernel_rfl)<|by decide+kernel⟩
 ·have f:=IC<|List.all_eq_true.mp b.1 l<|gy e;refine(?_:vG g.get? cb l=D (.ref<|vY g.get?<|71+r));unfold vY;exact(Bool.eq_false_iff.mpr λa=>Nat.not_lt.mpr (ax 71 r)<|Iv a)▸(e_ ..)▸e▸f
 ·have f:=IC<|List.all_eq_true.mp j.1 l<|gy e;refine(?_:vG g.get? cb l=D (.ref<|us g.get? r));unfold us;exact e▸f
theorem SS(m:IE g.get? r L=true)(e:us g.get? r=us g.get? L):r=L:=(Bool.or_eq_true_iff.mp m).elim da λf=>(ey<|((eo _).mp f).symm.trans<|J e<|Nat.beq_refl _).elim
theorem SU(m:D4 g.get?=true):xd (wF v g o) (xE g.get?)/\AI (wF v g o) (xE g.get?):=by
 have a1:=rM m;have a:=rM a1.2;refine⟨⟨λh b=>⟨_,SG<|List.all_eq_true.mp a1.1 h ?_⟩,λr L c d e=>SS (List.all_eq_true.mp (List.all_eq_true.mp a.2 r ?_) L ?_) e⟩,SK a.1⟩
 ·rcases b with rfl|rfl|rfl<;>decide
 ·rcases c with rfl|rfl|rfl|rfl<;>decide
 ·rcases d with rfl|rfl|rfl<;>decide
theorem SV(m:Ab g.get?=true)(i:g.StaysIn S)(t:sH.given.tree=none)(w:S.NoLimit)(x:S.NoSeer)(y:S.Ns ff a8)(l:∀c:aj,c≠ "__name__" ->a8 c=ky c):IF v g o:=by
 obtain⟨m,n⟩:=rM m;have p:=rM (rM m).1;have q:=rM (rM m).2;have r:=rM p.1;have d:=rM r.1;have j:=rM d.2;have a:=rM j.2;refine sh (vk r.2) λA a' b2=>sh (Option.bind_eq_some_iff.mp a') λz b6 a2=>?_;have k:=Heap.Ns.of_isNs d.1;have a7:=A1 i j.1 y;have a1:=SU (v:=v) (o:=o) (rM n).1;have s:zY (wF v g o) (DZ g.get?) (xE g.get?):=⟨⟨SR k p.2 q.1 a7 l,λL z e=>sn _ k<|.inl e⟩,a1.1,a1.2⟩
 refine⟨⟨w.imp λ_ f=>⟨A1 i a.1 f.1,f.2⟩,SL i x a.1 a.2 j.1 d.1 (b6.trans<|G D<|DS a2) b2,t,Option.isSome_iff_exists.mp a.2,λh b=>⟨_,SB<|(Bool.or_eq_true_iff.mp<|List.all_eq_true.mp q.2 h<|List.mem_range.mpr<|SQ b).resolve_left λf=>?_⟩,_,a7,l⟩,s,λu N e=>Sw (a0:=Iq u) s ?_,k⟩
 ·have b:=(Option.isNone_iff_eq_none.mp f)▸b;exact tC b
 ·have f:=List.all_eq_true.mp (rM n).2 u<|List.mem_range.mpr<|J SM<|(List.getElem?_eq_some_iff.mp e).1;rw[e]at f;exact f
end
end
section
open PySem.Challenge
def D6(a:tK):Bool:=(((ID a&&D1 a)&&D2 a)&&D4 a)&&B' a ((b_ 102).take 50)
def D7(a:tK):Bool:=B' a<|(b_ 102).drop 50
theorem SW{a:tK}(b:D6 a=true)(m:D7 a=true)(h:D3 a=true):Ab a=true:=by
 have c:=rM b;have d:=rM c.1;have e:=rM d.1;have u:B' a (b_ 102)=true:=by
  rw[<-ly 50 (b_ 102)];exact List.all_append.trans<|Bool.and_eq_true_iff.mpr ⟨c.2,m⟩
 exact Bool.and_eq_true_iff.mpr ⟨Bool.and_eq_true_iff.mpr ⟨e.1,Bool.and_eq_true_iff.mpr ⟨e.2,h⟩⟩,Bool.and_eq_true_iff.mpr ⟨d.2,u⟩⟩
def D8(a:tK)(h:Nat):Bool:=(sK.b h).isNone||DV a (B8 a h) (us a h) h
def D9(a:tK):Bool:=((b_ 17).take 11).all<|D8 a
def D'(a:tK):Bool:=((b_ 17).drop 11).all<|D8 a
theorem SX{a:tK}(b:D9 a=true)(g:D' a=true):D3 a=true:=by
 refine(?_:(b_ 17).all (D8 a)=true);rw[<-ly 11 (b_ 17)];exact List.all_append.trans<|Bool.and_eq_true_iff.mpr ⟨b,g⟩
noncomputable def SY(g:List be):List be:=g.drop 105
def vu:jc:={sH with main:={sH.main with body:=SY sH.main.body}}
def yb:List aj:=sH.boundNames.filter λt=>!(t==("law" :aj))
def D_(a1:Params):BT:=.node (boot_o_0 a1) (.node (boot_o_1 a1) (.node (boot_o_3 a1) (.node (boot_o_7 a1) .nil .nil) .nil)<|.node (boot_o_5 a1) (.node (boot_o_9 a1) .nil .nil) .nil) <|.node (boot_o_2 a1) (.node (boot_o_4 a1) (.node (boot_o_8 a1) .nil .nil) .nil)<|.node (boot_o_6 a1) (.node (boot_o_10 a1) .nil .nil) .nil
theorem SZ(a1:Params):absHeap (D_ a1) 11 {}=gh a1:=by kernel_rfl
theorem IG:ko sH.main.body=[]:=by kernel_rfl
def xj(v:co)(o:de):ft:=⟨D_ v.params,11,{},#[],boot_drawn,boot_toks,o⟩
noncomputable def xF(n:BT)(t:Nat)(b:al):Option Obj:=match dt b t with
 |true=>(match n.get b with
  |some j=>alive j
  |none=>D default)
 |false=>none
theorem S0(v:co)(o:de):cx (λq:dc×ft×db×bp=>((kp [] (gh v.params) q.2.1.abs.heap&&kq sH q.2.1.abs.heap&&kr q.2.1.abs&&ks (gh v.params) q.2.1.abs.heap),Fast.tw4187177175401517315 vu yb [] (λ_=>true) true q.2.1.abs)) (lz l_ sH v 11 (D<|.ref 6) 0 12000 (xj v o)<|fs sH)=D (true,openGood vu yb):=by kernel_rfl
theorem S1(v:co)(o:de):cx (λq:dc×ft×db×bp=>D6<|xF q.2.1.tree q.2.1.n) (lz l_ sH v 11 (D<|.ref 6) 0 12000 (xj v o)<|fs sH)=D true:=by kernel_rfl
theorem S2(v:co)(o:de):cx (λq:dc×ft×db×bp=>D9<|xF q.2.1.tree q.2.1.n) (lz l_ sH v 11 (D<|.ref 6) 0 12000 (xj v o)<|fs sH)=D true:=by kernel_rfl
theorem S3(v:co)(o:de):cx (λq:dc×ft×db×bp=>D'<|xF q.2.1.tree q.2.1.n) (lz l_ sH v 11 (D<|.ref 6) 0 12000 (xj v o)<|fs sH)=D true:=by kernel_rfl
theorem S4(v:co)(o:de):cx (λq:dc×ft×db×bp=>D7<|xF q.2.1.tree q.2.1.n) (lz l_ sH v 11 (D<|.ref 6) 0 12000 (xj v o)<|fs sH)=D true:=by kernel_rfl
def Ea(l:ai):Bool:=Ab l.heap.get?
theorem S5(n:BT)(t:Nat)(c:Life):(absHeap n t c).get?=xF n t:=by
 funext b
 unfold xF;by_cases a:b<t
 ·rw[show dt b t=true by simpa[Nat.blt_eq]using a];dsimp only;cases x:n.get b with
  |some j=>rw[abs_get a x]
  |none=>
   dsimp only;unfold Heap.get?;rw[absHeap_at,an a,x]
   rfl
 ·rw[show dt b t=false from Bool.eq_false_iff.mpr λf=>a<|by simpa[Nat.blt_eq]using f,abs_get_none a]
theorem S6{a0 b1 a9:Type}{A:Option a0}{a:a0->b1}{c:a0->a9}{d:b1}{e:a9}{s m x:a0->Bool}(S:A.map (λb=>(a b,c b))=D (d,e))(f:A.map s=D true)(g:A.map m=D true)(h:∀b,s b=true->m b=true->x b=true):A.map (λb=>(a b,c b,x b))=D (d,e,true):=by
 cases A with
 |none=>cases S
 |some b=>
  simp only[Option.map_some,Option.some.injEq,on]at S f g⊢;exact⟨S.1,S.2,h b f g⟩
theorem S7(v:co)(o:de):cx (λq:dc×ft×db×bp=>((kp [] (gh v.params) q.2.1.abs.heap&&kq sH q.2.1.abs.heap&&kr q.2.1.abs&&ks (gh v.params) q.2.1.abs.heap),openSeen vu yb [] (λ_=>true) true q.2.1.abs)) (ib hf sH v 11 (D<|.ref 6) 0 12000 (xj v o)<|fs sH)=D (true,openGood vu yb):=by
 rw[ma,mb,Fast.te4187177175401517315];exact S0 v o
theorem S8(v:co)(o:de):cx (λq:dc×ft×db×bp=>D6<|xF q.2.1.tree q.2.1.n) (ib hf sH v 11 (D<|.ref 6) 0 12000 (xj v o)<|fs sH)=D true:=by
 rw[ma,mb];exact S1 v o
theorem S9(v:co)(o:de):cx (λq:dc×ft×db×bp=>D9<|xF q.2.1.tree q.2.1.n) (ib hf sH v 11 (D<|.ref 6) 0 12000 (xj v o)<|fs sH)=D true:=by
 rw[ma,mb];exact S2 v o
theorem S'(v:co)(o:de):cx (λq:dc×ft×db×bp=>D7<|xF q.2.1.tree q.2.1.n) (ib hf sH v 11 (D<|.ref 6) 0 12000 (xj v o)<|fs sH)=D true:=by
 rw[ma,mb];exact S4 v o
theorem S_(v:co)(o:de):cx (λq:dc×ft×db×bp=>D'<|xF q.2.1.tree q.2.1.n) (ib hf sH v 11 (D<|.ref 6) 0 12000 (xj v o)<|fs sH)=D true:=by
 rw[ma,mb];exact S3 v o
theorem IH{a0:Type}{A:Option a0}{s m:a0->Bool}(S:A.map s=D true)(a:A.map m=D true):A.map (λb=>s b&&m b)=D true:=by
 cases A with
 |none=>exact sq S
 |some b=>exact G D<|Bool.and_eq_true_iff.mpr ⟨ak S,ak a⟩
theorem Ta(v:co)(o:de):(ib hf sH v 11 (D<|.ref 6) 0 12000 (xj v o)<|fs sH).map (λq=>((kp [] (gh v.params) q.2.1.abs.heap&&kq sH q.2.1.abs.heap&&kr q.2.1.abs&&ks (gh v.params) q.2.1.abs.heap),openSeen vu yb [] (λ_=>true) true q.2.1.abs,Ea q.2.1.abs))=D (true,openGood vu yb,true):=S6 (S7 v o) (IH (S8 v o)<|S' v o) (IH (S9 v o)<|S_ v o) λq b g=>by
  show Ab (absHeap q.2.1.tree q.2.1.n q.2.1.life).get?=true;rw[S5];exact SW (rM b).1 (rM b).2<|SX (rM g).1 (rM g).2
theorem Tb:opening sH=plainProg sH.main.scope.names:=by kernel_rfl
theorem Tc(l:ai):fenceModules? sH l=D l:=by kernel_rfl
theorem Td(a1:Params):((gh a1).isNs cb,(gh a1).objs.size,(gh a1).nsMap cb "__annotations__")=(true,11,D<|iq 6):=by kernel_rfl
theorem Te:LeftO sH vu yb (λ_=>true) Ea (λ_=>true) 12000:=I6 (b3:=gh) (b0:=D_) (boot_open (p:=sH) (N:=12000) Tb B Tc) SZ Td IG Ta
end
section
open PySem.Challenge
noncomputable abbrev uq:OpenLaw:=rw_nu0106_01
def Eb:Look:={strict:=!(ko sH.main.body).all cThrough.contains,foot:=none,bare:=(["vars","dir","locals"]:List aj).filter<|mc sH sH.main.body}
theorem Ec(t:aj)(a:Fast.tw13343964577679436407 sH sH.main.body t=false):mc sH sH.main.body t=false:=by rw[Fast.te13343964577679436407];exact a
theorem Tf:mc sH sH.main.body "vars"=false:=Ec _<|by kernel_rfl
theorem Tg:mc sH sH.main.body "dir"=false:=Ec _<|by kernel_rfl
theorem Th:mc sH sH.main.body "locals"=false:=Ec _<|by kernel_rfl
theorem Ti:Eb={strict:=false,foot:=none,bare:=[]}:=by
 unfold Eb;rw[IG];simp only[List.filter_cons,Tf,Tg,Th,List.filter_nil]
 rfl
theorem Tj(c:Look)(b g:List be)(S:jz c b=true)(d:jz c g=true):jz c (b++g)=true:=by
 induction b with
 |nil=>exact d
 |cons l q e=>
  have a:(noRoadLS c l&&jz c q)=true:=S;exact(Bool.and_eq_true_iff.mpr (lc (Bool.and_eq_true_iff.mp a).1<|e (Bool.and_eq_true_iff.mp a).2):(noRoadLS c l&&jz c (q++g))=true)
theorem Tk:rr {strict:=false,foot:=none,bare:=[]} (sH.main.body.take 50)=true:=by kernel_rfl
theorem Tl:rr {strict:=false,foot:=none,bare:=[]} (sH.main.body.drop 50)=true:=by kernel_rfl
theorem Tm:jz Eb sH.main.body=true:=by
 rw[Ti];have a:=Tj {strict:=false,foot:=none,bare:=[]} (sH.main.body.take 50) (sH.main.body.drop 50) (by rw[pz];exact Tk)<|by rw[pz];exact Tl
 rwa [ly]at a
theorem Tn:Fast.tw8377067652309620493 sH=true:=by kernel_rfl
theorem To:rs sH sH.main.body (λ_ t=>Fast.tw17868728402115742887 t)=true:=by kernel_rfl
theorem Tp:namesMeet sH sH.main.body (λ_ t=>attrL t)=true:=by
 rw[p_,Fast.te17868728402115742887];exact To
theorem Tq:Fast.tw11788848310118352699 sH.main=true:=by kernel_rfl
theorem Tr:moduleNames sH.main.body=[]:=by kernel_rfl
theorem Ts:(sreFenced sH.main&&((moduleNames sH.main.body).isEmpty||lookedIntoSs (moduleNames sH.main.body) sH.main.body))=true:=by
 rw[Tr,Fast.te11788848310118352699,Tq];rfl
theorem Tt:sH.boundNames.all (λt=>!Fast.tw14412699480532031325.contains t)=true:=by kernel_rfl
theorem Tu:sH.boundNames.all (λt=>!worldNames.contains t)=true:=by
 rw[Fast.te14412699480532031325];exact Tt
theorem Tv:looksOpen sH=true:=by
 unfold looksOpen;exact look_both (look_both (look_both (look_both Ts<|by rw[Fast.te8377067652309620493];exact Tn) Tu) Tm) Tp
theorem B_:uq.row.toRowW.prog=sH:=by kernel_rfl
theorem Tw:rt uq.row=true:=by
 unfold rt;rw[B_,Tv];simp only[md]
 kernel_rfl
theorem II:ru uq.row=true:=by
 unfold ru;rw[Tw];simp only[md]
 kernel_rfl
theorem Tx:rs uq.prog uq.above (λ_ t=>!uq.own.contains t)=true:=by kernel_rfl
theorem Tz:namesMeet uq.prog uq.above (λ_ t=>!uq.own.contains t)=true:=by
 rw[p_];exact Tx
theorem TA:uq.wellSaid=true:=by
 unfold OpenLaw.wellSaid;rw[II,Tz];simp only[md,Bool.and_true];rw[pz,p_,Fast.te8179353310426384613,Fast.te10501279942588096481,Fast.te6984425678791042302,Fast.te16286561074155671207,Fast.te9558739934217749035,Fast.named_eq]
 kernel_rfl
theorem Ed:(defOf vu ("law" :aj)).isSome=true:=by kernel_rfl
def yc:DefRec:=((defOf vu ("law" :aj)).get Ed).1
theorem TB:((defOf vu ("law" :aj)).get Ed).2=[]:=by kernel_rfl
theorem TC:defOf vu uq.row.toRowW.name=D (yc,[]):=by
 show defOf vu ("law" :aj)=_;have a:(yc,([]:List (aj×ag)))=(defOf vu ("law" :aj)).get Ed:=by
  rw[<-TB];rfl
 rw[a,Option.some_get]
theorem TD:uq.row.toRowW.prog.theDef uq.row.toRowW.name=D (yc.params,yc.body,yc.scope):=by kernel_rfl
theorem TE:kwWritten? yc.params.kwonlyargs yc.params.kw_defaults=D []:=by kernel_rfl
theorem TF:(chainsOk vu&&opensWell uq.row.toRowW.prog&&(frees uq.row.toRowW&&uq.row.toRowW.within.isEmpty))=true:=by kernel_rfl
theorem TG:sH.tablesWhole=true:=by kernel_rfl
theorem TH:uq.row.toRowW.prog.bare:=by
 rw[B_];exact⟨by kernel_rfl,by kernel_rfl,by kernel_rfl,by kernel_rfl,by kernel_rfl,TG⟩
theorem TI:uq.row.toRowW.promised:=by
 refine⟨[.list []],?_,?_⟩<;>decide+kernel
theorem TJ(l:ai):RecFacts uq.row.toRowW.records l.heap:=by
 have e:uq.row.toRowW.records=[]:=by kernel_rfl
 rw[e];exact recFacts_of (R:=[]) (s:=l)<|by kernel_rfl
def TK(_:co)(a:ba):Prop:=Ab a.get?=true
def IJ:Prop:=Er vu yb (λ_ _=>True) TK uq.row.toRowW yc []
theorem TL(a:IJ):uq.Holds:=⟨TA,I3 (q:=uq.row) (m:=vu) (p:=yb) (n:=λ_=>true) (h:=λ_ _=>True) (i:=Ea) (s:=λ_=>true) (b7:=12000) (by rw[B_];exact Te) (λv l e=>e) (λ_ _=>trivial) (λ_ _ _ _ _=>trivial) TC TD TE (λl _=>TJ l) (by kernel_rfl) II TF TH TI a⟩
end
theorem TM:xo 20 jd:=⟨by decide+kernel,by decide+kernel⟩
section
variable{v:co} {g:ba} {o:de} {l Y:ai} {w:al} {V:List ab} {t i:Nat} {a0:List Int} {a9:rR} {P:WRecords} {s:aj->Option al} {a1:Params} {d:List jf->List jf}
theorem TN{X:s_}{a:ba}(b5:X.sN.StaysIn a):tx X (λ_=>.b) a []:=⟨λ_ e=>absurd B e,λ_ _ e=>(sY.noConfusion e),λ_ _ e=>(nomatch e),λ_ _ e=>(nomatch e),λ_ _ _ e=>(nomatch e),λ_ e=>absurd e<|mx _,b5,λ_ _ _=>B⟩
abbrev A2(w:al)(a0:List Int):sw:=sw.aU (λ_=>.b) w<|.g<|.c<|a0.map rN.i
theorem TO(b5:IF v g o)(a7:g.StaysIn l.heap)(u:g.get? w=none)(x:l.gens=#[])(h:l.os=o) (p:l.heap.get? w=D {cls:=.type "list",data:=.seq V.toArray t})(q:∀O,tn O V<|a0.map rN.i)(y:a0.length<=63)(z:td 20 false false i [.c<|a0.map rN.i] []=D (.a<|.d true,a9)): rY (sj<|wF v g o) jd (aw (.ref<|vY g.get? i) [.ref w]) (λk Y=>k=.bool true/\(∀b j,l.heap.get? b=D j->Y.heap.get? b=D j)/\Y.gens=#[]/\Y.os=l.os) (λ_ _=>False) l:=by
 have b1:V.length<=2000000:=J ((q λ_=>.b).aY.trans<|a_ ..)<|aa y<|af ..;have c:A2 w a0 w=.g (.c<|a0.map .i):=sw.cC ..;have r:∀{b},b≠w->A2 w a0 b=.b:=λf=>sw.bR _ _ f;refine rY.tr (Qt b5.a b5.b 20 false false i [.c<|a0.map .i] jd [] ⟨A2 w a0,l,[]⟩ [.ref w] 0 ⟨TM,B,.inl B,⟨((TN a7).cS B p u<|tv V ⟨t,p⟩ (q _) b1),x,h⟩,λ_ a=>nomatch a⟩ (.c (sn w B c) .n) _ z) (λk Y f=>?_) λ_ _ f=>nomatch f
 cases f with
 |mk b a=>
  refine vS a (λM j e=>b.r.fN e (λn=>?_) λm=>?_) b.n.m<|b.n.o.trans h.symm
  ·by_cases f:M=w
   ·exact E6 ((G (A2 w a0) f).trans c) n
   ·exact Cv (r f) id n
  ·by_cases f:M=w
   ·exact sY.noConfusion<|((G (A2 w a0) f).trans c).symm.trans m
   ·exact sY.noConfusion<|(r f).symm.trans m
theorem TP{c:WData}(a:qa P c .int=true):∃r,c=.int r:=by
 cases c<;>first|exact⟨_,B⟩|exact sD a
theorem TQ:∀{U:List WData},WShape.hasItems P U .int=true->∃a0:List Int,U=a0.map gi:=@λU=>uP (@λ_=>⟨[],B⟩) (λc U b=>@λa=>by
  have a:=rM<|a;obtain⟨r,rfl⟩:=TP a.1;obtain⟨a0,rfl⟩:=b a.2;exact⟨r::a0,B⟩) U
theorem TR{c:WData}(a:qa P c (.list .int)=true):∃a0:List Int,c=.list (a0.map gi):=by
 cases c with
 |list U=>exact(TQ<|((ng _).symm.trans (a):WShape.hasItems P U .int=true)).imp λa0 e=>G WData.list e
 |_=>exact sD a
theorem TS{b:List WData}(a:WShape.hasAll P b [.list .int]=true):∃a0:List Int,b=[.list<|a0.map gi]:=by
 rcases b with _|⟨c,_|⟨M,q⟩⟩
 ·exact sD a
 ·exact(TR (rM<|a).1).imp λa0 e=>G (λc=>[c]) e
 ·exact sD (rM<|a).2
theorem TT:∀{a0:List Int} {l:ai} {V:List ab} {Y:ai},j_ P s a1 d (a0.map gi) l=D (V,Y) ->Y.heap=l.heap/\∀O,tn O V<|a0.map rN.i:=by
 intro a0;induction a0 with
 |nil=>
  exact @λl V Y a=>by refine Ac a λa' b2=>?_;subst a';subst b2;exact⟨B,λ_=>.n⟩
 |cons r a0 b=>
  exact @λl V Y a=>by
   have a:(match j_ P s a1 d (a0.map gi) {l with toks:=l.toks+1}with
    |some q=>D (.int r l.toks::q.1,q.2)
    |.none=>.none)=D (V,Y):=a
   cases e:j_ P s a1 d (a0.map gi) {l with toks:=l.toks+1}with
   |none=>have a:=e▸a;exact sq a
   |some q=>
    replace a:=e▸a;refine Ac a λa' b2=>?_;subst a';subst b2;have f:=b e;exact⟨f.1,λO=>.c ⟨_,B⟩<|f.2 O⟩
theorem TU(a:j_ P s a1 d [.list<|a0.map gi] l=D (V,Y)): ∃b3,V=[.ref l.heap.objs.size]/\Y.heap.get? l.heap.objs.size=D {cls:=.type "list",data:=.seq b3.toArray}/\∀O,tn O b3<|a0.map rN.i:=by
 have a:(match(match j_ P s a1 d (a0.map gi) l with
   |some q=>D (iq q.2.heap.objs.size,{q.2 with heap:=q.2.heap.push {cls:=.type "list",data:=.seq q.1.toArray}})
   |.none=>.none)with
  |some b=>D ([b.1],b.2)
  |.none=>.none)=D (V,Y):=a
 cases e:j_ P s a1 d (a0.map gi) l with
 |none=>have a:=e▸a;exact sq a
 |some q=>
  replace a:=e▸a;refine Ac a λa' b2=>?_;subst a';subst b2;have f:=TT e;refine tv q.1 (G (λa:ba=>[iq a.objs.size]) f.1) (?_) f.2;rw[<-f.1];exact cl _ B
theorem TV(a:WTm.holds P (.and (.not<|.lt (.lit<|.int 63)<|.len<|.arg 0)<|.lit<|.bool true) {args:=[.list<|a0.map gi]}=true):a0.length<=63:=by
 refine g_ λf=>tC<|(holdsW_of_value<|w_and_false<|(w_not<|w_lt w_lit<|w_len_list<|w_arg B).trans<|G (λg=>D<|WData.bool !g)<|bd<|?_).symm.trans a;refine a_ (f:=gi)▸?_;exact Int.ofNat_lt.mpr f
end
def Ee:Prop:=∀a0:List Int,a0.length<=63->∃a9,td 20 false false 101 [.c<|a0.map rN.i] []=D (.a<|.d true,a9)
theorem TW:sH.given.tree=none:=by kernel_rfl
theorem TX:importsNone vu=true:=by kernel_rfl
theorem TY:yc.name="law" :=by kernel_rfl
theorem TZ(b N:List WData):uq.row.claim.post b (.bool true) N=true:=by
 show(qa [] (.bool true) .bool&&WTm.holds [] (.eq .res<|.lit<|.bool true) {args:=b,res:=D<|.bool true,after:=N})=true
 kernel_rfl
theorem T0{g:ba}{b:al}(m:Ab g.get?=true)(a:vG g.get? cb "law"=D (.ref b)):b=vY g.get? 101:=by
 show b=yD (vG g.get? cb "law");rw[a]
 rfl
theorem T1(m:Ee):IJ:=by
 intro v t n u a8 b' M b j w y z A E L N O P h S g R c U;rw[B_];have c:=rM<|c;obtain⟨a0,rfl⟩:=TS c.1;have l:=TV c.2;obtain⟨d,_,p⟩:=U.laid;refine tp (TU p) λb3 e q r=>?_;subst e;obtain⟨a9,s⟩:=m a0 l;have b5:=SV (v:=v) (o:=n.os) M U.keeps TW b'.T.nolimit (b'.T.seer TX) b'.T.b b'.T.builtins;rw[TY,(Ns.cE b'.T.g<|b5.c.keeps U.keeps)]at h;obtain rfl:=T0 M h;refine rY.tr (TO b5 U.keeps (uW _) U.gens B q r l s) (λk Y f=>?_) λ_ _ f=>f.elim;refine Cc f λe i x o=>?_;subst e;exact⟨.inl ⟨_,.bool true,[],B,λ_=>B,.bool true,TZ _ _,λ_=>⟨.nil,λ_ a=>nomatch a⟩⟩,.of_keep i,o,.of_eq x⟩
theorem T2(a:Ee):uq.Holds:=TL<|T1 a
end
set_option maxRecDepth 10000
set_option genInjectivity false
namespace C
noncomputable def rS(k:rN)(d:rR):rQ rN:=D (.a k,d)
noncomputable def uf(V:List rN)(d:rR):rQ (List rN):=D (.a V,d)
noncomputable def tf(h:Nat)(d:rR):rQ rN:=D (.b h,d)
noncomputable def ss(o:sg)(d:rR):rV:=D (.sS,o,d)
noncomputable def vt(k:rN)(o:sg)(d:rR):rV:=D (.wM k,o,d)
noncomputable def uI(h:Nat)(o:sg)(d:rR):rV:=D (.uu h,o,d)
def rU(t:Nat)(g:Bool)(e:Q)(o:sg)(d:rR):rQ rN:=tj (td t g) g e o d
def uc(t:Nat)(g:Bool)(e:Q)(o:sg)(d:rR):rQ (List rN):=wL (td t g) g e o d
def rY(t:Nat)(a:tu)(a1:sp)(o:sg)(d:rR):rV:=vV (td t) a a1 o d
def rW(t:Nat)(g:Bool)(u:Nat)(V:List rN)(d:rR):rQ rN:=td t g false u V d
def vb(t:Nat)(g:Bool)(u:Nat)(V:List rN)(d:rR):rQ rN:=td t g true u V d
section
variable{A:Nat} {b:sp} {d:rR} {k:rN} {m:rQ rN}
theorem sO(f:rU t a.isSome e o d=rS k a9)(i:rY t a a1 (o.set c<|.rL k) a9=q):rY t a (.c (.a c e) a1) o d=q:=by
 refine(?_:rV.aF (rV.aN (rU t a.isSome e o d) o _) _=q);exact J f i
theorem AD(f:rU t a.isSome e o d=tf h a9):rY t a (.c (.a c e) a1) o d=uI h o a9:=by
 refine(?_:rV.aF (rV.aN (rU t a.isSome e o d) o _) _=_);refine J f ?_;rfl
theorem tt(c:rU t a.isSome e o d=rS k a9)(i:rY t a a1 o a9=q):rY t a (.c (.e e) a1) o d=q:=by
 refine(?_:rV.aF (rV.aN (rU t a.isSome e o d) o _) _=q);exact J c i
theorem zy(c:rU t a.isSome e o d=tf h a9):rY t a (.c (.e e) a1) o d=uI h o a9:=by
 refine(?_:rV.aF (rV.aN (rU t a.isSome e o d) o _) _=_);refine J c ?_;rfl
theorem uJ(c:rU t a.isSome e o d=rS k a9):rY t a (.c (.d e) a1) o d=vt k o a9:=by
 refine(?_:rV.aF (rV.aN (rU t a.isSome e o d) o _) _=_);refine J c ?_;rfl
theorem Hc(g:rU t a.isSome e o d=rS k a9)(h:rU t a.isSome j o a9=rS v c)(l:rU t a.isSome r o c=rS z f)(n:wO f v z k=D p)(i:rY t a a1 o p=q):rY t a (.c (.m j r e) a1) o d=q:=by
 show rV.aF (rV.aN (rU t a.isSome e o d) o λk d=>rV.aN (rU t a.isSome j o d) o λv d=>rV.aN (rU t a.isSome r o d) o λr d=>rV.bU (wO d v r k) o) _=q;refine g▸((?_:rV.aF (rV.aN (rU t a.isSome j o a9) o λv d=>rV.aN (rU t a.isSome r o d) o λr d=>rV.bU (wO d v r k) o) _=q));refine h▸((?_:rV.aF (rV.aN (rU t a.isSome r o c) o λr d=>rV.bU (wO d v r k) o) _=q));refine J l<|(?_:rV.aF (rV.bU (wO f v z k) o) _=q);exact J n i
theorem zz(c:rU t a.isSome n o d=rS (.d M) a9):rY t a (.c (.b n b a5) a1) o d=rV.aF (rY t a (bif M then b else a5) o a9) (rY t a a1):=by
 refine(?_:rV.aF (rV.aN (rU t a.isSome n o d) o _) _=_);refine c▸?_;cases M<;>rfl
theorem vW(c:rU t a.isSome n o d=rS (.d M) a9)(e:rY t a (bif M then b else a5) o a9=ss a3 f)(i:rY t a a1 a3 f=q):rY t a (.c (.b n b a5) a1) o d=q:=(zz c).trans<|(G (rV.aF ·<|rY t a a1) e).trans i
theorem tK(c:rU t a.isSome n o d=rS (.d false) a9)(i:rY t a a1 o a9=q):rY t a (.c (.b n b .n) a1) o d=q:=(zz c).trans i
theorem AE(c:rU t a.isSome n o d=rS (.d M) a9)(e:rY t a (bif M then b else a5) o a9=vt k a3 f):rY t a (.c (.b n b a5) a1) o d=vt k a3 f:=(zz c).trans<|G (rV.aF ·<|rY t a a1) e
theorem yF(c:rU t a.isSome n o d=rS (.d M) a9)(e:rY t a (bif M then b else a5) o a9=uI h a3 f):rY t a (.c (.b n b a5) a1) o d=uI h a3 f:=(zz c).trans<|G (rV.aF ·<|rY t a a1) e
def zA(d:rR)(k:rN)(A:Nat):Option Nat:=(xJ d k).bind λm=>sK.c m.1 A
theorem sN(a:rU t g j o d=rS k a9)(c:zA a9 k A=D u)(e:uc t g W o a9=uf V f)(h:rW t g u (k::V) f=m):rU t g (.f A j W) o d=m:=by
 show rQ.aC (rU t g j o d) (λk d=>(zA d k A).bind λu=>rQ.aC (uc t g W o d) λV d=>rW t g u (k::V) d)=m;refine J a<|(?_:((zA a9 k A).bind λu=>rQ.aC (uc t g W o a9) λV d=>rW t g u (k::V) d)=m);exact c▸(J e h)
theorem vh(a:uc t g W o d=uf V a9)(c:rW t g u V a9=m):rU t g (.i u W) o d=m:=by
 refine(?_:rQ.aC (uc t g W o d) (λV d=>rW t g u V d)=m);exact J a c
theorem yJ(a:uc t g W o d=uf V a9)(c:vb t g u V a9=m):rU t g (.t u W) o d=m:=by
 refine(?_:rQ.aC (uc t g W o d) (λV d=>vb t g u V d)=m);exact J a c
theorem rZ(a:rU t g e o d=rS k a9)(c:uc t g W o a9=uf V f):uc t g (.c e W) o d=uf (k::V) f:=by
 show rQ.aC (rU t g e o d) (λk d=>rQ.aC (uc t g W o d) λV d=>sv (k::V) d)=_;refine J a<|(?_:rQ.aC (uc t g W o a9) (λV d=>sv (k::V) d)=_);refine J c ?_;rfl
theorem wS(c:rU t g e o d=rS k a9)(f:yk a a9 k=true)(h:wJ a k a9=m):rU t g (.r a e) o d=m:=by
 show rQ.aC (rU t g e o d) (λk d=>si (yk a d k)<|wJ a k d)=m;refine J c<|(?_:si (yk a a9 k) (wJ a k a9)=m);exact J f h
theorem wj(c:rU t g e o d=rS k a9)(f:yK a a9 k=true)(h:rU t g c0 o a9=rS v i)(j:wK a k v i=m):rU t g (.u a e c0) o d=m:=by
 show rQ.aC (rU t g e o d) (λk d=>si (yK a d k)<|rQ.aC (rU t g c0 o d) λv d=>wK a k v d)=m;refine J c<|(?_:si (yK a a9 k) (rQ.aC (rU t g c0 o a9) λv d=>wK a k v d)=m);exact f▸(h▸j)
theorem zB(a8:uR u=D N)(a:N.c=false)(c:uA N V=D o):rW (t+1) g u V d=(rY t (tZ g) N.d o d).bQ:=by
 show(uR u).bind (λN=>si (!N.c)<|(uA N V).bind λo=>(rY t (tZ g) N.d o d).bQ)=_;refine J a8<|(?_:si (!N.c) ((uA N V).bind λo=>(rY t (tZ g) N.d o d).bQ)=_);refine J a<|J c ?_;rfl
theorem t_(a8:uR u=D N)(a:N.c=false)(c:uA N V=D o)(e:rY t (tZ g) N.d o d=vt k a3 a9):rW (t+1) g u V d=rS k a9:=(zB a8 a c).trans<|G rV.bQ e
theorem vi(a8:uR u=D N)(a:N.c=false)(c:uA N V=D o)(e:rY t (tZ g) N.d o d=ss a3 a9):rW (t+1) g u V d=rS .e a9:=(zB a8 a c).trans<|G rV.bQ e
theorem vN(a8:uR u=D N)(a:N.c=false)(c:uA N V=D o)(e:rY t (tZ g) N.d o d=uI h a3 a9):rW (t+1) g u V d=tf h a9:=(zB a8 a c).trans<|G rV.bQ e
theorem sY:rY t a .n o d=ss o d:=B
end
section
variable{g:Nat}
theorem AF{b:Nat}(a:b<18446744073709551616):uX (b:Int)=true:=bd a
theorem vX(a:r=L):D (rN.i r)=D (rN.i L):=G (λr=>D<|rN.i r) a
theorem tS(a:g<=b):tJ .d (H b) (H g)=D (H<|b -g):=vX (me a).symm
theorem tF(a:(dt b 18446744073709551616||Nat.blt g 18446744073709551616)=true):tJ .b (H b) (H g)=D (H<|b*g):=by
 show(si (uX b||uX g)<|D<|(b:Int)*g).map rN.i=_;rcases Bool.or_eq_true_iff.mp a with a|a
 ·refine J (AF<|di a) ?_;rfl
 ·refine J (AF<|di a) ?_;rw[iu];rfl
theorem zC(a:0<g):(!decide ((g:Int)=0))=true:=by refine ae (G _<|cd<|λf=>c_ a<|fv f) ?_;rfl
theorem wT(a:0<g):tJ .h (H b) (H g)=D (H<|b/g):=by
 refine(?_:(si (!decide ((g:Int)=0))<|D<|(b:Int).fdiv g).map rN.i=_);exact J (zC a)<|vX (qb b g).symm
theorem vO(a:0<g):tJ .f (H b) (H g)=D (H<|b %g):=by
 refine(?_:(si (!decide ((g:Int)=0))<|D<|(b:Int).fmod g).map rN.i=_);exact J (zC a)<|vX (Int.ofNat_fmod b g).symm
theorem BH:tJ .g (H b) (H g)=D (H<|b/2^g):=by
 refine(?_:(si (decide<|0<=g)<|D<|(b:Int).fdiv<|2^(g:Int).toNat).map rN.i=_);exact J (bd<|dx g)<|J ((qc 2 g).symm)<|vX (qb b _).symm
theorem yN(a:g<=1000)(c:b<18446744073709551616):tJ .i (H b) (H g)=D (H<|b*2^g):=by
 refine(?_:(si (decide (0<=g)&&(decide ((g:Int)<=1000)&&uX b))<|D<|(b:Int)*2^(g:Int).toNat).map rN.i=_);refine(bd<|dx g)▸(az<|bd<|Int.ofNat_le.mpr a)▸(az<|AF c)▸((qc 2 g).symm)▸?_;rfl
theorem yP(a:g<=1000)(c:b<18446744073709551616):tJ .j (H b) (H g)=D (H<|b^g):=by
 refine(?_:(si (decide (0<=g)&&(decide ((g:Int)<=1000)&&uX b))<|D<|(b:Int)^(g:Int).toNat).map rN.i=_);refine J (bd<|dx g)<|J (bd<|Int.ofNat_le.mpr a)<|J (AF c) ?_;exact vX (qc b g).symm
theorem zD:tm d .c (H b) (H g)=D (decide<|b=g):=G D<|decide_eq_decide.mpr qd
theorem wF:tm d .a (H b) (H g)=D (!decide (b=g)):=G (λg=>D<|!g)<|decide_eq_decide.mpr qd
theorem yQ:tm d .b (H b) (H g)=D (decide<|b<g):=G D<|decide_eq_decide.mpr Int.ofNat_lt
theorem D5:tm d .e (H b) (H g)=D (decide<|b<=g):=G D<|decide_eq_decide.mpr Int.ofNat_le
theorem vu(a:b=g):tm d .c (H b) (H g)=D true:=zD.trans<|G D<|bd a
theorem wk(a:b≠g):tm d .c (H b) (H g)=D false:=zD.trans<|G D<|cd a
theorem BI(a:b≠g):tm d .a (H b) (H g)=D true:=wF.trans<|G (λg=>D<|!g)<|cd a
theorem wU(a:b=g):tm d .a (H b) (H g)=D false:=wF.trans<|G (λg=>D<|!g)<|bd a
theorem vv(a:b<g):tm d .b (H b) (H g)=D true:=yQ.trans<|G D<|bd a
theorem uK(a:g<=b):tm d .b (H b) (H g)=D false:=yQ.trans<|G D<|cd<|Nat.not_lt.mpr a
theorem wV(a:g<b):tm d .d (H b) (H g)=D true:=vv (d:=d) a
theorem vj(a:b<=g):tm d .d (H b) (H g)=D false:=uK (d:=d) a
theorem zE(a:b<=g):tm d .e (H b) (H g)=D true:=D5.trans<|G D<|bd a
theorem Hd(a:g<b):tm d .e (H b) (H g)=D false:=D5.trans<|G D<|cd<|Nat.not_le.mpr a
end
section
variable{t:Nat} {g:Bool} {e:Q} {o:sg} {d:rR}
theorem sb(b:rU t g e o d=rS k a9)(c:rU t g c0 o a9=rS v a)(f:tJ h k v=D z):rU t g (.aB h e c0) o d=rS z a:=wj b B c<|G (se · a) f
theorem sD(b:rU t g e o d=rS k a9)(c:rU t g c0 o a9=rS v a)(f:tm a h k v=D M):rU t g (.aG h e c0) o d=rS (.d M) a:=wj b B c<|G (λj=>se (.map rN.d j) a) f
def vY(t:Nat)(g h:Bool)(e:Q)(o:sg)(d:rR):rQ rN:=yM (td t g) g h e o d
theorem vk(a:vY t g h W o d=m):rU t g (.v h W) o d=m:=a
theorem vP(a:rU t g e o d=rS (.d<|!h) a9)(i:vY t g h (.c c0 W) o a9=m):vY t g h (.c e<|.c c0 W) o d=m:=by
 refine(?_:rQ.aC (rU t g e o d) (λk d=>(sP k).bind λM=>bif M==h then sv k d else vY t g h (.c c0 W) o d)=m);refine a▸?_;cases h<;>exact i
theorem zF(a:rU t g e o d=rS (.d h) a9):vY t g h (.c e<|.c c0 W) o d=rS (.d h) a9:=by
 refine(?_:rQ.aC (rU t g e o d) (λk d=>(sP k).bind λM=>bif M==h then sv k d else vY t g h (.c c0 W) o d)=_);refine(az a)▸?_;cases h<;>rfl
theorem wl(a:rU t g e o d=m):vY t g h (.c e .n) o d=m:=a
theorem xF(a:rU t g e o d=rS k a9)(b:sP k=D M):rU t g (.bA e) o d=rS (.d !M) a9:=wS a B<|G (λj=>se (.map (λg=>rN.d !g) j) a9) b
theorem vc(a:i<=1000000):tQ i=true:=bd a
theorem xG(c:rU t g e o d=rS k a9)(f:yL a a9 k=true)(h:rU t g c0 o a9=rS v b)(i:rU t g b6 o b=rS n j)(l:wt a k v n j=m):rU t g (.A a e c0 b6) o d=m:=by
 show rQ.aC (rU t g e o d) (λk d=>si (yL a d k)<|rQ.aC (rU t g c0 o d) λv d=>rQ.aC (rU t g b6 o d) λz d=>wt a k v z d)=m;refine J c<|(?_:si (yL a a9 k) (rQ.aC (rU t g c0 o a9) λv d=>rQ.aC (rU t g b6 o d) λz d=>wt a k v z d)=m);refine f▸(h▸((?_:rQ.aC (rU t g b6 o b) (λz d=>wt a k v z d)=m)));exact J i l
end
structure uB(a t:Nat):Prop where
 i:2^t.log2=t
 e:4*t=a
 j:8<=t
 d:t<=16
def AG(a t:Nat):rN:=.s 6 [(56,H<|t.log2+2),(57,H t.log2),(58,H a),(59,H t),(60,H<|a*t),(6,H<|a*t*t)]
inductive sU(i:Nat):List Int->Prop
 |mk {x l h:Nat}:l<2147483648->h<=i->sU i [(x:Int),(l:Int),(h:Int)]
noncomputable def sM(g:List Int)(q:rR):rR:=.sr (g.map .i)::q
def He:sp:=(r_.c (sp.a 4<|Q.aD (Q.a 3) 58)<|r_.c (sp.o 5 tE.a)<|r_.c (sp.h [6] false (Q.k ue.c<|rX.c (Q.aP (Q.m<|rX.c (Q.d<|H 1)<|rX.c (Q.d<|H 0)<|rX.c (Q.d<|H 2)<|rX.c (Q.d<|H 3)<|rX.c (Q.d<|H 4)<|rX.c (Q.d<|H 5)<|rX.c (Q.d<|H 1)<|rX.c (Q.d<|H 2) rX.n)<|Q.i 87<|rX.c (Q.a 1)<|rX.c (Q.s (Q.a 2) (Q.d<|H 2)<|Q.d<|H 8) rX.n) rX.n) zv)<|r_.c (sp.t 5)<|r_.c (sp.a 7<|Q.t 12<|rX.c (Q.aB sT.b (Q.d<|H 64)<|Q.a 4) rX.n)<|r_.c (sp.a 8<|Q.t 13<|rX.c (Q.a 7)<|rX.c (Q.a 4)<|rX.c (Q.d<|H 63)<|rX.c (Q.a 4)<|rX.c (Q.d<|rN.d false) rX.n)<|r_.c (sp.a 9<|Q.i 90<|rX.c (Q.a 1)<|rX.c (Q.a 2) rX.n)<|r_.c (sp.a 10<|Q.aB sT.a (Q.aP (Q.aP (Q.a 9)<|Q.d<|H 0)<|Q.d<|H 0)<|Q.aB sT.b (Q.d<|H 4)<|Q.i 87<|rX.c (Q.a 1)<|rX.c (Q.k ue.h<|rX.c (Q.d<|H 1)<|rX.c (Q.aB sT.h (Q.aP (Q.aP (Q.a 9)<|Q.d<|H 0)<|Q.d<|H 2)<|Q.d<|H 4) rX.n) rX.n)<|r_.c (sp.a 11<|Q.aB sT.a (Q.d<|H 32)<|Q.s (Q.a 2) (Q.d<|H 0)<|Q.i 87<|rX.c (Q.a 1)<|rX.c (Q.d<|H 80) rX.n)<|r_.c (sp.k [12,13] [none,none]<|rX.c (Q.i 89<|rX.c (Q.a 10)<|rX.c (Q.a 9) rX.n)<|rX.c (Q.f 11 (Q.a 8) rX.n) rX.n)<|r_.c (sp.a 14<|Q.aB sT.a (Q.i 91<|rX.c (Q.aB sT.a (Q.aP (Q.aP (Q.a 9)<|Q.bW<|Q.d<|H 1)<|Q.d<|H 0)<|Q.aP (Q.aP (Q.a 9)<|Q.bW<|Q.d<|H 1)<|Q.d<|H 2)<|rX.c (Q.a 4) rX.n)<|Q.a 4)<|r_.c (sp.a 15<|Q.i 91<|rX.c (Q.aB sT.a (Q.a 14)<|Q.a 11)<|rX.c (Q.a 4) rX.n)<|r_.c (sp.a 16<|Q.i 92<|rX.c (Q.a 5)<|rX.c (Q.a 14)<|rX.c (Q.a 15) rX.n)<|r_.c (sp.b (Q.aG tM.f (Q.a 16)<|Q.d rN.e) (r_.c (sp.b (Q.bL<|rX.c (Q.aG tM.a (Q.i 97<|rX.c (Q.a 8)<|rX.c (Q.a 3)<|rX.c (Q.a 12)<|rX.c (Q.a 5)<|rX.c (Q.a 11) rX.n)<|Q.d<|rN.f [114,111,111,109])<|rX.c (Q.aG tM.a (Q.f 11 (Q.a 8) rX.n)<|Q.a 13) rX.n) (r_.c sp.f r_.n) r_.n) r_.n)<|r_.c (sp.a 17<|Q.i 83<|rX.c (Q.a 8)<|rX.c (Q.a 3)<|rX.c (Q.k ue.b<|rX.c (Q.a 12) rX.n)<|rX.c (Q.o [20] false [] (Q.a 5)<|Q.k ue.b<|rX.c (Q.a 20) rX.n)<|rX.c (Q.a 11) rX.n)<|r_.c (sp.b (Q.aG tM.a (Q.m<|rX.c (Q.aD (Q.a 17) 7)<|rX.c (Q.aD (Q.a 17) 75)<|rX.c (Q.aD (Q.a 17) 43)<|rX.c (Q.aD (Q.a 17) 74) rX.n)<|Q.m<|rX.c (Q.a 10)<|rX.c (Q.k ue.a<|rX.c (Q.a 5) rX.n)<|rX.c (Q.aP (Q.a 16)<|Q.bW<|Q.d<|H 1)<|rX.c (Q.aP (Q.a 16)<|Q.bW<|Q.d<|H 1) rX.n) (r_.c sp.f r_.n) r_.n)<|r_.c (sp.b (Q.bA<|Q.i 95<|rX.c (Q.aD (Q.a 17) 73)<|rX.c (Q.a 9)<|rX.c (Q.a 5)<|rX.c (Q.a 16)<|rX.c (Q.a 4)<|rX.c (Q.a 14)<|rX.c (Q.a 15) rX.n) (r_.c sp.f r_.n) r_.n)<|r_.c (sp.b (Q.bA<|Q.i 96<|rX.c (Q.a 8)<|rX.c (Q.a 3)<|rX.c (Q.a 17)<|rX.c (Q.a 13)<|rX.c (Q.bC<|rX.c (Q.bA<|Q.a 2)<|rX.c (Q.aG tM.c (Q.i 87<|rX.c (Q.a 1)<|rX.c (Q.d<|H 3) rX.n)<|Q.d<|H 0) rX.n) rX.n) (r_.c sp.f r_.n) r_.n) r_.n)<|r_.c (sp.b (Q.a 2) (r_.c (sp.d<|Q.i 100<|rX.c (Q.a 1) rX.n) r_.n) r_.n)<|r_.c (sp.b (Q.bC<|rX.c (Q.aG tM.c (Q.i 87<|rX.c (Q.a 1)<|rX.c (Q.d<|H 3) rX.n)<|Q.d<|H 0)<|rX.c (Q.bA<|Q.i 99<|rX.c (Q.a 8)<|rX.c (Q.a 3)<|rX.c (Q.a 11) rX.n) rX.n) (r_.c sp.f r_.n) r_.n)<|r_.c (sp.d<|Q.bC<|rX.c (Q.i 100<|rX.c (Q.a 1) rX.n)<|rX.c (Q.i 98<|rX.c (Q.a 1)<|rX.c (Q.a 8)<|rX.c (Q.a 3)<|rX.c (Q.a 12)<|rX.c (Q.a 9)<|rX.c (Q.a 5)<|rX.c (Q.a 11) rX.n) rX.n) r_.n)
def yR(m:Nat×Nat):Prop:=∀(g:List Int) (a:Bool) (T:sm),sU 1 g->∃o d,rY 19 none He [T,.rL<|.b 0,.rL<|.d a,.rL<|AG m.1 m.2,.rT,.rT,.rT,.rT,.rT,.rT,.rT,.rT,.rT,.rT,.rT,.rT,.rT,.rT,.rT,.rT,.rT] (sM g [])=vt (.d true) o d
theorem BJ:∃m:Nat×Nat,uB m.1 m.2/\(yR m->∀m:Nat×Nat,uB m.1 m.2->yR m):=(Classical.em<|∃m:Nat×Nat,uB m.1 m.2/\¬yR m).elim (λa=>a.imp λm a=>⟨a.1,λh=>absurd h a.2⟩) λa=>⟨(32,8),by constructor<;>decide,λ_ m b=>rv λh=>a ⟨m,b,h⟩⟩
def D6:Nat×Nat:=Classical.choose BJ
@[irreducible] def rM:Nat:=D6.1
@[irreducible] def rP:Nat:=D6.2
theorem sf:uB rM rP:=by unfold rM rP;exact(rx BJ).1
theorem Hf(a:yR (rM,rP)):∀m:Nat×Nat,uB m.1 m.2->yR m:=(rx BJ).2<|by unfold rM rP at a;exact a
section
variable{a0:Type} {i L:Int} {k:a0} {w:List (Int×a0)}
noncomputable abbrev uL(w:List (Int×a0)):List Int:=w.map (·.1)
theorem yS:∀w:List (Int×a0),tc L (un i k w)=if L=i then D k else tc L w
 |[]=>B
 |(r,z)::q=>by
  refine(?_:tc L (if i=r then(r,k)::q else(r,z)::un i k q)=if L=i then D k else if L=r then D z else tc L q);by_cases a:i=r
  ·refine ae (G _<|an a) ?_;refine J a<|(?_:(if L=r then D k else tc L q)=_);by_cases f:L=r
   ·exact ae (an f)<|J (an f) B
   ·refine ae (am f) ?_;exact J (am f)<|(am f)▸B
  ·refine ae (G _<|am a)<|(?_:(if L=r then D z else tc L<|un i k q)=_);refine ae (G _<|yS q) ?_;by_cases f:L=r
   ·refine ae (an f) ?_;rw[am<|λm=>a<|m.symm.trans f];exact J (an f) B
   ·exact ae (am f)<|J (am f) B
theorem BK:∀{w:List (Int×a0)},i∉uL w->tc i w=none
 |[],_=>B
 |(r,z)::q,a=>(am λf:i=r=>a<|J f<|.head _).trans<|BK λf=>a<|.tail _ f
theorem zG:∀{w:List (Int×a0)},(uL w).Nodup->tc L (uH i w)=if L=i then none else tc L w
 |[],_=>by refine(?_:none=if L=i then none else none);by_cases f:L=i<;>simp only[f,if_true,if_false,ite_self]
 |(r,z)::q,a=>by
  have a:=List.nodup_cons.mp a;refine(?_:tc L (if i=r then q else(r,z)::uH i q)=if L=i then none else if L=r then D z else tc L q);by_cases m:i=r
  ·refine ae (G _<|an m) ?_;refine J m ?_;by_cases f:L=r
   ·exact J (an f)<|J f<|BK a.1
   ·exact J (am f)<|(am f)▸B
  ·refine ae (G _<|am m)<|(?_:(if L=r then D z else tc L<|uH i q)=_);refine ae (G _<|zG a.2) ?_;by_cases f:L=r
   ·refine ae (an f) ?_;rw[am<|λv=>m<|v.symm.trans f];exact J (an f) B
   ·exact ae (am f)<|J (am f) B
theorem BL{c:Int}:∀{w:List (Int×a0)},c∈uL (un i k w) ->c=i\/c∈uL w
 |[],a=>.inl<|List.mem_singleton.mp a
 |(r,z)::q,a=>by
  have a:c∈uL (if i=r then(r,k)::q else(r,z)::un i k q):=a;by_cases m:i=r
  ·rw[an m]at a;exact .inr a
  ·rw[am m]at a;exact(List.mem_cons.mp a).elim (λf=>.inr<|J f<|.head _) λf=>(BL f).imp id<|.tail _
theorem BM:∀{w:List (Int×a0)},(uL w).Nodup->(uL<|un i k w).Nodup
 |[],_=>List.nodup_cons.mpr ⟨fe,.nil⟩
 |(r,z)::q,a=>by
  refine(?_:(uL<|if i=r then(r,k)::q else(r,z)::un i k q).Nodup);by_cases m:i=r
  ·exact J (an m) a
  ·refine J (am m) ?_;have a:=List.nodup_cons.mp a;exact List.nodup_cons.mpr ⟨λf=>(BL f).elim (λv=>m v.symm) a.1,BM a.2⟩
theorem BN{c:Int}:∀{w:List (Int×a0)},c∈uL (uH i w) ->c∈uL w
 |(r,z)::q,a=>by
  have a:c∈uL (if i=r then q else(r,z)::uH i q):=a;by_cases m:i=r
  ·rw[an m]at a;exact .tail _ a
  ·rw[am m]at a;exact(List.mem_cons.mp a).elim (λf=>J f<|.head _) λf=>.tail _<|BN f
theorem BO:∀{w:List (Int×a0)},(uL w).Nodup->(uL<|uH i w).Nodup
 |[],a=>a
 |(r,z)::q,a=>by
  refine(?_:(uL<|if i=r then q else(r,z)::uH i q).Nodup);have a:=List.nodup_cons.mp a;by_cases m:i=r
  ·exact(an m)▸a.2
  ·exact J (am m)<|List.nodup_cons.mpr ⟨λf=>a.1<|BN f,BO a.2⟩
end
theorem D7:∀{t:Nat} {w:List Int},w.Nodup->(∀c∈w,0<=c/\c<(t:Int)) ->w.length<=t
 |0,[],_,_=>bg _
 |0,c::_,_,a=>(Int.not_lt.mpr (a c<|.head _).1 (a c<|.head _).2).elim
 |t+1,w,a8,a=>by
  have m:=D7 (a8.erase (t:Int)) λc b=>⟨(a c<|ry b).1,Int.lt_iff_le_and_ne.mpr ⟨Int.le_of_lt_add_one (a c<|ry b).2,λe=>List.Nodup.not_mem_erase a8<|e▸b⟩⟩
  rw[List.length_erase]at m;by_cases f:(t:Int)∈w
  ·rw[an f]at m;exact Nat.le_add_of_sub_le m
  ·rw[am f]at m;exact qe m
def toN(k:rN):Nat:=(k.aH (r:=λr=>D r.toNat)).getD 0
def AH(R:List (Int×rN))(i:Nat):rN:=(tc (i:Int) R).getD<|H 0
def tL(R:List (Int×rN))(i:Nat):Nat:=toN<|AH R i
structure sJ(R:List (Int×rN)):Prop where
 e:(uL R).Nodup
 h:∀c∈uL R,0<=c/\c<((16*rM:Nat):Int)
 g:∀i,AH R i=H (tL R i)/\tL R i<4294967296
theorem D8:∀{w:List (Int×a0)},tc i w=none->uH i w=w
 |[],_=>B
 |(r,z)::q,a=>by
  have a:(if i=r then D z else tc i q)=none:=a;by_cases m:i=r
  ·rw[an m]at a;exact va a
  ·rw[am m]at a;refine ae (am m) ?_;exact G _<|D8 a
def uT(R:List (Int×rN))(i k:Nat):List (Int×rN):=bif k.beq 0 then uH (i:Int) R else un (i:Int) (H k) R
section
theorem D9(a:(uL R).Nodup):AH (uT R i k) L=if L=i then H k else AH R L:=by
 by_cases f:L=i
 ·refine J (an f)<|J f ?_;cases k with
  |zero=>show(tc i<|uH i R).getD _=_;refine J (zG a)<|J (an B) ?_;rfl
  |succ k=>show(tc i<|un i _ R).getD _=_;refine J (yS ..)<|J (an B) ?_;rfl
 ·have b:¬(L:Int)=i:=λm=>f<|fv m;refine J (am f) ?_;cases k with
  |zero=>show(tc L<|uH i R).getD _=_;refine J (zG a) ?_;exact J (am b) B
  |succ k=>show(tc L<|un i _ R).getD _=_;refine J (yS ..) ?_;exact J (am b) B
theorem xL(a:(uL R).Nodup):tL (uT R i k) L=if L=i then k else tL R L:=by
 unfold tL;refine ae (G _<|D9 a) ?_;by_cases f:L=i
 ·refine ae (G _<|an f) ?_;refine J (an f) ?_;rfl
 ·exact ae (G _<|am f)<|J (am f) B
theorem sJ.aS(a:sJ R)(b:i<16*rM)(d:k<4294967296):sJ (uT R i k):=by
 refine⟨?_,λc=>?_,λL=>?_⟩
 ·cases k with
  |zero=>exact BO a.e
  |succ k=>exact BM a.e
 ·cases k with
  |zero=>exactλm=>a.h c<|BN m
  |succ k=>exactλm=>(BL m).elim (λf=>J f ⟨dx i,Int.ofNat_lt.mpr b⟩)<|a.h c
 ·refine J (xL a.e)<|J (D9 a.e) ?_;by_cases f:L=i
  ·exact J (an f)<|J (an f) ⟨B,d⟩
  ·exact J (am f)<|J (am f)<|a.g L
theorem sJ.aY(a:sJ R):R.length<=16*rM:=aa (ao (a_ (·.1)).symm)<|D7 a.e a.h
end
structure sc where
 b:List Int
 a:List (Int×rN)
 d:Nat
 e:List rN
 c:List (Int×rN)
abbrev wW:sC:=.sW 12 [(63,H<|64*rM),(76,H 0),(6,H<|64*rM),(77,.b 2)]
abbrev yc(z:Nat):sC:=.sW 13 [(67,.b 1),(76,H rM),(75,H 63),(63,H rM),(79,.d false),(80,H z),(81,.b 4),(82,.b 5)]
def rO(E:sc)(O:rR):rR:=.sr (E.b.map .i)::wW::.tw E.a::yc E.d::.sr E.e::.tw E.c::O
noncomputable def sc.aV(E:sc)(R:List (Int×rN)):sc:=⟨E.b,R,E.d,E.e,E.c⟩
section
theorem BP(a:b+h<=64*rM):rW (t+1) g 30 [.b 1,H b,H h] (rO E O)=rS .e (rO E O):=vi B B B<|tK (vk<|vP (sD B B<|uK<|cc _)<|vP (sD B B<|uK<|cc _)<|wl<|sD B B<|vj a) sY
theorem D'(c:b %4=0)(a:b+4<=64*rM):rW (t+1) g 31 [.b 1,H b,H 4] (rO E O)=rS .e (rO E O):=vi B B B<|tK (vk<|vP (sD (sb B B<|vO<|sz B) B<|wU c)<|vP (sD B B<|uK<|cc _)<|wl<|sD B B<|vj a) sY
theorem wm(e:2^i=h):tJ .g (H b) (H i)=D (H<|b/h):=sa e BH
theorem Hg(c:sJ E.a)(d:b %4=0)(a:b+4<=64*rM):rW (t+2) g 32 [.b 1,H b] (rO E O)=rS (H<|tL E.a<|b/4) (rO E O):=t_ B B B<|tt (sN B B B<|D' d a)<|uJ<|xG B B (sb B B<|wm B) B<|G (λk=>rS k<|rO E O) (c.g<|b/4).1
theorem Hh:Al (rO E O) (.b 2) (H i) (D .e)=rS ((tc (i:Int) E.a).getD .e) (rO (E.aV<|uH (i:Int) E.a) O):=by
 have e:Al (rO E O) (.b 2) (H i) (D .e)=@.casesOn rN (λ_=>rQ rN) (tc i E.a) (sv .e<|rO E O) λc=>sv c<|rO (E.aV<|uH i E.a) O:=B;refine J e ?_;cases a:tc i E.a with
 |none=>refine J (D8 a) ?_;rfl
 |some k=>rfl
theorem AI(a:sJ E.a)(b:rM<=64):rW (t+1) g 34 [.b 1,H i,H k] (rO E O)=rS .e (rO (E.aV<|uT E.a i k) O):=by
 cases k with
 |zero=>exact vi B B B<|vW (sD B B<|wU B) (tt (xG B B B B Hh) sY) sY
 |succ k=>exact vi B B B<|vW (sD B B<|BI<|gj k) (Hc B B B (G (λM=>(si M<|D<|sC.tw<|un i (H<|k+1) E.a).map λj=>(rO E O).set 2 j)<|vc<|aa a.aY<|aa (bx 16 b)<|sz B) sY) sY
theorem Hi(c:b %4=0)(a:b+4<=64*rM)(d:sJ E.a)(e:rM<=64)(f:k<4294967296): rW (t+2) g 33 [.b 1,H b,H k] (rO E O)=rS .e (rO (E.aV<|uT E.a (b/4) k) O):=vi B B B<|tt (sN B B B<|D' c a)<|tt (sN B B (rZ (sb B B<|wm B)<|rZ (sb B B<|G (λk=>D<|H k)<|(hn k 32).trans<|fi f) B)<|AI d e) sY
end
section
variable{b v k A s:Nat}
theorem BQ(b:Nat):decide (0<=dk (b:Int))=false:=cd λa:0<= -(b:Int) -1=>Int.not_le.mpr (ht (Int.neg_le_neg<|dx b)<|by decide)<|Int.le_of_sub_nonneg a
theorem AJ(b:Int):dk (dk b)=b:=by
 show -(-b -1) -1=b;rw[Int.neg_sub];exact J (Int.sub_neg ..)<|J (oz ..)<|o_ ..
theorem Hj{g:Nat}:ms (b:Int) (g:Int)=((b|||g:Nat):Int):=by
 have e:je (dk b) (dk g)=dk (((dk<|dk b).toNat|||(dk<|dk g).toNat:Nat):Int):=by
  unfold je;refine J (BQ ..) ?_;rw[BQ]
 unfold ms;refine e▸(AJ ..)▸(AJ ..)▸(AJ ..)▸?_
 rfl
theorem ui:tJ .e (H b) (H g)=D (H<|b|||g):=vX Hj
noncomputable def D_(b:Nat):rN:=.i<|dk (b:Int)
theorem Ea:tJ .c (H b) (D_ g)=D (H<|b -(b&&&g)):=vX (by
 have e:je b (dk g)=b -((b&&&(dk<|dk g).toNat:Nat):Int):=by
  unfold je;refine J (BQ ..)<|J (bd<|dx b) ?_
  rfl
 exact J e<|J (AJ ..)<|(me Nat.and_le_left).symm)
theorem Hk:v&&&((2^A -1)*2^l)=(v/2^l %2^A)*2^l:=by
 apply Nat.eq_of_testBit_eq;intro r;refine ae (Nat.testBit_and ..) ?_;refine ae (G _<|rz ..) ?_;rw[rz];refine J (Nat.testBit_two_pow_sub_one ..)<|J (Nat.testBit_mod_two_pow ..)<|J (Nat.testBit_div_two_pow ..) ?_;by_cases a:l<=r
 ·refine J (bd a)<|J (nv a) ?_;refine ae (G _<|md ..) ?_;rw[md];exact(Bool.and_comm ..)
 ·refine(cd a)▸?_;refine ae (G _<|qf ..) ?_;refine ae (jw ..) ?_;rfl
theorem Hl(a:u<2^l):2^l*c+u|||M*2^l=2^l*(c|||M)+u:=by
 rw[ka a,ka a];refine ae (Nat.or_assoc ..) ?_;rw[Nat.or_comm u];refine ae (az<|Nat.or_assoc ..) ?_;rw[bs M];exact(bs ..)▸(bs _ M)▸(bs _<|c|||M)▸(qg ..)▸(qg ..)▸(qg ..)▸(Nat.shiftLeft_or_distrib▸B)
noncomputable def xi(v s A k:Nat):Nat:=(v -(v&&&((2^(8*A) -1)*2^(8*s))))|||(k*2^(8*s))
theorem Hm(a:k<2^A):(v -(v&&&((2^A -1)*2^l)))|||(k*2^l)=2^l*(2^A*(v/2^l/2^A)+k)+v %2^l:=by
 have e:v -(v/2^l %2^A)*2^l=2^l*(2^A*(v/2^l/2^A))+v %2^l:=by
  exact Nat.sub_eq_of_eq_add<|J (bs _<|2^l)<|J (dw ..)<|sa (iv ..)<|(ec ..)▸((ec ..)▸B)
 refine J Hk<|J e<|J (Hl<|cv _<|qh l) ?_;rw[ka a]
end
section
variable{A s r c:Nat}
noncomputable def ud(c r:Nat):Nat:=c/256^r %256
theorem yg(s:Nat):2^(8*s)=256^s:=Nat.pow_mul 2 8 s
theorem yT(a:u<256^s):ud (256^s*c+u) (s+r)=ud c r:=by
 unfold ud;refine J (iw ..)<|sa (ix ..) ?_;rw[kb<|nw<|sz B];exact J (kc a)<|G _<|qi ..
theorem AK(a:r<s):ud (256^s*c+u) r=ud u r:=by
 unfold ud;refine bk (Nat.exists_eq_add_of_lt a) λN b=>?_;subst b;refine J (iy ..)<|J (iw ..)<|J (fo ..) ?_;rw[fo,kb<|nw<|sz B];exact J (Nat.mul_left_comm ..)<|mf ..
theorem AL(a:k<256^A):xi v s A k=256^s*(256^A*(v/256^s/256^A)+k)+v %256^s:=by
 have e:=Hm (v:=v) (l:=8*s)<|J (yg ..)<|a;rw[yg,yg]at e;unfold xi;rw[yg,yg];exact e
theorem Eb:v=256^s*(256^A*(v/256^s/256^A)+v/256^s %256^A)+v %256^s:=J (ec ..)<|(ec ..)▸B
theorem zH(s:Nat):v %256^s<256^s:=cv _<|nw<|af ..
theorem Hn(b:k<256^A)(a:r<A):ud (xi v s A k) (s+r)=ud k r:=by
 refine J (AL b) ?_;exact ae (yT<|zH s)<|AK a
theorem Ec(b:k<256^A)(a:r<s\/s+A<=r):ud (xi v s A k) r=ud v r:=by
 refine J (AL b) ?_;rcases a with a|a
 ·exact ae (AK a)<|(AK a).symm.trans<|G (ud · r) (Eb (A:=A)).symm
 ·refine bk (kd a) λL d=>?_;subst d;refine J (bf ..) ?_;refine ae (yT<|zH s) ?_;exact ae (yT b)<|(yT<|zH A).symm.trans<|(yT<|zH s).symm.trans<|G (ud · _) Eb.symm
theorem Ho(f:v<256^4)(d:k<256^A)(a:s+A<=4):xi v s A k<256^4:=by
 refine bk (kd a) λm e=>?_;have l:∀{b g c M:Nat},c<b->M<g->g*c+M<g*b:=λh i=>ar (ci i _)<|bx _ h;refine(AL d)▸e▸(bf ..)▸(iw ..)▸?_;rw[iw];refine l (l ?_ d)<|zH s;exact J (ix ..)<|sa (iw ..)<|er<|by exact(iw ..)▸e▸(f)
noncomputable def tk:List Nat->Nat
 |[]=>0
 |g::q=>256*tk q+g
abbrev sw(w:List Nat):Prop:=∀g∈w,g<256
theorem AM:∀{w:List Nat},sw w->tk w<256^w.length:=@λw=>uP (@λ_=>fp) (λg q b=>@λa=>by
  exact J il<|J (iy ..)<|J (bs ..)<|ar (ci (a g<|.head _) _)<|bx 256<|b λc d=>a c<|.tail _ d) w
theorem BR:∀{w:List Nat},sw w->∀r,ud (tk w) r=w.getD r 0
 |[],_,r=>G (· %256)<|qj<|256^r
 |g::q,a,0=>(AK (s:=1)<|af ..).trans (by unfold ud;refine J (qk ..)<|J (iz ..) ?_;refine ae (fi<|a g<|.head _) ?_;rfl)
 |g::q,a,r+1=>by
  refine(G (ud _)<|bh r 1).trans<|(yT (s:=1)<|a g<|.head _).trans<|BR (λc b=>a c<|.tail _ b) r
end
def ti(t:Nat)(a:tu)(U:List Nat)(E:Bool)(g:sp)(w:List rN)(o:sg)(d:rR):rV:=Ao (λc o d=>(up U E c o).bind λo=>rY t a g o d) w o d
def vd(t:Nat)(a:tu)(n:Q)(g:sp)(i:Nat)(o:sg)(d:rR):rV:=An (λo d=>rU t a.isSome n o d) (λo d=>rY t a g o d) i o d
section
theorem Ed(b:rU t a.isSome b7 o d=rS k a9)(c:tN k=D w):rY t a (.c (.h U E b7 g) a1) o d=rV.aF (ti t a U E g w o a9) (rY t a a1):=by
 show rV.aF (rV.aN (rU t a.isSome b7 o d) o λk d=>(tN k).bind λw=>ti t a U E g w o d) _=_;refine b▸((?_:rV.aF ((tN k).bind λw=>ti t a U E g w o a9) _=_));refine J c ?_;rfl
theorem wG(b:rU t a.isSome b7 o d=rS k a9)(c:tN k=D w)(e:ti t a U E g w o a9=ss a3 f)(i:rY t a a1 a3 f=q):rY t a (.c (.h U E b7 g) a1) o d=q:=(Ed b c).trans<|(G (rV.aF ·<|rY t a a1) e).trans i
theorem Ej(b:rU t a.isSome b7 o d=rS k a9)(c:tN k=D w)(e:ti t a U E g w o a9=uI h a3 f):rY t a (.c (.h U E b7 g) a1) o d=uI h a3 f:=(Ed b c).trans<|G (rV.aF ·<|rY t a a1) e
theorem zI(b:vd t a n g i o d=ss a3 a9)(R:rY t a a1 a3 a9=q):rY t a (.c (.r i n g) a1) o d=q:=(G (rV.aF ·<|rY t a a1) b).trans R
theorem Hp(b:vd t a n g i o d=vt c a3 a9):rY t a (.c (.r i n g) a1) o d=vt c a3 a9:=G (rV.aF ·<|rY t a a1) b
theorem yh(b:rY t a g o d=ss a3 a9)(i:rY t a a1 a3 a9=q):rY t a (.c g a1) o d=q:=(G (rV.aF ·<|rY t a a1) b).trans i
theorem BS(a7:up U E c o=D b):ti t a U E g (c::w) o d=rV.bM (rY t a g b d) (ti t a U E g w):=by
 refine(?_:rV.bM ((up U E c o).bind λo=>rY t a g o d) _=_);refine J a7 ?_;rfl
theorem tl(a7:up U E c o=D b)(e:rY t a g b d=ss a3 a9)(i:ti t a U E g w a3 a9=q):ti t a U E g (c::w) o d=q:=(BS a7).trans<|(G (rV.bM ·<|ti t a U E g w) e).trans i
theorem xP(a7:up U E c o=D b)(e:rY t a g b d=uI h a3 a9):ti t a U E g (c::w) o d=uI h a3 a9:=(BS a7).trans<|G (rV.bM ·<|ti t a U E g w) e
theorem Ek(a7:up U E c o=D b)(e:rY t a g b d=vt k a3 a9):ti t a U E g (c::w) o d=vt k a3 a9:=(BS a7).trans<|G (rV.bM ·<|ti t a U E g w) e
theorem En(b:rU t a.isSome n o d=rS (.d true) a9):vd t a n g (i+1) o d=rV.bM (rY t a g o a9) (vd t a n g i):=by
 refine(?_:rV.aN (rU t a.isSome n o d) o (λk d=>(sP k).bind λh=>bif h then rV.bM (rY t a g o d)<|vd t a n g i else D (.sS,o,d))=_);refine J b ?_;rfl
theorem yn(b:rU t a.isSome n o d=rS (.d true) a9)(c:rY t a g o a9=ss a3 e)(R:vd t a n g i a3 e=q):vd t a n g (i+1) o d=q:=(En b).trans<|(G (rV.bM ·<|vd t a n g i) c).trans R
theorem xj(b:rU t a.isSome n o d=rS (.d false) a9):vd t a n g (i+1) o d=ss o a9:=by
 refine(?_:rV.aN (rU t a.isSome n o d) o (λk d=>(sP k).bind λh=>bif h then rV.bM (rY t a g o d)<|vd t a n g i else D (.sS,o,d))=_);refine J b ?_;rfl
end
inductive so:Type where
 |e
 |f (b:so)
 |d (z:rN) (b:so)
 |h (M:Bool) (b:so)
 |a (z:rN) (d:rR) (b:so)
 |s (h:Nat) (d:rR) (b:so)
 |i (j:sC) (b:so)
 |t (w:List rN) (b:so)
 |p (z:rN) (d:rR) (b:so)
 |j (d:rR) (b:so)
 |o (u:tR) (o:sg) (d:rR) (b:so)
abbrev uC(a0:Type):=uh a0->rR->so->Prop
abbrev wn:=tR->sg->rR->so->Prop
section
variable{a0 b1:Type}
def so.aH(b:so)(N:Prop)(l:so->Prop:=λ_=>N)(k:rN->so->Prop:=λ_ _=>N)(g:Bool->so->Prop:=λ_ _=>N)(q:rN->rR->so->Prop:=λ_ _ _=>N)(c:Nat->rR->so->Prop:=λ_ _ _=>N)(r:sC->so->Prop:=λ_ _=>N)(x:List rN->so->Prop:=λ_ _=>N)(m:rN->rR->so->Prop:=λ_ _ _=>N)(A:rR->so->Prop:=λ_ _=>N)(n:tR->sg->rR->so->Prop:=λ_ _ _ _=>N):Prop:=@so.casesOn (λ_=>Prop) b N l k g q c r x m A n
def sH(j:Option a0)(i:a0->Prop):Prop:=@eh a0 (λ_=>Prop) j True i
def uj(g:Bool)(s:Prop):Prop:=@dy (λ_=>Prop) g True s
def sQ(R:uC b1)(i:a0->rR->so->Prop):uC a0:=λj d b=>@uh.casesOn a0 (λ_=>Prop) j (λk=>i k d b) λh=>R (.b h) d b
def wd(b:so)(j:Option rN)(i:rN->so->Prop):Prop:=b.aH True (l:=λb=>sH j λk=>i k b) (k:=λk b=>j=D k->i k b)
def xQ(b:so)(j:Option Bool)(i:Bool->so->Prop):Prop:=b.aH True (l:=λb=>sH j λk=>i k b) (g:=λk b=>j=D k->i k b)
def BU(b:so)(j:Option (List rN))(i:List rN->so->Prop):Prop:=b.aH (sH j λk=>i k b) (x:=λk b=>j=D k->i k b)
def yo(b:so)(j:Option rR)(i:rR->so->Prop):Prop:=b.aH True (l:=λb=>sH j λk=>i k b) (A:=λk b=>j=D k->i k b)
def yp(b:so)(j:Option sC)(i:sC->so->Prop):Prop:=b.aH True (l:=λb=>sH j λk=>i k b) (r:=λk b=>j=D k->i k b)
def wr(b:so)(A:rQ rN)(R:uC rN):Prop:=b.aH True (l:=λb=>sH A λs=>R s.1 s.2 b) (q:=λz d b=>A=rS z d->R (.a z) d b) (c:=λh d b=>A=tf h d->R (.b h) d b)
def xR(b:so)(A:rQ rN)(R:uC rN)(s:Prop):Prop:=b.aH s (m:=λz d b=>A=rS z d->R (.a z) d b)
def yq(b:so)(A:rV)(R:wn):Prop:=b.aH True (n:=λu o d b=>A=D (u,o,d) ->R u o d b)
def zJ(b:so)(d:rR)(k:rN)(i:Option (Nat×List (Nat×rN)) ->so->Prop):Prop:=b.aH (i (xJ d k) b) (r:=λj b=>(λN:Prop=>@rN.casesOn (λ_=>Prop) k N (λ_=>N) (λ_=>N) (λ_=>N) (λ_=>N) (λ_=>N) (λ_=>N) (λ_ _ _=>N) (λ_ _=>N) (λ_=>N) λa=>d[a]?=D j->i (j.tb (h:=λh a5=>D (h,a5))) b)<|i (xJ d k)<|.i j b)
section
variable(t:Nat) (g:Bool)
mutual
def su:Q->sg->rR->so->uC rN->Prop
 |.d k,_,d,b,R=>R (.a k) d b
 |.l _ k,_,d,b,R=>R (.a k) d b
 |.a r,o,d,b,R=>sH (um o r) λk=>R (.a k) d b
 |.r (.b c) e,o,d,b,R=>su e o d b<|sQ R λk d b=>zJ b d k λm b=>sH (m.bind λm=>tV c m.2) λz=>R (.a z) d b
 |.r .c e,o,d,b,R=>su e o d b<|sQ R λk d b=>sH (k.aH (r:=λr=>D<|.i<|dk r)) λz=>R (.a z) d b
 |.r j e,o,d,b,R=>xR b (rU t g (.r j e) o d) R<|su e o d b<|sQ R λk d b=>uj (yk j d k)<|sH (wJ j k d) λs=>R s.1 s.2 b
 |.u (.a j) e u,o,d,b,R=>su e o d b<|sQ R λk d b=>su u o d b<|sQ R λv d b=>wd b (tJ j k v) λz b=>R (.a z) d b
 |.u (.b j) e u,o,d,b,R=>su e o d b<|sQ R λk d b=>su u o d b<|sQ R λv d b=>xQ b (tm d j k v) λz b=>R (.a<|.d z) d b
 |.u .c e u,o,d,b,R=>su e o d b<|sQ R λk d b=>su u o d b<|sQ R λv d b=>wd b (uY d k v) λz b=>R (.a z) d b
 |.u j e u,o,d,b,R=>xR b (rU t g (.u j e u) o d) R<|su e o d b<|sQ R λk d b=>uj (yK j d k)<|su u o d b<|sQ R λv d b=>wr b (wK j k v d) R
 |.A j e u x,o,d,b,R=>su e o d b<|sQ R λk d b=>uj (yL j d k)<|su u o d b<|sQ R λv d b=>su x o d b<|sQ R λz d b=>wr b (wt j k v z d) R
 |.x r c,o,d,b,R=>sH (sR o r) λj=>sH (j.tb (h:=λ_ a5=>tV c a5)) λz=>R (.a z) d b
 |.w e X,o,d,b,R=>su e o d b<|sQ R λk d b=>xS X k o d b R
 |.v h W,o,d,b,R=>xR b (rU t g (.v h W) o d) R<|yr h W o d b R
 |.s n e u,o,d,b,R=>su n o d b<|sQ R λk d b=>sH (sP k) λh=>@dy (λ_=>Prop) h (su u o d b R)<|su e o d b R
 |.E c e,o,d,b,R=>sH (sR o c) λj=>su e o d b<|sQ R λv d b=>wd b (zx j v) λz b=>R (.a z) d b
 |.z,_,d,b,R=>R (.a .e) d b
 |.q W,o,d,b,R=>uU W o d b<|sQ R λV d b=>R (.a<|.j V) d b
 |.m W,o,d,b,R=>uU W o d b<|sQ R λV d b=>R (.a<|.c V) d b
 |.i u W,o,d,b,R=>uU W o d b<|sQ R λV d b=>wr b (rW t g u V d) R
 |.f A e W,o,d,b,R=>su e o d b<|sQ R λk d b=>zJ b d k λm b=>sH (m.bind λm=>sK.c m.1 A) λu=>uU W o d b<|sQ R λV d b=>wr b (rW t g u (k::V) d) R
 |.t h W,o,d,b,R=>uU W o d b<|sQ R λV d b=>wr b (vb t g h V d) R
 |.k j W,o,d,b,R=>xR b (rU t g (.k j W) o d) R<|uU W o d b<|sQ R λV d b=>uj (!(j.dD&&g))<|wd b (uo d j V) λz b=>R (.a z) d b
 |.y c,o,d,b,R=>sH (sR o c) λj=>sH ((yI j).map H) λz=>R (.a z) d b
 |.C c,o,d,b,R=>sH (sR o c) λj=>sH (j.tb (M:=λg=>D<|.m g)) λz=>R (.a z) d b
 |.F c i N,o,d,b,R=>sH (sR o c) λj=>xR b (rU t g (.F c i N) o d) R True
 |.I W,o,d,b,R=>uU W o d b<|sQ R λV d b=>R (.a<|.b d.length) (d++[.sr V]) b
 |.L,_,d,b,R=>R (.a<|.b d.length) (d++[.tw []]) b
 |.o U E S b7 b',o,d,b,R=>xR b (rU t g (.o U E S b7 b') o d) R True
 |_,_,_,_,_=>True
def uU:Q->sg->rR->so->uC (List rN) ->Prop
 |.n,_,d,b,R=>R (.a []) d b
 |.c e W,o,d,b,R=>su e o d b<|sQ R λk d b=>uU W o d b<|sQ R λV d b=>R (.a<|k::V) d b
 |_,_,_,_,_=>True
def xS:Q->rN->sg->rR->so->uC rN->Prop
 |.p j e .n,k,o,d,b,R=>su e o d b<|sQ R λv d b=>xQ b (tm d j k v) λz b=>R (.a<|.d z) d b
 |.p j e X,k,o,d,b,R=>su e o d b<|sQ R λv d b=>xQ b (tm d j k v) λz b=>uj z<|xS X v o d b R
 |_,_,_,_,_,_=>True
def yr(h:Bool):Q->sg->rR->so->uC rN->Prop
 |.c e .n,o,d,b,R=>su e o d b R
 |.c e W,o,d,b,R=>su e o d b<|sQ R λk d b=>sH (sP k) λz=>@dy (λ_=>Prop) (z==h) (yr h W o d b R)<|R (.a k) d b
 |_,_,_,_,_=>True
end
end
end
section
variable(t:Nat) (a:Bool)
def tz(R:wn)(o:sg)(u:rN->rR->so->Prop):uC rN:=λj d b=>@uh.casesOn rN (λ_=>Prop) j (λk=>u k d b) λh=>R (.uu h) o d b
def BV(R:wn)(u:sg->rR->so->Prop):wn:=λj o d b=>@tR.casesOn (λ_=>Prop) j (u o d b) (R j o d b) (λ_=>R j o d b) λ_=>R j o d b
end
section
variable(t:Nat)
def yU(g:Bool):List (Option tE) ->Q->sg->rR->so->uC (List sm) ->Prop
 |[],_,_,d,b,R=>R (.a []) d b
 |some i::a',W,o,d,b,R=>yU g a' W o d b<|sQ R λX d b=>R (.a<|.sl (xM i)::X) d b
 |none::a',.c e W,o,d,b,R=>su t g e o d b<|sQ R λk d b=>yU g a' W o d b<|sQ R λX d b=>R (.a<|.rL k::X) d b
 |_,_,_,_,_,_=>True
def BW(a:tu)(e:Q)(c:sT)(u:Nat)(v:rN)(o:sg)(d:rR)(b:so)(R:uC rN):Prop:=sH (xK d v u) λz=>su t a.isSome e o d b<|sQ R λk d b=>wd b (vM c z k) λh b=>R (.a h) d b
mutual
def vl(a:tu):sp->sg->rR->so->wn->Prop
 |.e e,o,d,b,R=>su t a.isSome e o d b<|tz R o λ_ d b=>R .sS o d b
 |.a c e,o,d,b,R=>su t a.isSome e o d b<|tz R o λk d b=>R .sS (o.set c<|.rL k) d b
 |.g j c e,o,d,b,R=>su t a.isSome e o d b<|tz R o λk d b=>su t a.isSome j o d b<|tz R o λv d b=>yo b (vg d v c k) λd b=>R .sS o d b
 |.i c u e,o,d,b,R=>sH (sR o c) λj=>su t a.isSome e o d b<|tz R o λk d b=>sH (j.tb (h:=λh a5=>si (sK.a h u&&vF a5)<|D<|.sW h<|ut u k a5)) λj=>R .sS (o.set c<|.sl j) d b
 |.m j r e,o,d,b,R=>su t a.isSome e o d b<|tz R o λk d b=>su t a.isSome j o d b<|tz R o λv d b=>su t a.isSome r o d b<|tz R o λr d b=>yo b (wO d v r k) λd b=>R .sS o d b
 |.v c r e,o,d,b,R=>sH (sR o c) λj=>su t a.isSome e o d b<|tz R o λk d b=>su t a.isSome r o d b<|tz R o λr d b=>yp b (wN j r k) λj b=>R .sS (o.set c<|.sl j) d b
 |.p U e,o,d,b,R=>su t a.isSome e o d b<|tz R o λk d b=>sH (up U true k o) λo=>R .sS o d b
 |.o c i,o,d,b,R=>R .sS (o.set c<|.sl<|xM i) d b
 |.F c W,o,d,b,R=>uU t a.isSome W o d b λj d b=>@uh.casesOn (List rN) (λ_=>Prop) j (λV=>R .sS (o.set c<|.sl<|.sr V) d b) λh=>R (.uu h) o d b
 |.t c,o,d,b,R=>sH (sR o c) λj=>sH (vr j) λk=>R .sS (o.set c<|.rL k) d b
 |.q c e,o,d,b,R=>sH (sR o c) λj=>uj (ws j)<|su t a.isSome e o d b<|tz R o λk d b=>yp b (Mine.xO k j) λj b=>R .sS (o.set c<|.sl j) d b
 |.y c e,o,d,b,R=>sH (sR o c) λj=>uj (ws j)<|su t a.isSome e o d b<|tz R o λk d b=>yp b (Mine.yO k j) λj b=>R .sS (o.set c<|.sl j) d b
 |.l f c e,o,d,b,R=>sH (um o c) λz=>su t a.isSome e o d b<|tz R o λk d b=>wd b (vM f z k) λh b=>R .sS (o.set c<|.rL h) d b
 |.A f j u e,o,d,b,R=>su t a.isSome j o d b<|tz R o λv d b=>BW t a e f u v o d b<|tz R o λh d b=>yo b (vg d v u h) λd b=>R .sS o d b
 |.b n l Y,o,d,b,R=>su t a.isSome n o d b<|tz R o λk d b=>sH (sP k) λh=>@dy (λ_=>Prop) h (vl a Y o d b R)<|vl a l o d b R
 |.r i n g,o,d,b,R=>yq b (vd t a n g i o d) R
 |.h U E b7 g,o,d,b,R=>su t a.isSome b7 o d b<|tz R o λk d b=>BU b (tN k) λw b=>yq b (ti t a U E g w o d) R
 |.d e,o,d,b,R=>su t a.isSome e o d b<|tz R o λk d b=>R (.wM k) o d b
 |.s c,o,d,b,R=>sH (sR o c) λj=>sH (vr j) λk=>R (.wM k) o d b
 |.C,o,d,b,R=>sH (a.bind id) λh=>R (.uu h) o d b
 |.z g m,o,d,b,R=>uj (!a.isSome)<|vl none g o d b λu o d b=>@tR.casesOn (λ_=>Prop) u (R u o d b) (R u o d b) (λ_=>R u o d b) λh=>yV h m o d b R
 |.E,o,d,b,R=>R .Am o d b
 |.n,o,d,b,R=>R .sS o d b
 |.c l a1,o,d,b,R=>vl a l o d b<|BV R λo d b=>vl a a1 o d b R
 |.k U a' W,o,d,b,R=>uj (!a.isSome)<|yU t a.isSome a' W o d b λj d b=>@uh.casesOn (List sm) (λ_=>Prop) j (λX=>uj (wu true X.reverse&&X.length==U.length)<|R .sS (xN o U.reverse X.reverse) d b) λh=>R (.uu h) o d b
 |.x c e n,o,d,b,R=>yq b (rY t a (.x c e n) o d) R
 |.w c w e,o,d,b,R=>yq b (rY t a (.w c w e) o d) R
 |.j h (.a _),o,d,b,R=>uj (!a.isSome)<|R (.uu h) o d b
 |.j h q,o,d,b,R=>yq b (rY t a (.j h q) o d) R
 |_,_,_,_,_=>True
def yV(h:Nat):sp->sg->rR->so->wn->Prop
 |.u L g m,o,d,b,R=>@dy (λ_=>Prop) (L.any<|sK.d h) (yV h m o d b R)<|vl (D<|D h) g o d b R
 |_,_,_,_,_=>True
end
end
def sy{a0:Type}(A:rQ a0)(a1:uC a0->Prop):Prop:=∀R:uC a0,(∀j d b,A=D (j,d) ->R j d b) ->a1 R
def sX(A:rV)(a1:wn->Prop):Prop:=∀R:wn,(∀u o d b,A=D (u,o,d) ->R u o d b) ->a1 R
section
variable{a0 b1:Type} {A:rQ a0} {a1:uC a0->Prop} {a4:rN->rR->so->uC b1->Prop} {j:Option a0} {b:so} {d:rR}
theorem sy.aJ{k:a0}:sy (sv k d) λR=>R (.a k) d b:=λR i=>i _ _ _ B
theorem sy.aI:sy A λ_=>True:=λ_ _=>trivial
theorem sy.aC{u:a0->rR->rQ b1}{a4:a0->rR->so->uC b1->Prop}(a:sy A a1)(i:∀k d b,sy (u k d)<|a4 k d b):sy (rQ.aC A u) λR=>a1<|sQ R λk d b=>a4 k d b R:=λR f=>a _ λj d b e=>by
 subst e;cases j with
 |a k=>exact i k d b R f
 |b h=>exact f _ _ _ B
theorem sy.bS{j:Option a0}{u:a0->rQ b1}{a4:a0->uC b1->Prop}(i:∀k,sy (u k)<|a4 k):sy (j.bind u) λR=>sH j λk=>a4 k R:=λR f=>by
 cases j with
 |none=>trivial
 |some k=>exact i k R f
theorem sy.dZ{j:Option a0}:sy (se j d) λR=>sH j λk=>R (.a k) d b:=λR f=>by
 cases j with
 |none=>trivial
 |some k=>exact f _ _ _ B
theorem sy.cP{g:Bool}{A:rQ a0}(i:sy A a1):sy (si g A) λR=>uj g<|a1 R:=λR f=>by
 cases g with
 |false=>trivial
 |true=>exact i R f
theorem sy.eZ{j:Option rN}:sy (se j d) λR=>wd b j λz b=>R (.a z) d b:=λR f=>by
 cases b with
 |f b=>exact sy.dZ R f
 |d z b=>exactλe=>f _ _ _<|G (se · d) e
 |_=>trivial
theorem sy.hU{j:Option Bool}{u:Bool->rQ rN}{a4:Bool->so->uC rN->Prop}(i:∀k b,sy (u k)<|a4 k b):sy (j.bind u) λR=>xQ b j λz b=>a4 z b R:=λR f=>by
 cases b with
 |f b=>exact sy.bS (λk=>i k b) R f
 |h M b=>exactλe=>i M b R (by rw[e]at f;exact f)
 |_=>trivial
theorem sy.dA{A:rQ rN}:sy A (wr b A):=λR f=>by
 cases b with
 |f b=>
  show sH A _;cases A with
  |none=>trivial
  |some s=>exact f _ _ _ B
 |a z d b=>exactλe=>f _ _ _ e
 |s h d b=>exactλe=>f _ _ _ e
 |_=>trivial
theorem sy.eH{A:rQ rN}{a1:uC rN->Prop}(a:sy A a1):sy A λR=>xR b A R<|a1 R:=λR f=>by
 cases b with
 |p z d b=>exactλe=>f _ _ _ e
 |_=>exact a R f
theorem sy.fO{k:rN}{u:Option (Nat×List (Nat×rN)) ->rQ rN}{a4:Option (Nat×List (Nat×rN)) ->so->uC rN->Prop}(i:∀m b,sy (u m)<|a4 m b):sy (u<|xJ d k) λR=>zJ b d k λm b=>a4 m b R:=λR f=>by
 cases b with
 |i j b=>
  cases k with
  |b fO=>exactλe=>i _ b R (by rw[show xJ d (.b fO)=j.tb (h:=λh a5=>D (h,a5))from G (λA:Option sC=>A.bind λj=>j.tb (h:=λh a5=>D (h,a5))) e]at f;exact f)
  |_=>exact i _ _ R f
 |_=>exact i _ _ R f
end
section
variable{t:Nat} {g:Bool} {e c0 b6 W:Q} {o:sg} {d:rR} {b:so}
theorem Hq{j:Option Bool}:se (j.map rN.d) d=j.bind λM=>sv (.d M) d:=by cases j<;>rfl
structure vZ(t:Nat)(q:Bool)(n:Q):Prop where
 l:∀o d b,sy (rU t q n o d) (su t q n o d b)
 w:∀o d b,sy (uc t q n o d) (uU t q n o d b)
 x:∀k o d b,sy (vs (td t q) q n k o d) (xS t q n k o d b)
 q:∀x o d b,sy (yM (td t q) q x n o d)<|yr t q x n o d b
theorem sy.jF{A:rQ rN}:sy A λR=>sH A λs=>R s.1 s.2 b:=λR f=>by
 cases A with
 |none=>trivial
 |some s=>exact f _ _ _ B
theorem sy.hV{j:Option Bool}:sy (se (j.map rN.d) d) λR=>xQ b j λz b=>R (.a<|.d z) d b:=λR f=>by
 rw[Hq]at f;exact sy.hU (λk b=>.aJ) R f
theorem vZ.iX{j:xH}(a:vZ t g e):sy (rU t g (.r j e) o d) (su t g (.r j e) o d b):=by
 have i:sy (rQ.aC (rU t g e o d) λk d=>si (yk j d k)<|wJ j k d) λR=>su t g e o d b<|sQ R λk d b=>uj (yk j d k)<|sH (wJ j k d) λs=>R s.1 s.2 b:=(a.l o d b).aC λk d b=>.cP .jF;cases j with
 |b c=>exact(a.l o d b).aC (u:=λk d=>se (xK d k c) d) (a4:=λk d b R=>zJ b d k λm b=>sH (m.bind λm=>tV c m.2) λz=>R (.a z) d b) λk d b=>sy.fO (u:=λm=>se (m.bind λm=>tV c m.2) d) (a4:=λm b R=>sH (m.bind λm=>tV c m.2) λz=>R (.a z) d b) λm b=>sy.dZ
 |c=>exact(a.l o d b).aC (u:=λk d=>se (k.aH (r:=λr=>D<|rN.i<|dk r)) d) (a4:=λk d b R=>sH (k.aH (r:=λr=>D<|rN.i<|dk r)) λz=>R (.a z) d b) λk d b=>sy.dZ
 |_=>exact i.eH
theorem vZ.iY{j:xI}(a:vZ t g e)(a3:vZ t g c0):sy (rU t g (.u j e c0) o d) (su t g (.u j e c0) o d b):=by
 have i:sy (rQ.aC (rU t g e o d) λk d=>si (yK j d k)<|rQ.aC (rU t g c0 o d) λv d=>wK j k v d) λR=>su t g e o d b<|sQ R λk d b=>uj (yK j d k)<|su t g c0 o d b<|sQ R λv d b=>wr b (wK j k v d) R:=(a.l o d b).aC λk d b=>.cP<|(a3.l o d b).aC λv d b=>.dA;have c {u:rN->rN->rR->rQ rN} {a4:rN->rN->rR->so->uC rN->Prop} (v:∀k v d b,sy (u k v d)<|a4 k v d b):sy (rQ.aC (rU t g e o d) λk d=>(rQ.aC (rU t g c0 o d) λv d=>u k v d)) λR=>su t g e o d b<|sQ R λk d b=>(su t g c0 o d b<|sQ R λz d b=>a4 k z d b R):=(a.l o d b).aC λk d b=>(a3.l o d b).aC λz d b=>v k z d b;cases j with
 |a j=>exact c (u:=λk v d=>se (tJ j k v) d) (a4:=λk v d b R=>wd b (tJ j k v) λz b=>R (.a z) d b) λk v d b=>.eZ
 |b j=>exact c (u:=λk v d=>se ((tm d j k v).map rN.d) d) (a4:=λk v d b R=>xQ b (tm d j k v) λz b=>R (.a<|.d z) d b) λk v d b=>.hV
 |c=>exact c (u:=λk v d=>se (uY d k v) d) (a4:=λk v d b R=>wd b (uY d k v) λz b=>R (.a z) d b) λk v d b=>.eZ
 |_=>exact i.eH
theorem vZ.iZ{j:tM}{k:rN}(a:vZ t g e)(a3:vZ t g W):sy (vs (td t g) g (.p j e W) k o d) (xS t g (.p j e W) k o d b):=by
 have c:sy (rQ.aC (rU t g e o d) λv d=>se ((tm d j k v).map rN.d) d) λR=>su t g e o d b<|sQ R λv d b=>xQ b (tm d j k v) λz b=>R (.a<|.d z) d b:=(a.l o d b).aC λv d b=>.hV;have f:sy (rQ.aC (rU t g e o d) λv d=>(tm d j k v).bind λn=>si n<|vs (td t g) g W v o d) λR=>su t g e o d b<|sQ R λv d b=>xQ b (tm d j k v) λz b=>uj z<|xS t g W v o d b R:=(a.l o d b).aC λv d b=>sy.hU (u:=λn=>si n<|vs (td t g) g W v o d) (a4:=λz b R=>uj z<|xS t g W v o d b R) λz b=>.cP<|a3.x v o d b;cases W with
 |n=>exact c
 |_=>exact f
theorem vZ.jA{h:Bool}(a:vZ t g e)(a3:vZ t g W):sy (yM (td t g) g h (.c e W) o d) (yr t g h (.c e W) o d b):=by
 have i:sy (rQ.aC (rU t g e o d) λk d=>(sP k).bind λz=>bif z==h then sv k d else yM (td t g) g h W o d) λR=>su t g e o d b<|sQ R λk d b=>sH (sP k) λz=>@dy (λ_=>Prop) (z==h) (yr t g h W o d b R)<|R (.a k) d b:=(a.l o d b).aC λk d b=>sy.bS (u:=λz=>bif z==h then sv k d else yM (td t g) g h W o d) (a4:=λz R=>@dy (λ_=>Prop) (z==h) (yr t g h W o d b R)<|R (.a k) d b) λz=>by
   cases z==h
   ·exact a3.q h o d b
   ·exact .aJ
 cases W with
 |n=>exact a.l o d b
 |_=>exact i
theorem vZ.aO(a:∀o d b,sy (rU t g e o d)<|su t g e o d b)(S:∀o d b R,uU t g e o d b R=True:=by exactλ_ _ _ _=>rfl)(c:∀k o d b R,xS t g e k o d b R=True:=by exactλ_ _ _ _ _=>rfl)(f:∀h o d b R,yr t g h e o d b R=True:=by exactλ_ _ _ _ _=>rfl):vZ t g e:=⟨a,λo d b R _=>(S o d b R).symm▸trivial,λk o d b R _=>(c k o d b R).symm▸trivial,λh o d b R _=>(f h o d b R).symm▸trivial⟩
theorem uM(t:Nat)(g:Bool)(e:Q):vZ t g e:=by
 induction e with
 |n=>exact⟨λ_ _ _ _ _=>trivial,λ_ _ _ R f=>f _ _ _ B,λ_ _ _ _ _ _=>trivial,λ_ _ _ _ _ _=>trivial⟩
 |c e W a a3=>
  have i:∀o d b,sy (rQ.aC (rU t g e o d) λk d=>rQ.aC (uc t g W o d) λV d=>sv (k::V) d) λR=>su t g e o d b<|sQ R λk d b=>uU t g W o d b<|sQ R λV d b=>R (.a<|k::V) d b:=λo d b=>(a.l o d b).aC λk d b=>(a3.w o d b).aC λV d b=>.aJ;exact⟨λ_ _ _ _ _=>trivial,i,λ_ _ _ _ _ _=>trivial,λ_ _ _ _=>a.jA a3⟩
 |d k=>exact .aO λ_ _ _ R f=>f _ _ _ B
 |l c k=>exact .aO λ_ _ _ R f=>f _ _ _ B
 |a r=>exact .aO λo d b=>sy.dZ (j:=um o r)
 |r j e a=>exact .aO λ_ _ _=>a.iX
 |u j e u a a3=>exact .aO λ_ _ _=>a.iY a3
 |A j e u x a a3 l=>
  have i:∀o d b,sy (rQ.aC (rU t g e o d) λk d=>si (yL j d k)<|rQ.aC (rU t g u o d) λv d=>rQ.aC (rU t g x o d) λz d=>wt j k v z d) λR=>su t g e o d b<|sQ R λk d b=>uj (yL j d k)<|su t g u o d b<|sQ R λv d b=>su t g x o d b<|sQ R λz d b=>wr b (wt j k v z d) R:=λo d b=>(a.l o d b).aC λk d b=>.cP<|(a3.l o d b).aC λv d b=>(l.l o d b).aC λz d b=>.dA;exact .aO i
 |x r c=>exact .aO λo d b=>sy.bS (j:=sR o r) (u:=λj=>se (j.tb (h:=λ_ a5=>tV c a5)) d) (a4:=λj R=>sH (j.tb (h:=λ_ a5=>tV c a5)) λz=>R (.a z) d b) λj=>.dZ
 |w e X a a3=>
  have i:∀o d b,sy (rQ.aC (rU t g e o d) λk d=>vs (td t g) g X k o d) λR=>su t g e o d b<|sQ R λk d b=>xS t g X k o d b R:=λo d b=>(a.l o d b).aC λk d b=>a3.x k o d b;exact .aO i
 |p j e X a a3=>exact⟨λ_ _ _ _ _=>trivial,λ_ _ _ _ _=>trivial,λ_ _ _ _=>a.iZ a3,λ_ _ _ _ _ _=>trivial⟩
 |v h W a=>exact .aO λo d b=>sy.eH<|a.q h o d b
 |s n e u a a3 l=>
  have i:∀o d b,sy (rQ.aC (rU t g n o d) λk d=>(sP k).bind λh=>bif h then rU t g e o d else rU t g u o d) λR=>su t g n o d b<|sQ R λk d b=>sH (sP k) λh=>@dy (λ_=>Prop) h (su t g u o d b R)<|su t g e o d b R:=λo d b=>(a.l o d b).aC λk d b=>sy.bS (u:=λh=>bif h then rU t g e o d else rU t g u o d) (a4:=λh R=>@dy (λ_=>Prop) h (su t g u o d b R)<|su t g e o d b R) λh=>by
   cases h
   ·exact l.l o d b
   ·exact a3.l o d b
  exact .aO i
 |E c e a=>
  have i:∀o d b,sy ((sR o c).bind λj=>rQ.aC (rU t g e o d) λv d=>se (zx j v) d) λR=>sH (sR o c) λj=>su t g e o d b<|sQ R λv d b=>wd b (zx j v) λz b=>R (.a z) d b:=λo d b=>.bS λj=>(a.l o d b).aC λv d b=>.eZ;exact .aO i
 |z=>exact .aO λ_ _ _ R f=>f _ _ _ B
 |q W a=>
  have i:∀o d b,sy (rQ.aC (uc t g W o d) λV d=>sv (rN.j V) d) λR=>uU t g W o d b<|sQ R λV d b=>R (.a<|rN.j V) d b:=λo d b=>(a.w o d b).aC λV d b=>.aJ;exact .aO i
 |m W a=>
  have i:∀o d b,sy (rQ.aC (uc t g W o d) λV d=>sv (rN.c V) d) λR=>uU t g W o d b<|sQ R λV d b=>R (.a<|rN.c V) d b:=λo d b=>(a.w o d b).aC λV d b=>.aJ;exact .aO i
 |i u W a=>
  have i:∀o d b,sy (rQ.aC (uc t g W o d) λV d=>rW t g u V d) λR=>uU t g W o d b<|sQ R λV d b=>wr b (rW t g u V d) R:=λo d b=>(a.w o d b).aC λV d b=>.dA;exact .aO i
 |f A e W a a3=>
  have i:∀o d b,sy (rQ.aC (rU t g e o d) λk d=>((xJ d k).bind λm=>sK.c m.1 A).bind λu=>rQ.aC (uc t g W o d) λV d=>rW t g u (k::V) d) λR=>su t g e o d b<|sQ R λk d b=>zJ b d k λm b=>sH (m.bind λm=>sK.c m.1 A) λu=>uU t g W o d b<|sQ R λV d b=>wr b (rW t g u (k::V) d) R:=λo d b=>(a.l o d b).aC λk d b=>sy.fO (u:=λm=>(m.bind λm=>sK.c m.1 A).bind λu=>rQ.aC (uc t g W o d) λV d=>rW t g u (k::V) d) (a4:=λm b R=>sH (m.bind λm=>sK.c m.1 A) λu=>uU t g W o d b<|sQ R λV d b=>wr b (rW t g u (k::V) d) R) λm b=>.bS λu=>(a3.w o d b).aC λV d b=>.dA;exact .aO i
 |t h W a=>
  have i:∀o d b,sy (rQ.aC (uc t g W o d) λV d=>vb t g h V d) λR=>uU t g W o d b<|sQ R λV d b=>wr b (vb t g h V d) R:=λo d b=>(a.w o d b).aC λV d b=>.dA;exact .aO i
 |k j W a=>
  have i:∀o d b,sy (rQ.aC (uc t g W o d) λV d=>si (!(j.dD&&g))<|se (uo d j V) d) λR=>uU t g W o d b<|sQ R λV d b=>uj (!(j.dD&&g))<|wd b (uo d j V) λz b=>R (.a z) d b:=λo d b=>(a.w o d b).aC λV d b=>.cP .eZ;exact .aO λo d b=>(i o d b).eH (A:=rU t g (.k j W) o d)
 |y c=>exact .aO λo d b=>sy.bS (j:=sR o c) (u:=λj=>se ((yI j).map H) d) (a4:=λj R=>sH ((yI j).map H) λz=>R (.a z) d b) λj=>.dZ
 |C c=>exact .aO λo d b=>sy.bS (j:=sR o c) (u:=λj=>se (j.tb (M:=λg=>D<|rN.m g)) d) (a4:=λj R=>sH (j.tb (M:=λg=>D<|rN.m g)) λz=>R (.a z) d b) λj=>.dZ
 |F c i N a a3=>
  refine .aO λo d b R f=>?_;show sH _ λ_=>xR _ _ R True;cases sR o c with
  |none=>trivial
  |some j=>exact sy.eH .aI R f
 |I W a=>
  have i:∀o d b,sy (rQ.aC (uc t g W o d) λV d=>sv (rN.b d.length)<|d++[.sr V]) λR=>uU t g W o d b<|sQ R λV d b=>R (.a<|rN.b d.length) (d++[.sr V]) b:=λo d b=>(a.w o d b).aC λV d b=>.aJ;exact .aO i
 |L=>exact .aO λ_ _ _ R f=>f _ _ _ B
 |o U E S b7 b' a a3=>exact .aO λo d b=>sy.eH .aI
 |M=>exact .aO λ_ _ _ _ _=>trivial
end
section
theorem sX.aO{A:rQ a0}{a1:uC a0->Prop}{u:a0->rR->rV}{a4:a0->rR->so->wn->Prop}(a:sy A a1)(i:∀k d b,sX (u k d)<|a4 k d b):sX (rV.aN A o u) λR=>a1 λj d b=>@uh.casesOn a0 (λ_=>Prop) j (λk=>a4 k d b R) λh=>R (.uu h) o d b:=λR f=>a _ λj d b e=>by
 subst e;cases j with
 |a k=>exact i k d b R f
 |b h=>exact f _ _ _ _ B
theorem sX.fC{a4:sg->rR->so->wn->Prop}(a:sX A a1)(i:∀o d b,sX (u o d)<|a4 o d b):sX (rV.aF A u) λR=>a1<|BV R λo d b=>a4 o d b R:=λR f=>a _ λj o d b e=>by
 subst e;cases j with
 |sS=>exact i o d b R f
 |_=>exact f _ _ _ _ B
theorem sX.bS{j:Option a0}{u:a0->rV}{a4:a0->wn->Prop}(i:∀k,sX (u k)<|a4 k):sX (j.bind u) λR=>sH j λk=>a4 k R:=λR f=>by
 cases j with
 |none=>trivial
 |some k=>exact i k R f
theorem sX.fQ{j:Option a0}{u:a0->tR×sg×rR}:sX (j.map u) λR=>sH j λk=>R (u k).1 (u k).2.1 (u k).2.2 b:=λR f=>by
 cases j with
 |none=>trivial
 |some k=>exact f _ _ _ _ B
theorem sX.gR{j:Option rR}:sX (rV.bU j o) λR=>yo b j λd b=>R .sS o d b:=λR f=>by
 cases b with
 |f b=>exact sX.fQ (u:=λd=>(tR.sS,o,d)) R f
 |j d b=>exactλe=>f _ _ _ _<|G (rV.bU · o) e
 |_=>trivial
theorem sX.cT{cT:Option sC}:sX (rV.aW cT c o d) λR=>yp b cT λcT b=>R .sS (o.set c<|.sl cT) d b:=λR f=>by
 cases b with
 |f b=>exact sX.fQ (u:=λcT=>(tR.sS,o.set c<|.sl cT,d)) R f
 |i cT b=>exactλe=>f _ _ _ _<|G (rV.aW · c o d) e
 |_=>trivial
theorem sX.cA{j:Option (List rN)}{u:List rN->rV}{a4:List rN->so->wn->Prop}(i:∀k b,sX (u k)<|a4 k b):sX (j.bind u) λR=>BU b j λcA b=>a4 cA b R:=λR f=>by
 cases b with
 |t cA b=>exactλe=>i cA b R (by have f:=e▸f;exact f)
 |_=>exact sX.bS (λk=>i k _) R f
theorem sX.jH{j:Option rN}:sX (rV.bZ (j.map u) d) λR=>wd b j λh b=>R .sS (u h) d b:=λR f=>by
 cases b with
 |f b=>
  cases j with
  |none=>trivial
  |some k=>exact f _ _ _ _ B
 |d z b=>exactλe=>f _ _ _ _<|G (λj=>rV.bZ (cx u j) d) e
 |_=>trivial
theorem sX.fB:sX A λR=>yq b A R:=λR f=>by
 cases b with
 |o u o d b=>exactλe=>f _ _ _ _ e
 |_=>trivial
theorem sX.cP(i:sX A a1):sX (si g A) λR=>uj g<|a1 R:=λR f=>by
 cases g with
 |false=>trivial
 |true=>exact i R f
end
section
variable{t:Nat} {a:tu} {l a1:sp} {e j r:Q} {o:sg} {d:rR} {b:so} {c u:Nat}
theorem sy.jG{j:Option a0}{x:a0->rR->rQ b1}{a4:a0->uC b1->Prop}(i:∀z,sy (x z d)<|a4 z):sy (rQ.aC (se j d) x) λR=>sH j λz=>a4 z R:=λR f=>by
 cases j with
 |none=>trivial
 |some z=>exact i z R f
structure BX(t:Nat)(l:sp):Prop where
 c:∀(e:tu) (o:sg) (d:rR) (b:so),sX (rY t e l o d) (vl t e l o d b)
 e:∀h o d b,sX (ym (td t) h l o d)<|yV t h l o d b
theorem BX.aO(M:∀(a:tu) (o:sg) (d:rR) (b:so),sX (rY t a l o d)<|vl t a l o d b)(S:∀h o d b R,yV t h l o d b R=True:=by exactλ_ _ _ _ _=>rfl):BX t l:=⟨M,λh o d b R _=>sa ((S h o d b R).symm) trivial⟩
theorem BY{g:Bool}:∀(a':List (Option tE)) (W:Q) (d:rR) (b:so),sy (yl (td t g) g a' W o d)<|yU t g a' W o d b
 |[],_,_,_=>λR f=>f _ _ _ B
 |some i::a',W,d,b=>
  have i:sy (rQ.aC (yl (td t g) g a' W o d) λX d=>sv (sm.sl (xM i)::X) d) λR=>yU t g a' W o d b<|sQ R λX d b=>R (.a<|sm.sl (xM i)::X) d b:=(BY a' W d b).aC λX d b=>.aJ
  i
 |none::a',W,d,b=>λR f=>by
  cases W with
  |c e W=>
   exact(((uM t g e).l o d b).aC λk d b=>(BY a' W d b).aC λX d b=>.aJ) R f
  |_=>trivial
theorem Eo(t:Nat)(l:sp):BX t l:=by
 induction l with
 |n=>exact .aO λ_ _ _ _ R f=>f _ _ _ _ B
 |c l a1 S p=>
  have i:∀(a:tu) (o:sg) (d:rR) (b:so),sX (rV.aF (rY t a l o d) λo d=>rY t a a1 o d) λR=>vl t a l o d b<|BV R λo d b=>vl t a a1 o d b R:=λa o d b=>(S.c a o d b).fC λo d b=>p.c a o d b;exact .aO i
 |u L g x S p=>exact⟨λ_ _ _ _ _ _=>trivial,λh o d b=>by
   refine(?_:sX (bif L.any (sK.d h)then rY t (D<|D h) g o d else ym (td t) h x o d) λR=>@dy (λ_=>Prop) (L.any<|sK.d h) (yV t h x o d b R)<|vl t (D<|D h) g o d b R);cases L.any<|sK.d h
   ·exact p.e h o d b
   ·exact S.c _ o d b⟩
 |e e=>
  have i:∀(a:tu) (o:sg) (d:rR) (b:so),sX (rV.aN (rU t a.isSome e o d) o λ_ d=>D (.sS,o,d)) λR=>su t a.isSome e o d b<|tz R o λ_ d b=>R .sS o d b:=λa o d b=>.aO ((uM t a.isSome e).l o d b) λk d b R f=>f _ _ _ _ B;exact .aO i
 |a c e=>
  have i:∀(a:tu) (o:sg) (d:rR) (b:so),sX (rV.aN (rU t a.isSome e o d) o λk d=>D (.sS,o.set c<|.rL k,d)) λR=>su t a.isSome e o d b<|tz R o λk d b=>R .sS (o.set c<|.rL k) d b:=λa o d b=>.aO ((uM t a.isSome e).l o d b) λk d b R f=>f _ _ _ _ B;exact .aO i
 |g j c e=>
  have i:∀(a:tu) (o:sg) (d:rR) (b:so),sX (rV.aN (rU t a.isSome e o d) o λk d=>rV.aN (rU t a.isSome j o d) o λv d=>rV.bU (vg d v c k) o) λR=>su t a.isSome e o d b<|tz R o λk d b=>su t a.isSome j o d b<|tz R o λv d b=>yo b (vg d v c k) λd b=>R .sS o d b:=λa o d b=>.aO ((uM t a.isSome e).l o d b) λk d b=>.aO ((uM t a.isSome j).l o d b) λv d b=>.gR;exact .aO i
 |i c u e=>
  have i:∀(a:tu) (o:sg) (d:rR) (b:so),sX ((sR o c).bind λj=>rV.aN (rU t a.isSome e o d) o λk d=>rV.aW (j.tb (h:=λh a5=>si (sK.a h u&&vF a5)<|D<|sC.sW h<|ut u k a5)) c o d) λR=>sH (sR o c) λj=>su t a.isSome e o d b<|tz R o λk d b=>sH (j.tb (h:=λh a5=>si (sK.a h u&&vF a5)<|D<|sC.sW h<|ut u k a5)) λj=>R .sS (o.set c<|.sl j) d b:=λa o d b=>.bS λj=>.aO ((uM t a.isSome e).l o d b) λk d b=>.fQ;exact .aO i
 |m j r e=>
  have i:∀(a:tu) (o:sg) (d:rR) (b:so),sX (rV.aN (rU t a.isSome e o d) o λk d=>rV.aN (rU t a.isSome j o d) o λv d=>rV.aN (rU t a.isSome r o d) o λr d=>rV.bU (wO d v r k) o) λR=>su t a.isSome e o d b<|tz R o λk d b=>su t a.isSome j o d b<|tz R o λv d b=>su t a.isSome r o d b<|tz R o λr d b=>yo b (wO d v r k) λd b=>R .sS o d b:=λa o d b=>.aO ((uM t a.isSome e).l o d b) λk d b=>.aO ((uM t a.isSome j).l o d b) λv d b=>.aO ((uM t a.isSome r).l o d b) λr d b=>.gR;exact .aO i
 |v c r e=>
  have i:∀(a:tu) (o:sg) (d:rR) (b:so),sX ((sR o c).bind λj=>rV.aN (rU t a.isSome e o d) o λk d=>rV.aN (rU t a.isSome r o d) o λr d=>rV.aW (wN j r k) c o d) λR=>sH (sR o c) λj=>su t a.isSome e o d b<|tz R o λk d b=>su t a.isSome r o d b<|tz R o λr d b=>yp b (wN j r k) λj b=>R .sS (o.set c<|.sl j) d b:=λa o d b=>.bS λj=>.aO ((uM t a.isSome e).l o d b) λk d b=>.aO ((uM t a.isSome r).l o d b) λr d b=>.cT;exact .aO i
 |p U e=>
  have i:∀(a:tu) (o:sg) (d:rR) (b:so),sX (rV.aN (rU t a.isSome e o d) o λk d=>rV.bZ (up U true k o) d) λR=>su t a.isSome e o d b<|tz R o λk d b=>sH (up U true k o) λo=>R .sS o d b:=λa o d b=>.aO ((uM t a.isSome e).l o d b) λk d b=>.fQ;exact .aO i
 |o c i=>exact .aO λ_ _ _ _ R f=>f _ _ _ _ B
 |F c W=>
  have i:∀(a:tu) (o:sg) (d:rR) (b:so),sX (rV.aN (uc t a.isSome W o d) o λV d=>D (.sS,o.set c<|.sl<|.sr V,d)) λR=>uU t a.isSome W o d b λj d b=>@uh.casesOn (List rN) (λ_=>Prop) j (λV=>R .sS (o.set c<|.sl<|.sr V) d b) λh=>R (.uu h) o d b:=λa o d b=>.aO ((uM t a.isSome W).w o d b) λk d b R f=>f _ _ _ _ B;exact .aO i
 |t c=>
  have i:∀(a:tu) (o:sg) (d:rR) (b:so),sX ((sR o c).bind λj=>(vr j).bind λk=>D (.sS,o.set c<|.rL k,d)) λR=>sH (sR o c) λj=>sH (vr j) λk=>R .sS (o.set c<|.rL k) d b:=λa o d b=>.bS λj=>.bS λk R f=>f _ _ _ _ B;exact .aO λa=>i a
 |q c e=>
  have i:∀(a:tu) (o:sg) (d:rR) (b:so),sX ((sR o c).bind λj=>si (ws j)<|rV.aN (rU t a.isSome e o d) o λk d=>rV.aW (Mine.xO k j) c o d) λR=>sH (sR o c) λj=>uj (ws j)<|su t a.isSome e o d b<|tz R o λk d b=>yp b (Mine.xO k j) λj b=>R .sS (o.set c<|.sl j) d b:=λa o d b=>.bS λj=>.cP<|.aO ((uM t a.isSome e).l o d b) λk d b=>.cT;exact .aO i
 |y c e=>
  have i:∀(a:tu) (o:sg) (d:rR) (b:so),sX ((sR o c).bind λj=>si (ws j)<|rV.aN (rU t a.isSome e o d) o λk d=>rV.aW (Mine.yO k j) c o d) λR=>sH (sR o c) λj=>uj (ws j)<|su t a.isSome e o d b<|tz R o λk d b=>yp b (Mine.yO k j) λj b=>R .sS (o.set c<|.sl j) d b:=λa o d b=>.bS λj=>.cP<|.aO ((uM t a.isSome e).l o d b) λk d b=>.cT;exact .aO i
 |l s c e=>
  have i:∀(a:tu) (o:sg) (d:rR) (b:so),sX ((um o c).bind λz=>rV.aN (rU t a.isSome e o d) o λk d=>rV.bZ ((vM s z k).map λh=>o.set c<|.rL h) d) λR=>sH (um o c) λz=>su t a.isSome e o d b<|tz R o λk d b=>wd b (vM s z k) λh b=>R .sS (o.set c<|.rL h) d b:=λa o d b=>.bS λz=>.aO ((uM t a.isSome e).l o d b) λk d b=>.jH;exact .aO i
 |A s j u e=>
  have i:∀(a:tu) (o:sg) (d:rR) (b:so),sX (rV.aN (rU t a.isSome j o d) o λv d=>rV.aN (rQ.aC (se (xK d v u) d) λz d=>rQ.aC (rU t a.isSome e o d) λk d=>se (vM s z k) d) o λh d=>rV.bU (vg d v u h) o) λR=>su t a.isSome j o d b<|tz R o λv d b=>BW t a e s u v o d b<|tz R o λh d b=>yo b (vg d v u h) λd b=>R .sS o d b:=λa o d b=>.aO ((uM t a.isSome j).l o d b) λv d b=>sX.aO (a1:=BW t a e s u v o d b) (sy.jG λz=>((uM t a.isSome e).l o d b).aC λk d b=>.eZ) λh d b=>.gR;exact .aO i
 |b n l Y S p=>
  have i:∀(a:tu) (o:sg) (d:rR) (b:so),sX (rV.aN (rU t a.isSome n o d) o λk d=>(sP k).bind λh=>bif h then rY t a l o d else rY t a Y o d) λR=>su t a.isSome n o d b<|tz R o λk d b=>sH (sP k) λh=>@dy (λ_=>Prop) h (vl t a Y o d b R)<|vl t a l o d b R:=λa o d b=>.aO ((uM t a.isSome n).l o d b) λk d b=>.bS (a4:=λh R=>@dy (λ_=>Prop) h (vl t a Y o d b R)<|vl t a l o d b R) λh=>by
   cases h
   ·exact p.c a o d b
   ·exact S.c a o d b
  exact .aO i
 |r i n g S=>exact .aO λa o d b=>.fB
 |h U E b7 g S=>
  have i:∀(a:tu) (o:sg) (d:rR) (b:so),sX (rV.aN (rU t a.isSome b7 o d) o λk d=>(tN k).bind λw=>ti t a U E g w o d) λR=>su t a.isSome b7 o d b<|tz R o λk d b=>BU b (tN k) λw b=>yq b (ti t a U E g w o d) R:=λa o d b=>.aO ((uM t a.isSome b7).l o d b) λk d b=>.cA λw b=>.fB;exact .aO i
 |d e=>
  have i:∀(a:tu) (o:sg) (d:rR) (b:so),sX (rV.aN (rU t a.isSome e o d) o λk d=>D (.wM k,o,d)) λR=>su t a.isSome e o d b<|tz R o λk d b=>R (.wM k) o d b:=λa o d b=>.aO ((uM t a.isSome e).l o d b) λk d b R f=>f _ _ _ _ B;exact .aO i
 |s c=>
  have i:∀(a:tu) (o:sg) (d:rR) (b:so),sX ((sR o c).bind λj=>(vr j).bind λk=>D (.wM k,o,d)) λR=>sH (sR o c) λj=>sH (vr j) λk=>R (.wM k) o d b:=λa o d b=>.bS λj=>.bS λk R f=>f _ _ _ _ B;exact .aO λa=>i a
 |C=>
  have i:∀(a:tu) (o:sg) (d:rR) (b:so),sX (a.bind λa=>a.bind λh=>D (.uu h,o,d)) λR=>sH (a.bind id) λh=>R (.uu h) o d b:=λa o d b R f=>by
   cases a with
   |none=>trivial
   |some a=>exact sX.bS (u:=λh=>D (.uu h,o,d)) (a4:=λh R=>R (.uu h) o d b) (λh R f=>f _ _ _ _ B) R f
  exact .aO i
 |z g x S p=>
  have i:∀(a:tu) (o:sg) (d:rR) (b:so),sX (si (!a.isSome)<|(rY t none g o d).bind λm=>@tR.casesOn (λ_=>rV) m.1 (D m) (D m) (λ_=>D m) λh=>ym (td t) h x m.2.1 m.2.2) λR=>uj (!a.isSome)<|vl t none g o d b λu o d b=>@tR.casesOn (λ_=>Prop) u (R u o d b) (R u o d b) (λ_=>R u o d b) λh=>yV t h x o d b R:=λa o d b=>.cP λR f=>S.c none o d b _ λu o d b e=>by
   have f:=e▸f;cases u with
   |uu h=>exact p.e h o d b R f
   |_=>exact f _ _ _ _ B
  exact .aO i
 |E=>exact .aO λ_ _ _ _ R f=>f _ _ _ _ B
 |k U a' W=>
  have i:∀(a:tu) (o:sg) (d:rR) (b:so),sX (si (!a.isSome)<|rV.aN (yl (td t a.isSome) a.isSome a' W o d) o λX d=>si (wu true X.reverse&&X.length==U.length)<|D (.sS,xN o U.reverse X.reverse,d)) λR=>uj (!a.isSome)<|yU t a.isSome a' W o d b λj d b=>@uh.casesOn (List sm) (λ_=>Prop) j (λX=>uj (wu true X.reverse&&X.length==U.length)<|R .sS (xN o U.reverse X.reverse) d b) λh=>R (.uu h) o d b:=λa o d b=>.cP<|.aO (BY a' W d b) λX d b=>.cP λR f=>f _ _ _ _ B;exact .aO i
 |x c e n=>exact .aO λa o d b=>.fB
 |w c w e=>exact .aO λa o d b=>.fB
 |j h q=>
  cases q with
  |a l=>
   exact .aO (λa o d b=>.cP λR f=>f _ _ _ _ B:∀(a:tu) (o:sg) (d:rR) (b:so),sX (si (!a.isSome)<|D (.uu h,o,d)) λR=>uj (!a.isSome)<|R (.uu h) o d b)
  |b r l=>exact .aO λa o d b=>.fB
 |f=>exact .aO λ_ _ _ _ _ _=>trivial
end
section
variable{t u:Nat} {g:Bool} {V:List rN} {d:rR} {a:tu} {a1:sp} {o:sg} {e:Q}
def Ep(b:so)(t:Nat)(g:Bool)(u:Nat)(V:List rN)(d:rR):Prop:=sH (uR u) λN=>uj (!N.c)<|sH (uA N V) λo=>vl t (tZ g) N.d o d b λs a3 a9 _=>rW (t+1) g u V d=rV.bQ (D (s,a3,a9))
theorem Hr(b:so):Ep b t g u V d:=by
 show sH (uR u) λN=>_;cases c:uR u with
 |none=>trivial
 |some N=>
  refine(?_:uj (!N.c) _);cases f:N.c with
  |true=>trivial
  |false=>
   refine(?_:sH (uA N V) _);cases h:uA N V with
   |none=>trivial
   |some o=>exact(Eo t N.d).c _ o d b _ λs a3 a9 a5 e=>(zB c f h).trans<|G rV.bQ e
def Hs(b:so)(t:Nat)(a:tu)(a1:sp)(o:sg)(d:rR):Prop:=vl t a a1 o d b λs a3 a9 _=>rY t a a1 o d=D (s,a3,a9)
theorem tg(b:so)(i:Hs b t a a1 o d->rY t a a1 o d=q):rY t a a1 o d=q:=i<|(Eo t a1).c a o d b _ λ_ _ _ _ e=>e
def Ht(b:so)(t:Nat)(g:Bool)(e:Q)(o:sg)(d:rR):Prop:=su t g e o d b λj a9 _=>rU t g e o d=D (j,a9)
theorem vQ(b:so)(i:Ht b t g e o d->rU t g e o d=m):rU t g e o d=m:=i<|(uM t g e).l o d b _ λ_ _ _ e=>e
theorem sE(b:so)(i:Ep b t g u V d->rW (t+1) g u V d=m):rW (t+1) g u V d=m:=i<|Hr b
end
section
variable{t i L:Nat} {g:Bool} {W:Q} {o:sg} {d:rR} {E:sc} {O:rR}
theorem tA(a:uc t g W o d=uf V a9)(b:(u.dD&&g)=false)(c:uo a9 u V=D z):rU t g (.k u W) o d=rS z a9:=by
 show rQ.aC (uc t g W o d) (λV d=>si _<|se (uo d u V) d)=_;refine J a<|(?_:si _ (se (uo a9 u V) a9)=_);refine J b<|J c ?_;rfl
theorem xl(j:um o c=D z)(l:rU t a.isSome e o d=rS v a9)(a7:vM b z v=D f)(i:rY t a a1 (o.set c<|.rL f) a9=q):rY t a (.c (.l b c e) a1) o d=q:=by
 show rV.aF ((um o c).bind λz=>rV.aN (rU t a.isSome e o d) o λk d=>rV.bZ ((vM b z k).map λh=>o.set c _) d) _=q;refine j▸(l▸((?_:rV.aF (rV.bZ ((vM b z v).map λh=>o.set c _) a9) _=q)));exact J a7 i
theorem Er(m:b<=h):uo d .f [H b,H h]=D (H b):=vX<|am<|Int.not_lt.mpr<|Int.ofNat_le.mpr m
theorem EV:b&&&3=b %4:=hn b 2
theorem AN:tJ .c (H b) (H 3)=D (H<|b %4):=G (λk=>D<|H k) EV
noncomputable def zK(X:List sm)(d:rR):rQ (List sm):=D (.a X,d)
def xm(t:Nat)(g:Bool)(a':List (Option tE))(W:Q)(o:sg)(d:rR):rQ (List sm):=yl (td t g) g a' W o d
theorem wX(a:rU t g e o d=rS z a9)(i:xm t g a' W o a9=zK X b):xm t g (none::a') (.c e W) o d=zK (.rL z::X) b:=by
 show rQ.aC (rU t g e o d) (λk d=>rQ.aC (xm t g a' W o d) λX d=>sv (.rL k::X) d)=_;refine J a<|(?_:rQ.aC (xm t g a' W o a9) (λX d=>sv _ d)=_);refine J i ?_;rfl
theorem BZ{i:tE}(m:xm t g a' W o d=zK X a9):xm t g (D i::a') W o d=zK (.sl (xM i)::X) a9:=by
 refine(?_:rQ.aC (xm t g a' W o d) (λX d=>sv _ d)=_);refine J m ?_;rfl
theorem zL(m:xm t false a' W o d=zK X a9)(h:(wu true X.reverse&&X.length==U.length)=true)(i:rY t none a1 (xN o U.reverse X.reverse) a9=q):rY t none (.c (.k U a' W) a1) o d=q:=by
 show rV.aF (rV.aN (xm t false a' W o d) o λX d=>si _<|D (.sS,xN o U.reverse X.reverse,d)) _=q;refine J m<|(?_:rV.aF (si _<|D (.sS,xN o U.reverse X.reverse,a9)) _=q);exact J h i
def vw(R:List (Int×rN))(i:Nat):Nat->List (Int×rN)
 |0=>R
 |L+1=>vw (uT R i 0) (i+1) L
theorem Hu:∀{L i:Nat} {R:List (Int×rN)},sJ R->i+L<=16*rM->sJ (vw R i L)/\∀r,tL (vw R i L) r=if i<=r/\r<i+L then 0 else tL R r:=by
 intro L;induction L with
 |zero=>
  exact @λi R a _=>⟨a,λr=>(am λm=>Nat.not_lt.mpr m.1 m.2).symm⟩
 |succ L c=>
  exact @λi R a b=>by
   have m:=c (a.aS (k:=0) (ar (cz<|bu L) b)<|af ..)<|aa (ao<|dw i 1 L) b;refine⟨m.1,λr=>(m.2 r).trans ?_⟩;refine ae (G _<|xL a.e) ?_;refine J (dw i 1 L) ?_;by_cases f:r=i
   ·refine ae (G _<|an f) ?_;refine ae (ite_self ..) ?_;rw[an ⟨ao f.symm,f▸cz (bu L)⟩]
   ·refine ae (G _<|am f) ?_;by_cases M:i<=r/\r<i+(L+1)
    ·exact(an M)▸(an ⟨ku M.1<|dq f,M.2⟩)
    ·exact(am M)▸(am λm=>M ⟨f_ m.1,m.2⟩)
theorem B0:4*i %4=0:=Nat.mul_mod_right 4 i
theorem B1:4*i/4=i:=Nat.mul_div_cancel_left i<|af ..
theorem Hv(c:rM<=64){a' b2:sm}:∀{L i u:Nat} {R:List (Int×rN)} {b8:sm},sJ R->i+L<=16*rM->∃a3,vd (t+2) none (.aG .b (.a 3)<|.a 4) Ez (u+(L+1)) [.rL<|.b 1,a',b2,.rL<|H<|4*i,.rL<|H<|4*(i+L),b8] (rO (E.aV R) O)=ss a3 (rO (E.aV<|vw R i L) O):=by
 intro L;induction L with
 |zero=>
  exact @λi u R b8 _ _=>⟨_,xj<|sD B B<|uK<|bg _⟩
 |succ L f=>
  exact @λi u R b8 a b=>by
   refine bk (f (u:=u) (b8:=.rL<|H 4) (a.aS (k:=0) (ar (cz<|bu L) b)<|af ..)<|aa (ao<|dw i 1 L) b) λa3 e=>?_;have l:4<=4*(i+(L+1)) -4*i:=sa (Nat.mul_sub ..)<|J (e_ ..)<|bx 4<|bu L;exact⟨a3,yn (sD B B<|vv<|Nat.mul_lt_mul_of_pos_left (cz<|bu L)<|af ..) (sO (tA (rZ (sb B (sb B B<|G (λk=>D<|H k)<|EV.trans B0)<|tS<|af ..)<|rZ (sb B B<|tS<|bx 4<|ax _ _) B) B<|Er l) <|vW (sD B B<|vu B) (tt (sN B B (rZ (sb B B<|(wm B).trans<|G (λk=>D _) B1) B)<|AI a c) sY)<|xl B B B sY)<|sa (dw i 1 L) e⟩
theorem AO{L:Nat}(a:L<=A):∃u,A+1=u+(L+1):=(kd a).imp λu e=>G _<|e.trans<|bh L u
theorem Hw(c:sJ E.a)(b:rM<=64)(a:i+L<=16*rM):rW (t+3) false 38 [.b 1,H<|4*i,H<|4*L] (rO E O)=rS .e (rO (E.aV<|vw E.a i L) O):=by
 refine bk (AO<|aa (aa (af L i) a)<|aa (bx 16 b) (by decide:16*64<=4999)) λu f=>?_;obtain⟨a3,e⟩:=Hv b c a;rw[iv,<-f]at e;exact vi B B B<|tt (sN B B B<|BP<|by refine sa (iv ..) ?_;exact aa (bx 4 a)<|by refine(fo ..)▸?_;exact bg _)<|yh B<|zI e sY
end
noncomputable def sk(w:List Nat):rN:=.m<|w.map λg:Nat=>(g:Int)
section
variable{t b i k L c:Nat} {g:Bool} {d:rR} {w U:List Nat} {R:List (Int×rN)}
theorem EW:tN (sk w)=D (w.map H):=G D<|fj ..
theorem EX:wJ .a (sk w) d=rS (sk w.reverse) d:=G (λw=>rS _ d) List.map_reverse.symm
theorem B2:yH (sk w) (H b) (H h)=D (sk<|(w.take h).drop b):=G (λw=>D _) (by
 refine(?_:((w.map λg:Nat=>(g:Int)).take h).drop b=_);exact sa List.map_take<|(az List.map_drop))
theorem wH:uo d .a [sk w]=D (H w.length):=G (λi=>D _)<|a_ ..
noncomputable def B3(V:Nat)(w:List Nat):Nat:=w.foldl (λk g=>256*k+g) V
theorem EY:∀w:List Nat,B3 0 w.reverse=tk w:=@λw=>uP (B) (λg q a=>by
  exact ae (G _ pt)<|ae List.foldl_append<|G (λk=>256*k+g)<|a) w
theorem Hx{T a' b2 b6 a2 b8 Y:sm}:∀{U:List Nat} {k i:Nat} {L:sm},sw U->k<256^i->i+U.length<=7->∃a,ti t none [8] false Ex (U.map H) [T,a',b2,b6,a2,b8,Y,.rL<|H k,L] d=ss [T,a',b2,b6,a2,b8,Y,.rL<|H<|B3 k U,a] d:=by
 intro U;induction U with
 |nil=>
  exact @λk i L _ _ _=>⟨L,B⟩
 |cons g q l=>
  exact @λk i L f h j=>by
   have a7:=f g<|.head _;have n:=aa (ao<|dw i 1 q.length) j;obtain⟨a,e⟩:=l (k:=256*k+g) (λc m=>f c<|.tail _ m) (by refine J (iy ..)<|J (bs _ 256) ?_;exact ar (ci a7 _)<|bx 256 h) n;exact⟨a,tl B (sO (sb (sb B B<|yN (af ..)<|ar h<|aa (ql (sz B)<|aa (ax i _) j)<|af ..) B<|ui.trans<|G (λk=>D _)<|J (bs ..)<|(ka a7 k).symm) sY) e⟩
def ux(R:List (Int×rN))(b:Nat):Nat:=ud (tL R<|b/4)<|b %4
noncomputable def tW(u:Nat->Nat)(b:Nat)(w:List Nat)(c:Nat):Nat:=if b<=c then(w[c -b]?).getD<|u c else u c
theorem B4:tW u b []=u:=funext λc=>by unfold tW;exact J (List.getElem?_nil)<|ite_self _
theorem EZ:tW (tW u b w) (b+w.length) q=tW u b (w++q):=funext λc=>by
 unfold tW;by_cases m:b+w.length<=c
 ·have a:=aa (ax b _) m;refine(an m)▸(an a)▸(an a)▸(gg<|mg m)▸?_;rw[mh];refine J (ir<|mg m) ?_
  rfl
 ·refine ae (am m) ?_;by_cases a:b<=c
  ·exact ae (an a)<|J (an a)<|(fu<|rA a<|Nat.lt_of_not_le m)▸B
  ·exact ae (am a)<|J (am a) B
end
section
theorem Hy(a:k<2^A):k&&&(2^A -1)=k:=(hn k A).trans<|fi a
theorem Hz(a:A<=4):2^(8*A)<=4294967296:=aa (ql (sz B)<|bx 8 a)<|af ..
theorem HA(d:sJ E.a)(h:rM<=64)(i:A<=4)(e:k<2^(8*A)):rW (t+2) g 35 [.b 1,H b,H<|2^(8*A) -1,H k] (rO E O)=rS .e (rO (E.aV<|uT E.a (b/4)<|xi (tL E.a<|b/4) (b %4) A k) O):=have l:=aa (bx 8<|bl<|cv b<|af ..)<|sz B;have f:∀{c},c<2^_->c<18446744073709551616:=λa=>ar a (aa (Hz i)<|sz B);vi B B B (sO (sb B (sb B B AN)<|tF B) (sO (sb (xG B B (sb B B<|wm B) B<|G (λk=>rS k<|rO E O) (d.g<|b/4).1) (wS (sb B B<|yN l<|f<|mi (qh _)<|af ..) B B) Ea) <|tt (sN B B (rZ (sb B B<|wm B)<|rZ (sb B (sb (sb B B<|G (λk=>D<|H k)<|Hy e) B<|yN l<|f e) ui) B)<|AI d h) sY))
theorem HB(h:sJ R)(g:sw w)(i:b %4+w.length<=4):ux (uT R (b/4)<|xi (tL R<|b/4) (b %4) w.length<|tk w)=tW (ux R) b w:=funext λc=>by
 have a:=AM g;have d:=ec b 4;have e:=ec c 4;refine(?_:ud _ _=if b<=c then(w[c -b]?).getD<|ud _ _ else ud _ _);refine J (xL h.e) ?_;by_cases m:c/4=b/4
 ·refine J (an m)<|sa m ?_;rw[m]at e;by_cases M:b<=c
  ·refine J (an M)<|J (qm<|e.trans<|(ds M).symm.trans<|(G (·+(c -b)) d.symm).trans<|bf ..) ?_;by_cases f:c -b<w.length
   ·refine J (Hn a f) ?_;rw[BR g];refine J (fq)<|J (d_ f) ?_;rfl
   ·refine J (Ec a<|.inr<|bc (g_ f) _)<|J (ir<|g_ f) ?_;rfl
  ·refine J (am M) ?_;rw[Ec a<|.inl ?_];exact qn<|J e<|J d<|Nat.lt_of_not_le M
 ·refine(am m)▸?_;by_cases M:b<=c
  ·have f:w.length<=c -b:=mg<|g_ λf=>m<|mj ?_<|ha M
   ·refine J (an M)<|J (ir f) ?_;rfl
   ·refine ck<|er<|ar f ?_;exact J (gz ..)<|aa (ao<|G (·+w.length) d.symm)<|aa (ao<|bf ..)<|bc i _
  ·exact J (am M) B
end
def B5(E:sc)(O:rR)(x:Nat->Nat)(m:rV):Prop:=∀a:Prop,(∀(d:List (Int×rN)) (a3:sg),sJ d->ux d=x->m=ss a3 (rO (E.aV d) O) ->a) ->a
theorem B5.mk(a:sJ d)(S:ux d=x)(b:m=ss a3 (rO (E.aV d) O)):B5 E O x m:=λ_ i=>i d a3 a S b
section
variable{t b r s u:Nat} {E:sc} {O:rR} {w:List Nat} {R:List (Int×rN)}
theorem HC(c:sJ R)(a:b %4=0)(d:k<256^4):xi (tL R<|b/4) (b %4) 4 k=k:=by
 refine J a ?_;refine ae (AL d) ?_;refine J (qk ..)<|J (iz ..) ?_;refine ae (G _<|Nat.mod_one ..) ?_;refine J (kc (c.g _).2)<|J (ju ..) ?_;rw[pl,bt];exact(qi ..)
noncomputable def xo(b r U:Nat):Nat:=min (4 -(b+r) %4)<|U -r
theorem E0(a:r<h):0<xo b r h:=Nat.lt_min.mpr ⟨hb<|cv _<|af ..,hb a⟩
theorem AP:uo d .f [H b,H h]=D (H<|min b h):=by
 rcases cm h b with m|m
 ·exact(az<|Nat.min_eq_right<|bl m)▸(vX<|an<|Int.ofNat_lt.mpr m)
 ·exact(az<|hh m)▸(Er m)
theorem E1:xo b r h<=4:=aa (hi ..)<|el ..
theorem E2:(b+r) %4+xo b r h<=4:=aa (bc (hi ..) _)<|ao<|ds<|bl<|cv _<|af ..
theorem E3(a:r<=h):r+xo b r h<=h:=aa (bc (lh ..) r)<|ao<|ds a
theorem HD(d:sw w):sw ((w.drop r).take A):=λc a=>d c<|kl<|he a
theorem HE(h:rM<=64)(c:sJ R)(l:sw U)(e:s %4+U.length<=4)(b6:o[3]?=D (.rL<|H s))(Y:o[6]?=D (.rL<|H U.length))(a4:o[7]?=D (.rL<|H<|tk U))(T:o[0]?=D (.rL<|.b 1)) (i:rY (t+2) none a1 o (rO (E.aV<|uT R (s/4)<|xi (tL R<|s/4) (s %4) U.length<|tk U) O)=m): rY (t+2) none (.c (sp.b (Q.aG tM.c (Q.a 6)<|Q.d<|H 4) (r_.c (sp.e<|Q.f 20 (Q.a 0)<|rX.c (Q.aB sT.g (Q.a 3)<|Q.d<|H 2)<|rX.c (Q.a 7) rX.n) r_.n)<|r_.c (sp.e<|Q.f 41 (Q.a 0)<|rX.c (Q.a 3)<|rX.c (Q.aB sT.d (Q.aB sT.i (Q.d<|H 1)<|Q.aB sT.b (Q.d<|H 8)<|Q.a 6)<|Q.d<|H 1)<|rX.c (Q.a 7) rX.n) r_.n) a1) o (rO (E.aV R) O)=m:=by
 have k:∀{r:Nat} {z:rN} {d:rR},o[r]?=D (.rL z) ->rU (t+2) false (.a r) o d=rS z d:=λ{r z d} a=>by
  show se ((o[r]?).bind λw=>@sm.casesOn (λ_=>Option rN) w none D λ_=>none) d=_;refine J a ?_;rfl
 have g:=AM l;by_cases f:U.length=4
 ·refine vW (sD (k Y) B<|vu f) (tt (sN (k T) B (rZ (sb (k b6) B<|wm B)<|rZ (k a4) B)<|AI c h) sY) ?_;rw[f]at e g i;rw[HC c (Nat.le_zero.mp<|qo<|aa e<|ao (bt 4).symm) g]at i;exact i
 ·have j:=aa (af ..) e;exact vW (sD (k Y) B<|wk f) (tt (sN (k T) B (rZ (k b6)<|rZ (sb (sb B (sb B (k Y)<|tF B)<|(yN (aa (bx 8 j)<|af ..)<|af ..).trans<|G (λk=>D _)<|ju _) B<|tS<|qh _)<|rZ (k a4) B)<|HA c h j<|by refine J (yg ..) ?_;exact g) sY) i
theorem HF(M:rM<=64)(N:sw w)(P:b+w.length<=64*rM){a':sm}:∀{u r s:Nat} {R:List (Int×rN)} {g q n:sm},sJ R->r<=w.length->w.length -r<=u->s=b+r-> B5 E O (tW (ux R) s<|w.drop r) (vd (t+2) none (.aG .b (.a 4)<|.a 5) Ey (u+1) [.rL<|.b 1,a',.rL<|sk w,.rL<|H s,.rL<|H r,.rL<|H w.length,g,q,n]<|rO (E.aV R) O):=by
 intro u;induction u with
 |zero=>
  exact @λr s R g q n d h l e=>by
   have f:=mj h<|Nat.sub_eq_zero_iff_le.mp<|Nat.le_zero.mp l;exact .mk d (by refine f▸List.drop_length▸?_;exact B4▸B)<|xj<|sD B B<|uK<|ao f.symm
 |succ u S=>
  exact @λr s R g q n d h l e=>by
   rcases ga h with p|f
   ·have T:=E0 (b:=b) p;have i:=E2 (b:=b) (r:=r) (h:=w.length);have y:=E3 (b:=b) h;have U:=E1 (b:=b) (r:=r) (h:=w.length);have V:min (4 -s %4) (w.length -r)=xo b r w.length:=by refine J e ?_;rfl
    replace i:=e▸i;generalize xo b r w.length=A at*
    have X:((w.drop r).take A).length=A:=by exact ae ek<|ae (G _ hw)<|hh<|mg y
    have o:=HD (r:=r) (A:=A) N;have z:=ly A<|w.drop r;rw[List.drop_drop]at z;have W:yH (sk w) (H r) (H<|r+A)=D (sk<|(w.drop r).take A):=B2.trans<|G (λw=>D _)<|ae List.drop_take<|J (e_ ..) B;generalize (w.drop r).take A=j at*
    subst X;have Y:s/4<16*rM:=er<|sa (fo ..)<|J e<|ar (ci p b) P;refine bk (Hx (t:=t+2) (d:=rO (E.aV R) O) (T:=.rL<|.b 1) (a':=a') (b2:=.rL<|sk w) (b6:=.rL<|H s) (a2:=.rL<|H r) (b8:=.rL<|H w.length) (Y:=.rL<|H j.length) (k:=0) (i:=0) (L:=n) (λc a=>o c<|List.mem_reverse.mp a) (af ..)<|by refine J jl<|J (bt ..) ?_;exact aa U<|af ..) λa0 L=>?_;rw[EY]at L;refine S (s:=s+j.length) (g:=.rL<|H j.length) (q:=.rL<|H<|tk j) (n:=a0) (d.aS Y<|Ho (d.g<|s/4).2 (AM o) i) y (by refine J (qp ..) ?_;exact aa (Nat.sub_le_sub_left T _)<|qq l) (by refine J e ?_;exact(bf ..)) _ λa1 a2 v x m=>?_;rw[HB d o i,EZ,z]at x;exact .mk v x (yn (sD B B<|vv p) (sO (tA (rZ (sb B (sb B B AN)<|tS<|bl<|cv _<|af ..)<|rZ (sb B B<|tS h) B) B<|AP.trans<|G (λk=>D _) V) <|sO B<|wG (wS (xG B B B (sb B B B)<|G (se · _) W) B EX) EW L<|HE M d o i B B B B<|xl B B B<|xl B B B sY) m)
   ·exact .mk d (by refine f▸List.drop_length▸?_;exact B4▸B)<|xj<|sD B B<|uK<|ao f.symm
theorem HG(c:rM<=64)(e:sJ E.a)(f:sw w)(a:b+w.length<=64*rM)(g:w.length<=4999):∃d,sJ d/\ux d=tW (ux E.a) b w/\rW (t+3) false 37 [.b 1,H b,sk w] (rO E O)=rS .e (rO (E.aV d) O):=by
 exact HF (t:=t) (E:=E) (O:=O) (a':=.rL<|H b) (g:=.rT) (q:=.rT) (n:=.rT) c f a e (cc _) g B _ λh i v x m=>tv _ v x<|vi B B B<|tt (sN B B (rZ B<|rZ (tA B B wH) B)<|BP a)<|zL (wX B<|wX B<|wX (tA B B wH) B) B<|zI m sY
end
noncomputable def tI(u:Nat->Nat)(b:Nat):Nat->List Nat
 |0=>[]
 |h+1=>u b::tI u (b+1) h
noncomputable def yW(v:Nat):Nat->List Nat
 |0=>[]
 |h+1=>v %256::yW (v/256) h
noncomputable abbrev tT(w:List Nat):List Int:=w.map λg:Nat=>(g:Int)
section
variable{t b h i A c s v:Nat} {d:rR} {w U:List Nat} {x:Nat->Nat}
theorem B6:∀{A b:Nat},tI x b (A+h)=tI x b A++tI x (b+A) h:=by
 intro A;induction A with
 |zero=>
  exact @λb=>by refine ae (G _<|bt ..) ?_;rfl
 |succ A a=>
  exact @λb=>by
   refine ae (G _<|dw A 1 h)<|(?_:x b::tI x _ _=_);refine ae (G _ a) ?_;refine sa (dw b 1 A) ?_
   rfl
theorem zM:∀{A b:Nat},(tI x b A).length=A:=by
 intro A;induction A with
 |zero=>
  exact @λ_=>B
 |succ A a=>
  exact @λb=>G _ a
theorem HH:∀{A i s:Nat},(∀r,r<A->x (s+r)=ud c (i+r)) ->yW (c/256^i) A=tI x s A:=by
 intro A;induction A with
 |zero=>
  exact @λ_ _ _=>B
 |succ A e=>
  exact @λi s a=>by
   refine(?_:c/256^i %256::yW _ A=x s::tI x _ A);rw[ix,<-iy,e λr m=>by refine ae (G _<|dw s 1 r) ?_;refine J (dw i 1 r) ?_;exact a _<|hc m];exact G (·::_) (a 0<|bu A).symm
theorem HI(a:s %4+r<4):(s+r)/4=s/4/\(s+r) %4=s %4+r:=by
 refine(sa (bf ..) ((ec ..)▸B):s+r=4*(s/4)+(s %4+r))▸?_;rw[kb<|sz B,mf];exact J (kc a)<|J (fi a) ⟨B,B⟩
theorem E4(a:s %4+A<=4):yW (tL R (s/4)/256^(s %4)) A=tI (ux R) s A:=HH λr m=>by
 have f:=HI<|ar (ci m _) a;exact sa f.1<|G _ f.2
theorem ys(f:sR o c=D j)(g:ws j=true)(l:rU t a.isSome e o d=rS z a9)(n:xO z j=D b9)(i:rY t a a1 (o.set c<|.sl b9) a9=m):rY t a (.c (.q c e) a1) o d=m:=by
 show rV.aF ((sR o c).bind λj=>si _<|rV.aN (rU t a.isSome e o d) o λk d=>rV.aW _ c o d) _=m;refine J f<|(?_:rV.aF (si _<|rV.aN _ o λk d=>rV.aW _ c o d) _=m);refine g▸(l▸((?_:rV.aF (rV.aW _ c o a9) _=m)));exact J n i
theorem E5(a:w.length<=1000000)(e:h<256):xO (H h) (.tH<|tT w)=D (.tH<|tT<|w++[h]):=by
 show si (tQ (tT w).length&&(decide ((0:Int)<=h)&&decide ((h:Int)<256))) (D<|sC.tH<|tT w++[(h:Int)])=_;rw[a_];refine J (vc a)<|J (bd<|dx h)<|J (bd<|show(h:Int)<256 from Int.ofNat_lt.mpr e) ?_;unfold tT;refine J fg ?_;rfl
theorem E6:tJ .c (H b) (H 255)=D (H<|b %256):=G (λk=>D<|H k)<|hn b 8
theorem HJ{T a' b2 b8:sm}:∀{U w:List Nat} {s v:Nat} {a4:sm},w.length+U.length<=1000000->∃f,ti t none [7] false Ew (U.map H) [T,a',b2,.sl<|.tH<|tT w,.rL<|H s,b8,.rL<|H v,a4] d=ss [T,a',b2,.sl<|.tH<|tT<|w++yW v U.length,.rL<|H<|s+U.length,b8,.rL<|H<|v/256^U.length,f] d:=by
 intro U;induction U with
 |nil=>
  exact @λw s v a4 _=>⟨a4,by refine J List.length_nil<|J (qk ..)<|J (iz ..) ?_;refine J (dh ..) ?_;rfl⟩
 |cons c U g=>
  exact @λw s v a4 a=>by
   obtain⟨f,e⟩:=g (w:=w++[v %256])<|J bm<|J (dw ..)<|a;rw[cp,ix,bs,<-iy,dw s 1]at e;exact⟨f,tl B (ys B B (sb B B E6) (E5 (aa (ax ..) a)<|cv _<|af ..)<|xl B B (wm B)<|xl B B B sY) e⟩
end
noncomputable def xp(b g h:Nat):Nat:=if b<g then(g -b -1)/h+1 else 0
def xT(b g h:Nat):List Nat:=(b_<|xp b g h).map λi=>b+h*i
section
variable{t b g h c s u:Nat} {E:sc} {O:rR} {w:List Nat}
theorem E7(a7:g<=A):xp b g h<=A:=by
 unfold xp;by_cases m:b<g
 ·exact J (an m)<|aa (bw<|qr ..)<|aa (ao<|nv<|hb m)<|aa (el ..) a7
 ·exact J (am m)<|cc A
theorem E8(a:0<h):mr b g h=(xp b g h:Int):=by
 unfold mr xp;refine ae (an<|Int.ofNat_lt.mpr a) ?_;by_cases m:b<g
 ·refine ae (an<|Int.ofNat_lt.mpr m) ?_;refine(an m)▸(me<|bl m)▸(J ((me<|hb m).symm) ?_)
  rfl
 ·refine ae (am λf=>m<|Int.ofNat_lt.mp f) ?_;refine J (am m) ?_;rfl
theorem zN(a:b<=3000000):rB (b:Int)=true:=by
 unfold rB;rw[bd<|hu (by decide)<|dx b,bd<|ht (Int.ofNat_le.mpr a)<|by decide]
 rfl
theorem E9(j:b<=1000000)(a7:g<=1000000)(d:0<h)(e:h<=1000000):yG b g h=true:=by
 have f:∀{i},i<=1000000->i<=3000000:=λa=>aa a<|af ..;unfold yG qO;rw[E8 d,zN<|f j,zN<|f a7,zN<|f e,zN<|f<|E7 a7,an<|show(h:Int)>0 from Int.ofNat_lt.mpr d,show g+(h -1)=((g+_:Nat):Int)from G ((g:Int)+·) (me d).symm,zN<|aa (cu a7<|aa (el ..) e)<|af ..,bd<|dx _,iu]
 rfl
theorem E'(a:0<h):wI b g h=(xT b g h).map λi:Nat=>(i:Int):=by
 unfold wI xT;refine J (E8 a)<|J fj ?_
 rfl
theorem E_(d:b<=1000000)(a7:g<=1000000)(a:0<h)(e:h<=1000000):tN (.o b g h)=D ((xT b g h).map H):=by
 rw[(λ_ _ _=>by kernel_rfl:∀b g h:Int,tN (.o b g h)=si (yG b g h) (D<|(wI b g h).map .i)),E9 d a7 a e,E' a,fj]
 rfl
theorem HK:xT 0 h 1=b_ h:=by
 have e:xp 0 h 1=h:=by
  cases h with
  |zero=>rfl
  |succ h=>(refine ae (an<|bu h) ?_;refine J (iz ..) ?_);rfl
 unfold xT;exact J e<|(ln λi _=>(bt _).trans<|ju i).trans<|pd _
theorem v_(a7:g<=1000000):tN (.o 0 g 1)=D ((b_ g).map H):=(E_ (cc _) a7 fp<|af ..).trans<|G _<|G _ HK
def zO(E:sc)(O:rR)(w:List Nat)(m:rV):Prop:=∀a:Prop,(∀(a3:sg),sR a3 3=D (.tH<|tT w) ->m=ss a3 (rO E O) ->a) ->a
theorem zO.mk{E:sc}{O:rR}{w:List Nat}(a:sR a3 3=D (.tH<|tT w))(S:m=ss a3 (rO E O)):zO E O w m:=λ_ i=>i a3 a S
theorem Fa(f:s=c):zO E O (w++tI (ux E.a) s (c -s)) (vd t none (.aG .b (.a 4)<|.a 5) Cj (u+1) [.rL<|.b 1,a',b2,.sl<|.tH<|tT w,.rL<|H s,.rL<|H c,Y,a4]<|rO E O):=J f<|J (gk ..)<|.mk (by refine(B:tI _ c 0=[])▸(dh ..)▸?_;rfl)<|xj<|sD B B<|uK<|bg _
theorem AQ{g:Bool}(m:sR o c=D (.tH<|tT w)):rU t g (.C c) o d=rS (sk w) d:=by
 refine(?_:((sR o c).bind λj=>se (j.tb (M:=λg=>D _)) d)=_);refine J m ?_;rfl
theorem HL{a' b2:sm}(p:sJ E.a):∀{u s:Nat} {w:List Nat} {Y a4:sm},s<=c->c -s<=u->w.length+(c -s)<=5000-> zO E O (w++tI (ux E.a) s (c -s)) (vd t none (.aG .b (.a 4)<|.a 5) Cj (u+1) [.rL<|.b 1,a',b2,.sl<|.tH<|tT w,.rL<|H s,.rL<|H c,Y,a4]<|rO E O):=by
 intro u;induction u with
 |zero=>
  exact @λs w Y a4 a d e=>Fa<|mj a<|Nat.sub_eq_zero_iff_le.mp<|Nat.le_zero.mp d
 |succ u q=>
  exact @λs w Y a4 a d e=>by
   rcases ga a with j|f
   ·have r:=E0 (b:=0) j;have i:=E2 (b:=0) (r:=s) (h:=c);have l:=E3 (b:=0) a;have v:=E1 (b:=0) (r:=s) (h:=c);have y:min (4 -s %4) (c -s)=xo 0 s c:=by unfold xo;exact J (bt ..) B
    rw[bt]at i;generalize xo 0 s c=A at*
    have n:c -s=A+(c -(s+A)):=by refine sa (mh ..) ?_;rw[ds<|mg l]
    rw[n]at d e;refine n▸B6▸(cp ..)▸(E4 i)▸(bk (HJ (t:=t) (d:=rO E O) (T:=.rL<|.b 1) (a':=a') (b2:=b2) (b8:=.rL<|H c) (U:=.range A) (w:=w) (s:=s) (v:=tL E.a (s/4)/256^(s %4)) (a4:=a4)<|by refine J fl ?_;exact aa (bc (ax A _) _)<|aa e<|sz B) λz o=>?_);rw[fl]at o;exact q (w:=w++yW (tL E.a (s/4)/256^(s %4)) A) (Y:=.rL<|H<|tL E.a (s/4)/256^(s %4)/256^A) (a4:=z) l (ck<|ar (rC r) d) (by refine bm▸(E4 i)▸zM▸(bf ..)▸?_;exact e) _ λL x m=>.mk x (yn (sD B B<|vv j) (sO (sb (xG B B (sb B B<|wm B) B<|G (λk=>rS k<|rO E O) (p.g<|s/4).1) (sb B (sb B B AN)<|tF B)<|BH.trans<|J (yg ..) B) <|wG (tA (rZ (tA (rZ (sb B (sb B B AN)<|tS<|bl<|cv _<|af ..)<|rZ (sb B B<|tS a) B) B<|AP.trans<|G (λk=>D<|H k) y) B) B B) (v_<|aa v<|sz B) o sY) m)
   ·exact Fa f
theorem HM(e:sJ E.a)(a:b+h<=64*rM)(d:h<=4999):rW (t+2) false 36 [.b 1,H b,H h] (rO E O)=rS (sk<|tI (ux E.a) b h) (rO E O):=by
 refine HL (t:=t+1) (O:=O) (a':=.rL<|H b) (b2:=.rL<|H h) (u:=4999) (w:=[]) (Y:=.rT) (a4:=.rT) e (ax b h) (by refine(e_ ..)▸?_;exact d) (by refine(e_ ..)▸?_;exact aa (ao<|bt h)<|aa d<|af ..) _ λf x m=>?_;rw[e_]at x;exact t_ B B B<|tt (sN B B B<|BP a)<|zL (BZ<|wX B<|wX B B) B<|zI m<|uJ<|AQ x
end
def yX(b:Nat):Prop:=∃L,L<63/\b=rM+L*rM
structure sA(E:sc)(b3:Nat->Prop)(i:Nat):Prop where
 A:∃u:List Nat,E.e=u.map H/\u.Nodup/\(∀b∈u,¬b3 b/\∃L,L<E.d/\b=rM+L*rM)/\i=63 -E.d+u.length/\E.c.length+u.length=E.d
 x:E.d<=63
 C:(uL E.c).Nodup
 z:∀c k,tc c E.c=D k->∃b:Nat,c=b/\k=H 1/\b3 b/\∃L,L<E.d/\b=rM+L*rM
 y:∀b,b3 b->tc (b:Int) E.c=D (H 1)
section
variable{t k:Nat} {g:Bool} {o:sg} {X:Q} {d:rR}
theorem sA.fF(a1:sA E b3 i)(a:b3 b):yX b:=by
 refine wo (a1.z _ _<|a1.y b a) λa5 e v v c=>?_;exact sh c λL f b2=>(sn L (ar f a1.x)<|(fv e).trans b2)
def yt(t:Nat)(g:Bool)(X:Q)(k:rN)(o:sg)(d:rR):rQ rN:=vs (td t g) g X k o d
theorem HN(a:rU t g e o d=rS z a9)(b:yt t g X z o a9=m):rU t g (.w e X) o d=m:=by
 refine(?_:rQ.aC (rU t g e o d) (λk d=>yt t g X k o d)=m);exact J a b
theorem HO(b:rU t g e o d=rS f a9)(c:tm a9 a z f=D M):yt t g (.p a e .n) z o d=rS (.d M) a9:=by
 show rQ.aC (rU t g e o d) (λv d=>se ((tm d a z v).map rN.d) d)=_;refine J b<|(?_:se _ a9=_);refine J c ?_;rfl
theorem HP(b:rU t g e o d=rS f a9)(c:tm a9 a z f=D true)(i:yt t g (.p h c0 j) f o a9=m):yt t g (.p a e<|.p h c0 j) z o d=m:=by
 show rQ.aC (rU t g e o d) (λv d=>(tm d a z v).bind λn=>si n<|yt t g _ v o d)=m;refine J b<|(?_:(tm a9 a z f).bind (λn=>si n<|yt t g _ f o a9)=m);exact J c i
theorem HQ(a:0<h):uo d .l [H b,H h]=D (.j [H<|b/h,H<|b %h]):=by
 refine(?_:si (!decide ((h:Int)=0)) (D<|rN.j [.i<|(b:Int).fdiv h,.i<|(b:Int).fmod h])=_);refine J (zC a)<|sa (qb ..)<|sa (Int.ofNat_fmod ..) ?_
 rfl
theorem AR(b:rU t a.isSome e o d=rS z a9)(a7:up U true z o=D a3)(i:rY t a a1 a3 a9=q):rY t a (.c (.p U e) a1) o d=q:=by
 show rV.aF (rV.aN (rU t a.isSome e o d) o λk d=>rV.bZ _ d) _=q;refine J b<|(?_:rV.aF (rV.bZ _ a9) _=q);exact J a7 i
theorem HR(b:L<63)(a:0<rM):rW (t+1) g 41 [.b 3,H<|rM+L*rM] (rO E O)=rS (.d true) (rO E O):=have b2:(rM+L*rM -rM) %rM=0:=J (e_ ..) (Nat.mul_mod_left L rM);t_ B B B (AR (tA (rZ (sb B B<|tS<|ax ..) B) B<|HQ a) B<|uJ<|vk<|vP (sD B B<|vu b2)<|wl<|HN B<|HP B (zE<|cc _)<|HO B<|vv<|bb (ao<|J (e_ ..)<|ho _ a) b)
theorem B7(c:0<rM)(a1:sA E b3 i)(a:b3 b):rW (t+2) g 42 [.b 3,H b] (rO E O)=rS (H 1) (rO E O):=by
 have e:=a1.y b a;refine sh (a1.fF a) λL f h=>?_;subst h;exact t_ B B B (tK (vk<|vP (xF B B)<|wl<|xF (sN B B B<|HR f c) B) (uJ (xG B B B B (by
  refine(?_:se (D _) (rO E O)=_);refine J e ?_;rfl))))
theorem B8:rW (t+1) g 46 [.b 3,z,H j] (rO E O)=rS .e (rO E O):=vi B B B<|tK B sY
theorem xq(a1:sA E b3 i):rW (t+1) g 44 [.b 3] (rO E O)=rS (H i) (rO E O):=zo a1.A λu a' v v b2 v=>t_ B B B (uJ (sb (sb B B<|tS a1.x) (tA B B B) (by
  refine(?_:D (H _)=_);refine J a' ?_;rw[a_];exact sa b2 B)))
end
section
variable{b h i L c:Nat} {E:sc} {O:rR} {b3:Nat->Prop} {m:rQ rN} {u:List Nat}
theorem Fc{i:Int}:∀{w:List (Int×a0)},tc i w=none->(un i k w).length=w.length+1
 |[],_=>B
 |(r,z)::q,a=>by
  have a:(if i=r then D z else tc i q)=none:=a;by_cases m:i=r
  ·rw[an m]at a;exact va a
  ·rw[am m]at a;exact ae (G _<|am m)<|G (·+1)<|Fc a
theorem sA.bT(a1:sA E b3 i)(d:¬b3 b):tc (b:Int) E.c=none:=by
 cases m:tc b E.c with
 |none=>rfl
 |some k=>
  exact wo (a1.z _ k m) λa5 e v a v=>absurd (J (fv e) a) d
theorem sA.fL{g:List rN}(j:g=u.map H)(a1:sA E b3 h)(l:¬b3 b)(n:L<c)(e:b=rM+L*rM)(o:E.d<=c)(p:c<=63)(q:u.Nodup)(d:∀a5∈u,a5≠b/\¬b3 a5/\∃L,L<c/\a5=rM+L*rM)(r:i=63 -c+u.length)(s:E.c.length+1+u.length=c): sA ⟨E.b,E.a,c,g,un (b:Int) (H 1) E.c⟩ (λM=>M=b\/b3 M) i where
 A:=A5 u j q (λa5 a=>⟨λf=>f.elim (d a5 a).1 (d a5 a).2.1,(d a5 a).2.2⟩) r (by
  show(un b _ E.c).length+_=c;exact J (Fc<|a1.bT l)<|s)
 x:=p
 C:=BM a1.C
 z M k m:=by
  rw[yS]at m;by_cases f:M=b
  ·rw[an f]at m;exact zn b f ((ak m).symm) (.inl B)<|sn L n e
  ·rw[am f]at m;refine wo (a1.z M k m) λa5 a' b2 a t=>?_;exact sh t λv S w=>(zn a5 a' b2 (.inr a)<|sn v (ar S o) w)
 y M a:=by
  refine ae (yS ..) ?_;by_cases f:(M:Int)=b
  ·exact an f
  ·exact ae (am f)<|a1.y M<|a.resolve_left λm=>f<|G _ m
def B9(E:sc)(O:rR)(b3:Nat->Prop)(i:Nat)(m:rQ rN):Prop:=∀a:Prop,(∀(b:Nat) (p:sc),yX b->¬b3 b->sA p (λc=>c=b\/b3 c) i->p.a=E.a->p.b=E.b->m=rS (H b) (rO p O) ->a) ->a
theorem B9.mk{E:sc}{O:rR}{b3:Nat->Prop}{i:Nat}{m:rQ rN}{b:Nat}(a:yX b)(S:¬b3 b)(d:sA p (λc=>c=b\/b3 c) i)(e:p.a=E.a)(f:p.b=E.b)(g:m=rS (H b) (rO p O)):B9 E O b3 i m:=λ_ i=>i b p a S d e f g
theorem Fd(a1:sA E b3 0):rW (t+3) false 47 [.b 3] (rO E O)=tf 4 (rO E O):=vN B B B<|zy<|sN B B B<|vN B B B<|yF (sD (sN B B B<|xq a1) B<|vv fp) B
theorem B'(a:b<18446744073709551616):(dt b 18446744073709551616||M)=true:=by refine J (show dt b 18446744073709551616=true from nx a) ?_;rfl
theorem Fe{E:sc}(a:tQ E.c.length=true):wO (rO E O) (.b 5) (H b) (H 1)=D (rO ⟨E.b,E.a,E.d,E.e,un (b:Int) (H 1) E.c⟩ O):=G (λM=>(si M _).map λj=>(rO E O).set 5 j) a
theorem Ff(q:0<rM)(a1:sA E b3 (i+1)):B9 E O b3 i (rW (t+3) g 47 [.b 3]<|rO E O):=by
 refine zo a1.A λu a' b2 b6 a2 b8=>?_;have o:=(by exact zo a1.A λu v v v v e=>vc<|aa (ax _ u.length)<|J e<|aa a1.x<|af ..)
 rcases List.eq_nil_or_concat u with f|⟨r,b,f⟩
 ·subst f;have a2:i+1=63 -E.d:=a2;have l:=hy<|ar (bu i)<|ao a2;have d:¬b3 _:=λa=>by
   refine wo (a1.z _ _<|a1.y _ a) λa5 e v v s=>?_;exact sh s λL k c0=>(c_ k<|ny q<|qm<|(fv e).trans c0)
  exact .mk (sn E.d l B) d (a1.fL (c:=E.d+1) a' d (fz _) B (ea _) l .nil (λ_ a=>nomatch a) (by refine J (qp ..)<|sa a2 ?_;rfl)<|G _ b8) B B<|sE (.a _ _<|.d _<|.h false<|.a _ _<|.f<|.f<|.j _<|.a _ _ .e) λf=>f (sE (.a _ _<|.h false .e) λf=>f (xq a1)<|uK<|bu i) (G (λw:List rN=>D<|H w.length) a') (vj<|bg 0) (sE (.d _<|.f .e) λf=>f<|tF<|B'<|bb (bl l)<|af ..) (Fe (E:=⟨E.b,E.a,E.d+1,E.e,E.c⟩) o) B8
 ·subst f;obtain⟨d,L,k,e⟩:=b6 b<|J (rD ..)<|nz _<|.head _;rw[rD]at a' b2 b6 a2 b8;have p:=List.nodup_append.mp b2;rw[bm,<-bf]at a2 b8;have n:=a'.trans<|fg ..;have x:E.e.dropLast=r.map H:=ae (G _ n)<|List.dropLast_concat ..;exact .mk (sn L (ar k a1.x) e) d (a1.fL x d k e (bg _) a1.x p.1 (λa5 a=>⟨p.2.2 a5 a b<|.head _,b6 a5<|n_ _ a⟩) (fm a2)<|by refine ae (dw ..) ?_;exact b8) B B<|sE (.a _ _<|.d _<|.h true<|.p _ _<|.j _<|.a _ _ .e) λf=>f (sE (.a _ _<|.h false .e) λf=>f (xq a1)<|uK<|bu i) (G (λw:List rN=>D<|H w.length) n) (wV<|by refine J bm ?_;exact bu _) (G (λj=>kt j λc=>sv c<|(rO E O).set 4 _)<|ae (G _ n)<|List.getLast?_concat ..) (Fe (E:=⟨E.b,E.a,E.d,E.e.dropLast,E.c⟩) o) B8
end
section
variable{i:Nat} {E:sc} {O:rR} {b3:Nat->Prop}
theorem Fg{i:Int}:∀{w:List (Int×a0)},tc i w=D k->(uH i w).length+1=w.length
 |(r,z)::q,a=>by
  have a:(if i=r then D z else tc i q)=D k:=a;refine(?_:(if i=r then q else _::uH i q).length+1=_);by_cases m:i=r
  ·refine(an m)▸?_;rfl
  ·rw[am m]at a;exact(am m)▸(G _<|Fg a)
theorem sA.jP(a1:sA E b3 i)(e:b3 b):sA ⟨E.b,E.a,E.d,E.e++[H b],uH (b:Int) E.c⟩ (λM=>b3 M/\M≠b) (i+1):=by
 refine zo a1.A λu a' b2 b6 a2 b8=>?_;have g:=a1.y b e;refine wo (a1.z _ _ g) λa5 Y v v h=>?_;refine sh h λL j a4=>?_;refine⟨(A5 _ (by refine J fg<|sa a' ?_;rfl) (List.nodup_append.mpr ⟨b2,List.nodup_cons.mpr ⟨fe,.nil⟩,λc d M l f=>(b6 c d).1<|J (f.trans<|List.mem_singleton.mp l) e⟩) (λc d=>?_) (?_)<|?_),a1.x,BO a1.C,λM k m=>?_,λM a=>?_⟩
 ·rcases List.mem_append.mp d with d|d
  ·exact⟨λf=>(b6 c d).1 f.1,(b6 c d).2⟩
  ·exact⟨λf=>f.2<|List.mem_singleton.mp d,L,j,(List.mem_singleton.mp d).trans<|(fv Y).trans a4⟩
 ·refine J bm<|sa (bf ..)<|sa a2 ?_;rfl
 ·refine ae (G _ bm) ?_;exact ae (az<|bf ..)<|ae (dw ..)<|(G (·+u.length)<|Fg g).trans b8
 ·have m:=(zG a1.C)▸m;by_cases f:M=b
  ·have m:=(an f)▸m;exact sq m
  ·have m:=(am f)▸m;exact wo (a1.z M k m) λc a' b2 a n=>zn c a' b2 ⟨a,λv=>f<|a'.trans<|G _ v⟩ n
 ·exact ae (zG a1.C)<|ae (am λf:(M:Int)=b=>a.2<|fv f)<|a1.y M a.1
def B_(E:sc)(O:rR)(b3:Nat->Prop)(i:Nat)(m:rQ rN):Prop:=∀a:Prop,(∀(p:sc),sA p b3 i->p.a=E.a->p.b=E.b->m=rS (.d true) (rO p O) ->a) ->a
theorem B_.mk{E:sc}{O:rR}{b3:Nat->Prop}{i:Nat}(a:sA p b3 i)(S:p.a=E.a)(b:p.b=E.b)(c:m=rS (.d true) (rO p O)):B_ E O b3 i m:=λ_ i=>i p a S b c
theorem Fh(e:0<rM)(a1:sA E b3 i)(a:b3 b):B_ E O (λM=>b3 M/\M≠b) (i+1) (rW (t+4) g 48 [.b 3,H b]<|rO E O):=by
 have d:=a1.y b a;have u:tQ E.e.length=true:=by
  refine zo a1.A λu a' v v v b8=>J a' ?_;exact ae (G _<|a_ ..)<|vc<|aa (af _ E.c.length)<|aa (ao b8)<|aa a1.x<|af ..
 exact .mk (a1.jP a) B B (t_ B B B (tt (sN B B B<|vi B B B<|tK (sD (sN B B B<|B7 e a1 a) B<|wk<|yd B) sY) (tK (sD (wj B B B<|G (se · _) d) B<|vj<|bg 1) (tt (wj B B B<|G (λj:Option rN=>@eh rN (λ_=>rQ rN) j none λc=>rS c<|rO ⟨E.b,E.a,E.d,E.e,uH b E.c⟩ O) d) <|tt (wj B B B<|G (λM=>si M<|rS .e<|rO ⟨E.b,E.a,E.d,E.e++_,uH b E.c⟩ O) u)<|tt (sN B B B B8)<|uJ B))))
end
abbrev ta:rN:=AG rM rP
section
variable{b:Nat}
theorem uB.dW{a:Nat}(c:uB a t):2^(t.log2+2)=a:=(iw 2 t.log2 2).trans<|(G (·*4) c.i).trans<|(bs t 4).trans c.e
theorem uB.dG{a:Nat}(c:uB a t):0<t:=ar (sz B) c.j
theorem uB.aR{a:Nat}(c:uB a t):0<a:=sa c.e<|oa (af ..) c.dG
theorem uB.cH{a:Nat}(c:uB a t):a<=64:=sa c.e<|bx 4 c.d
theorem yY(a:uc i g W o d=uf V a9):rU i g (.q W) o d=rS (.j V) a9:=by
 refine(?_:rQ.aC (uc i g W o d) (λV d=>sv _ d)=_);refine J a ?_;rfl
theorem Cd(a:rU i g e o d=rS f a9)(c:sP f=D M)(j:rU i g (bif M then c0 else W) o a9=m):rU i g (.s e c0 W) o d=m:=by
 show rQ.aC (rU i g e o d) (λk d=>(sP k).bind λh=>bif h then rU i g c0 o d else rU i g W o d)=_;refine J a<|(?_:((sP f).bind λh=>bif h then rU i g c0 o a9 else rU i g W o a9)=_);refine c▸?_;cases M<;>exact j
theorem yu(f:sR o c=D j)(g:rU i a.isSome e o d=rS z a9)(l:j.tb (h:=λh a5=>si (sK.a h b&&vF a5)<|D<|.sW h<|ut b z a5)=D b9)(R:rY i a a1 (o.set c<|.sl b9) a9=q):rY i a (.c (.i c b e) a1) o d=q:=by
 show rV.aF ((sR o c).bind λj=>rV.aN (rU i a.isSome e o d) o λk d=>rV.aW (j.tb (h:=λh a5=>si _ _)) c o d) (rY i a a1)=q;refine f▸(g▸((?_:rV.aF (rV.aW (j.tb (h:=λh a5=>si _ _)) c o a9) _=q)));exact J l<|R
theorem zP(a:sK.b h=D u)(a8:uR u=D N)(c:sK.e h=true)(e:N.c=true)(f:uA N (.e::V)=D o)(k:rY i (tZ g) N.d (o.set 0<|.sl<|.sW h []) d=ss a3 a9)(l:sR a3 0=D (.sW h a5)):vb (i+1) g h V d=rS (.s h a5) a9:=by
 show(sK.b h).bind (λu=>(uR u).bind λN=>bif sK.e h then si N.c<|(uA N _).bind λo=>(rY i _ N.d _ d).bV else _)=_;refine J a<|(?_:(uR u).bind (λN=>bif sK.e h then si N.c<|(uA N _).bind λo=>(rY i _ N.d _ d).bV else _)=_);refine a8▸(c▸((?_:si N.c ((uA N _).bind λo=>(rY i _ N.d _ d).bV)=_)));refine J e<|J f<|(?_:(rY i _ N.d _ d).bV=_);refine ae (G _ k)<|(?_:(sR a3 0).bind (λj=>j.tb (h:=λh a5=>sv _ a9))=_);refine J l ?_;rfl
theorem Fi(e:2^i=h):tJ .c (H b) (H<|h -1)=D (H<|b %h):=e▸G (λk=>D<|H k) (hn b i)
theorem HS(e:2^i=h):tJ .c (H b) (D_<|h -1)=D (H<|b -b %h):=Ea.trans<|sa e<|G (λk=>D<|H _)<|hn b i
theorem AS(e:2^i=h)(a:i<=1000)(c:b<18446744073709551616):tJ .i (H b) (H i)=D (H<|b*h):=sa e<|yN a c
theorem Ce(e:2^i=h)(a:A<h):tJ .e (H<|b*h) (H A)=D (H<|b*h+A):=ui.trans (G (λk=>D _) (by
 subst e;exact J (bs ..)<|(ka a b).symm))
theorem uB.gJ{c:Nat}(a:uB c t):t.log2+2<=1000:=aa (bv (bl<|ar Nat.lt_two_pow_self<|ao a.i) 2)<|aa (bv a.d 2)<|af ..
theorem HT(a:b<rM*rP*rP):rW (i+1) g 1 [ta,H b] d=rS (.j [H<|b/rM/rP,H<|b/rM %rP,H<|b %rM]) d:=sE (.h true<|.h true<|.d _<|.d _<|.d _<|.d _<|.d _<|.d _ .e) λf=>f (zE<|cc _) (vv a) (wm sf.dW) (wm sf.i) (tS sf.dG) (Fi sf.i) (tS sf.aR)<|Fi sf.dW
theorem AT(a:b<1099511627776):b<18446744073709551616:=ce a<|af ..
theorem HU(a:r<rP)(c:L<rP):rW (i+1) g 2 [ta,H r,H L] d=rS (H<|(r*rP+L)*rM) d:=sE (.d _<|.d _<|.d _<|.d _ .e) λf=>f (AS sf.i (aa (ax _ 2) sf.gJ)<|AT<|ar a<|aa sf.d<|af ..) (Ce sf.i c) (AS sf.dW sf.gJ<|AT<|ar (ci c _)<|aa (ao (cw r rP).symm)<|aa (hp a sf.d)<|aa (cr 16 sf.d)<|af ..)<|Ce sf.dW sf.aR
theorem Fj:rW (i+1) g 3 [ta,H b] d=rS (H<|b -b %rM) d:=sE (.d _<|.d _ .e) λf=>f (tS sf.aR)<|HS sf.dW
def wY(b:Nat):Nat:=(b+rM -1) -(b+rM -1) %rM
theorem zQ:rW (i+2) g 4 [ta,H b] d=rS (H<|wY b) d:=sE (.f<|.d _<|.a _ _ .e) λf=>f (tS<|aa sf.aR<|af ..) Fj
theorem HV(a:b<4294967296)(c:u<1024):rW (i+1) g 6 [ta,H b,H u] d=rS (H<|b/rM*1024+u) d:=sE (.d _<|.d _<|.d _ .e) λf=>f (wm sf.dW) (AS (h:=1024) B (af ..)<|AT<|bb (qr ..)<|ce a<|af ..)<|Ce (i:=10) B c
theorem HW(a:b<4294967296):rW (i+1) g 7 [ta,H b] d=rS (H<|b/1024*rM) d:=sE (.d _<|.d _ .e) λf=>f (wm (h:=1024) B)<|AS sf.dW sf.gJ<|AT<|bb (qr ..)<|ce a<|af ..
theorem Cf:rW (i+1) g 76 [H b] d=rS (.d<|!decide (b&&&10=0)) d:=sE (.f<|.h _ .e) λf=>f wF
theorem HX{h:Nat}{k:Nat}(c:b<=1000000)(a7:k<=1000000)(a:0<h)(e:h<=1000000):uo d .e [.o b k h]=D (.c<|(xT b k h).map H):=by
 rw[(λ_ _ _=>by kernel_rfl:∀b k h:Int,uo d .e [.o b k h]=si (yG b k h&&tQ (wI b k h).length) (D<|.c<|(wI b k h).map .i)),E9 c a7 a e,E' a,a_,show(xT b k h).length=xp b k h from(a_ ..).trans fl,vc<|E7 a7,fj]
 rfl
theorem AU(a:0<h):uo d .c [H b,H k,H h]=D (.o b k h):=G (λM=>si M _)<|zC a
end
noncomputable def wZ(u:Nat)(j:Option Nat):Nat:=@eh Nat (λ_=>Nat) j 0 λn=>n*1024+u
noncomputable def th{a0:Type}(x:Nat->a0)(q:Nat)(j:a0)(l:Nat):a0:=if l=q then j else x l
def xr(t W:Nat)(R d:List (Int×rN)):Prop:=∀i,i/t≠W->tL d i=tL R i
structure sV(X:Nat)(R:List (Int×rN))(x:Nat->Option Nat)(P A:Nat->Nat):Prop where
 C:sJ R
 F:∀q c,x q=D c->0<c/\c<64
 inj:∀q l c,x q=D c->x l=D c->q=l
 Qu:∀q c,x q=D c->q<rP*rP+rP+1
 I:x 0=D X
 Z:∀r,r<rP->tL R (X*rP+r)=wZ 1 (x<|r+1)
 Qs:∀r n,r<rP->x (r+1)=D n->∀L,L<rP->tL R (n*rP+L)=wZ (P<|r*rP+L) (x<|r*rP+L+rP+1)
 Qt:∀r,r<rP->x (r+1)=none->∀L,L<rP->x (r*rP+L+rP+1)=none
 V:∀k s,x (k+rP+1)=D s->P k<256/\P k %2=1
 Y:∀k,x (k+rP+1)=none->P k=0
 Qv:∀k s,x (k+rP+1)=D s->∀L,L<rM->ux R (s*rM+L)=A (k*rM+L)
section
variable{t b c W q:Nat} {R d:List (Int×rN)} {x:Nat->Option Nat} {P:Nat->Nat} {e:Nat->a0} {j:a0} {m:Option Nat}
theorem tC:th e q j q=j:=an B
theorem sZ(a:l≠q):th e q j l=e l:=am a
theorem wa(a:r<t):(W*t+r)/t=W:=by refine J (bs ..) ?_;rw[kb<|bb (cc r) a];exact ae (G _<|kc a)<|qi ..
theorem Cg(a:r<t):(W*t+r) %t=r:=by exact J (bs ..)<|ae (mf ..)<|fi a
theorem we(f:r<t)(a:W≠g):(W*t+r)/t≠g:=λe=>a<|(wa f).symm.trans e
theorem Ch:c/4/rP=c/rM:=(ix c 4 rP).trans<|G _ sf.e
theorem xr.fW(a:xr rP W R d)(f:c/rM≠W):ux d c=ux R c:=G (ud ·<|c %4)<|a _ λe=>f<|(Ch).symm.trans e
theorem zR(f:sJ R)(g:L<t):xr t W R (uT R (W*t+L) k):=λi a=>(xL f.e).trans<|am λe=>a<|(G (·/t) e).trans<|wa g
theorem wP(a:r<t)(k:Nat):r+1≠k+t+1:=λe=>Nat.not_lt.mpr (af t k)<|sa (fm e) a
theorem xU(a:k+t+1=f+t+1):k=f:=rE<|fm a
theorem Ci(f:L<t)(g:h<t)(a:i*t+h=r*t+L):i=r/\h=L:=⟨(wa g).symm.trans<|a▸wa f,(Cg g).symm.trans<|a▸Cg f⟩
theorem HY(a:r<t)(f:L<t):r*t+L<t*t:=ar (ci f _)<|aa (ao (cw r t).symm)<|cr t a
theorem uB.gK{t:Nat}{a:Nat}(f:uB a t)(g:n<64)(h:L<t):n*t+L<16*a:=by
 refine ar (ci h _)<|aa (ao (cw n t).symm) ?_;exact sa f.e<|sa (fo ..)<|cr t g
theorem yv(a:s<64)(f:u<1024):s*1024+u<4294967296:=ce (ar (ci f _)<|aa (ao (cw s 1024).symm)<|cr 1024 a)<|af ..
theorem Ct(h:∀q l c,x q=D c->x l=D c->q=l)(a:∀s,m=D s->∀r,x r=D s->r=q):∀b g c,th x q m b=D c->th x q m g=D c->b=g:=λb g c e c0=>by
 by_cases f:b=q
 ·by_cases a7:g=q
  ·exact f.trans a7.symm
  ·rw[sZ a7]at c0;rw[f,tC]at e;exact f.trans (a c e g c0).symm
 ·rw[sZ f]at e;by_cases a7:g=q
  ·rw[a7,tC]at c0;exact(a c c0 b e).trans a7.symm
  ·rw[sZ a7]at c0;exact h b g c e c0
theorem sV.eS(a:sV X R x P A)(i:∀q,x q≠D W)(l:xr rP W R d)(o:sJ d):sV X d x P A:=⟨o,a.F,a.inj,a.Qu,a.I,λr h=>(l _<|we h λe=>i 0<|sa e a.I).trans<|a.Z r h,λr n h e L g=>(l _<|we g λf=>i _<|sa f e).trans<|a.Qs r n h e L g,a.Qt,a.V,a.Y,λk s e L g=>(l.fW λf=>i _<|sa ((wa g).symm.trans f) e).trans<|a.Qv k s e L g⟩
theorem sV.dV(a:sV X R x P A)(y:r<rP)(i:L<rP)(h:x (r+1)=D n)(S:∀s,m=D s->(0<s/\s<64)/\(u<256/\u %2=1)/\(∀q,x q=D s->q=r*rP+L+rP+1)/\∀c,c<rM->ux R (s*rM+c)=a7 ((r*rP+L)*rM+c))(E:m=none->u=0) (N:∀M,M/rM≠r*rP+L->a7 M=A M):sV X (uT R (n*rP+L)<|wZ u m) (th x (r*rP+L+rP+1) m) (th P (r*rP+L) u) a7:=by
 have O:wZ u m<4294967296:=by
  cases m with
  |none=>exact Nat.zero_lt_succ _
  |some s=>exact yv (S s B).1.2<|ce (S s B).2.1.1<|af ..
 have z:xr rP n R (uT R _<|wZ u m):=zR a.C i;refine⟨a.C.aS (sf.gK ((a.F _ _ h).2) i) O,λq c e=>?_,Ct a.inj λs e=>(S s e).2.2.1,λq c e=>?_,(sZ (gj _).symm).trans a.I,λl g=>?_,λl T g e w o=>?_,λl g e w o=>?_,λk s e=>?_,λk e=>?_,λk s e c p=>?_⟩
 ·by_cases f:q=r*rP+L+rP+1
  ·rw[f,tC]at e;exact(S c e).1
  ·rw[sZ f]at e;exact a.F q c e
 ·by_cases f:q=r*rP+L+rP+1
  ·exact J f<|hc<|i_ (HY y i) rP
  ·rw[sZ f]at e;exact a.Qu q c e
 ·exact J (sZ<|wP g _)<|(z _<|we g λf=>gj r<|a.inj _ _ _ h<|f▸a.I).trans<|a.Z l g
 ·have e:=(sZ<|wP g _)▸e;by_cases f:l*rP+w=r*rP+L
  ·have v:=Ci i o f;have U:=ak<|e.symm.trans<|(G (λr=>x<|r+1) v.1).trans h;exact(az f)▸tC▸tC▸(az U)▸(az v.2)▸((xL a.C.e).trans<|an B)
  ·refine J (sZ f)<|J (sZ λv=>f<|xU v)<|((xL a.C.e).trans<|am λv=>f ?_).trans<|a.Qs l T g e w o;have v:=Ci i o v;exact J (fm<|a.inj _ _ _ e<|v.1▸h)<|G _ v.2
 ·have e:=(sZ<|wP g _)▸e;refine(sZ λv=>?_).trans<|a.Qt l g e w o;have e:=h▸((Ci i o<|xU v).1)▸e;exact va e
 ·by_cases f:k=r*rP+L
  ·rw[f,tC]at e;exact J f<|J tC<|(S s e).2.1
  ·rw[sZ λv=>f<|xU v]at e;exact(sZ f)▸(a.V k s e)
 ·by_cases f:k=r*rP+L
  ·have e:=tC▸f▸e;exact ae (G _ f)<|ae tC<|E e
  ·have e:=(sZ λv=>f<|xU v)▸e;exact ae (sZ f)<|a.Y k e
 ·by_cases f:k=r*rP+L
  ·rw[f,tC]at e;exact J f<|(z.fW<|we p λv=>wP y _<|(S s e).2.2.1 _<|h.trans<|G D v.symm).trans<|(S s e).2.2.2 c p
  ·rw[sZ λv=>f<|xU v]at e;exact((z.fW<|we p λv=>wP y _<|a.inj _ _ _ (h.trans<|G D v.symm) e).trans<|a.Qv k s e c p).trans (N _<|we p f).symm
end
section
variable{b h i:Nat} {P:Nat->Nat}
theorem sV.jD(a:sV X R x P A)(d:r<rP)(w:x (r+1)=none)(p:∀q,x q≠D n)(y:0<n)(t:n<64)(z:∀L,L<rP->tL R (n*rP+L)=0):sV X (uT R (X*rP+r)<|n*1024+1) (th x (r+1)<|D n) P A:=by
 have o:xr rP X R (uT R _<|n*1024+1):=zR a.C d;refine⟨a.C.aS (sf.gK (a.F _ _ a.I).2 d)<|yv t<|af ..,λq c e=>?_,Ct a.inj λs e q c0=>absurd (c0.trans e.symm)<|p q,λq c e=>?_,(sZ (gj _).symm).trans a.I,λg l=>?_,λg E l e m j=>?_,λg l e m j=>?_,λk s e=>?_,λk e=>?_,λk s e c u=>?_⟩
 ·by_cases f:q=r+1
  ·rw[f,tC]at e;exact ak e▸⟨y,t⟩
  ·rw[sZ f]at e;exact a.F q c e
 ·by_cases f:q=r+1
  ·exact J f<|hc<|ar d<|af ..
  ·rw[sZ f]at e;exact a.Qu q c e
 ·by_cases f:g=r
  ·exact(az f)▸tC▸((xL a.C.e).trans<|an B)
  ·exact(sZ λv=>f<|fm v)▸(((xL a.C.e).trans<|am λv=>f<|qm v).trans<|a.Z g l)
 ·refine J (sZ (wP d _).symm) ?_;by_cases f:g=r
  ·rw[f,tC]at e;exact sa (ak e)<|J f<|J (a.Qt r d w m j)<|(o _<|we j λv=>p 0<|a.I.trans<|G D v.symm).trans<|z m j
  ·have e:=(sZ λv=>f<|fm v)▸e;exact(o _<|we j λv=>gj _<|a.inj _ _ _ e<|a.I.trans<|G D v.symm).trans<|a.Qs g E l e m j
 ·by_cases f:g=r
  ·have e:=tC▸f▸e;exact va e
  ·rw[sZ λv=>f<|fm v]at e;exact(sZ (wP d _).symm).trans<|a.Qt g l e m j
 ·rw[sZ (wP d _).symm]at e;exact a.V k s e
 ·rw[sZ (wP d _).symm]at e;exact a.Y k e
 ·have e:=(sZ (wP d _).symm)▸e;exact(o.fW<|we u λv=>(gj _).symm<|a.inj _ _ _ a.I<|e.trans<|G D v).trans<|a.Qv k s e c u
theorem Fk:∀{i b h:Nat},b<256^i->h<256^i->(∀r,r<i->ud b r=ud h r) ->b=h:=by
 intro i;induction i with
 |zero=>
  exact @λb h d f _=>(Nat.lt_one_iff.mp d).trans (Nat.lt_one_iff.mp f).symm
 |succ i g=>
  exact @λb h d f a=>by
   have N:∀c r,ud (c/256) r=ud c (r+1):=λc r=>by
    unfold ud;rw[ix];exact(iy ..)▸((bs ..)▸B)
   have e:=g (er<|bs ..▸d) (er<|bs ..▸f) λr j=>(N b r).trans<|(a (r+1)<|hc j).trans (N h r).symm;exact sa (ec b 256)<|J e<|J ((G (· %256)<|iz b).symm.trans<|(a 0<|bu i).trans<|G (· %256)<|iz h)<|ec h 256
theorem sJ.hZ(a:sJ R)(i:Nat):tL R i<256^4:=(a.g i).2
theorem Fl{W:Nat}(j:sJ R)(k:sJ d)(a:∀c,c/rM≠W->ux d c=ux R c):xr rP W R d:=λi l=>Fk (k.hZ i) (j.hZ i) λr f=>by
 have a2:(i*4+r)/4=i:=wa f;have g:∀R:List _,ux R (i*4+r)=ud (tL R i) r:=λR=>by
  refine(?_:ud _ _=_);exact J a2<|G _<|Cg f
 exact(g d).symm.trans<|(a _ λe=>l<|(G (·/rP) a2).symm.trans<|(Ch).trans e).trans<|g R
theorem Fm(a:L<w.length):tW A b w (b+L)=w.getD L 0:=by
 refine ae (an<|ax b L) ?_;refine(e_ ..)▸(d_ a)▸(fq)▸(az<|d_ a)▸?_
 rfl
theorem yw(a:c<b\/b+w.length<=c):tW A b w c=A c:=by
 by_cases f:b<=c
 ·refine ae (an f) ?_;refine J (ir<|ke<|bh ..▸a.resolve_left (Nat.not_lt.mpr f)) ?_;rfl
 ·exact am f
theorem HZ(d:∀c,c<rM->ux R (s*rM+c)=A (k*rM+c))(a:c<rM):tW (ux R) (s*rM+j) w (s*rM+c)=tW A (k*rM+j) w (k*rM+c):=by
 unfold tW;by_cases f:j<=c
 ·refine ae (an<|bc f _) ?_;refine J (an<|bc f _) ?_;rw[qs,qs];exact G _<|d c a
 ·exact ae (am λv=>f<|rF v)<|(am λv=>f<|rF v)▸(d c a)
theorem AV(g:j+w.length<=rM)(a:c/rM≠k):tW A (k*rM+j) w c=A c:=yw (by
 rcases cm c _ with f|f
 ·exact .inl f
 ·refine .inr<|g_ λv=>a ?_;have d:=ar v<|sa ((bf ..).symm)<|bc g _;refine bk (kd<|aa (ax ..) f) λN e=>?_;rw[e]at d;exact J e<|wa<|qn d)
theorem sV.jE(a:sV X R x P A)(l:x (k+rP+1)=D s)(o:j+w.length<=rM)(p:sJ d)(a7:ux d=tW (ux R) (s*rM+j) w):sV X d x P (tW A (k*rM+j) w):=by
 have q:=Fl a.C p λc g=>(hl a7 c).trans<|AV o g;refine⟨p,a.F,a.inj,a.Qu,a.I,λr m=>(q _<|we m λe=>?_).trans<|a.Z r m,λr n m e L t=>(q _<|we t λf=>?_).trans<|a.Qs r n m e L t,a.Qt,a.V,a.Y,λv M e c g=>?_⟩
 ·exact(gj _).symm<|a.inj _ _ _ a.I<|l.trans<|G D e.symm
 ·exact wP m _<|a.inj _ _ _ e<|l.trans<|G D f.symm
 ·refine ae (hl a7 _) ?_;by_cases f:v=k
  ·rw[f,l]at e;exact sa (ak e)<|J f<|HZ (a.Qv k s l) g
  ·exact J (AV o<|we g f)<|(AV o<|we g λu=>f<|xU<|a.inj _ _ _ e<|l.trans<|G D u.symm).trans<|a.Qv v M e c g
end
def te(a4:Nat->Prop)(b:Nat):Prop:=∃W,b=W*rM/\a4 W
structure sB(X:Nat)(E:sc)(y:Nat->Prop)(i:Nat)(x:Nat->Option Nat)(P A:Nat->Nat):Prop where
 C:sV X E.a x P A
 F:sA E (te λW=>y W\/∃q,x q=D W) i
 I:∀q c,x q=D c->¬y c
structure sG(t:Nat)(y:Nat->Prop)(E p:sc):Prop where
 f:p.b=E.b
 h:∀c,y (c/t) ->tL p.a c=tL E.a c
structure vG(b r L:Nat):Prop where
 d:b<rM*rP*rP
 f:b/rM/rP=r
 g:b/rM %rP=L
 c:r<rP
 a:L<rP
 e:b/rM=r*rP+L
def tU:rN:=.s 10 [(67,.b 1),(68,ta),(69,.b 3)]
def Cv(E:sc)(O:rR)(a4:Nat->Prop)(i:Nat)(m:rQ rN):Prop:=∀a:Prop,(∀(W:Nat) (p:sc),0<W->W<64->¬a4 W->sA p (te λc=>c=W\/a4 c) i->p.a=E.a->p.b=E.b->m=rS (H<|W*rM) (rO p O) ->a) ->a
theorem Cv.mk{W:Nat}(a:0<W)(S:W<64)(b:¬a4 W)(d:sA p (te λc=>c=W\/a4 c) i)(e:p.a=E.a)(f:p.b=E.b)(g:m=rS (H<|W*rM) (rO p O)):Cv E O a4 i m:=λ_ i=>i W p a S b d e f g
section
variable{W:Nat}
theorem sG.aX:sG t y E E:=⟨B,λ_ _=>B⟩
theorem sG.aM(a:sG t y E p)(a3:sG t y p b):sG t y E b:=⟨a3.f.trans a.f,λc m=>(a3.h c m).trans<|a.h c m⟩
theorem sG.aO(a:xr t W E.a p.a)(b:¬y W)(a7:p.b=E.b):sG t y E p:=⟨a7,λc m=>a c λe=>b<|sa e m⟩
theorem Fn(a:b<rM*rP*rP):∃r L,vG b r L:=⟨_,_,a,B,B,er<|er<|fo rM rP rP▸a,cv _ sf.dG,((bs ..)▸ec _ rP).symm⟩
theorem sA.aV(a1:sA E a4 i):sA (E.aV R) a4 i:=⟨a1.A,a1.x,a1.C,a1.z,a1.y⟩
theorem H0(b:0<rM):(λc=>c=W*rM\/te a4 c)=te λc=>c=W\/a4 c:=funext λc=>propext ⟨λa=>a.elim (λe=>sn W e<|.inl B) λ⟨b1,e,a⟩=>sn b1 e<|.inr a,λ⟨b1,e,a⟩=>a.elim (λa=>.inl<|sa a e) λa=>.inr<|sn b1 e a⟩
theorem Cw(a:0<rM)(a1:sA E (te a4) (i+1)):Cv E O a4 i (rW (a6+3) g 47 [.b 3]<|rO E O):=by
 refine Ff (t:=a6) (g:=g) (O:=O) a a1 _ λk l S b c e f d=>sh S λL h j=>?_;subst j;rw[((bh ..).trans (cw L rM).symm)]at b c d;exact .mk (bu L) (hc h) (λm=>b<|sn _ B m) (sa (H0 a) c) e f d
theorem Cx:W*rM=4*(W*rP):=sa sf.e<|Nat.mul_left_comm ..
theorem Fo:W*rM+4*r=4*(W*rP+r):=J (iv ..)<|Cx▸B
theorem yZ(b:sJ E.a)(a:W<64):sJ (vw E.a (W*rP) rP)/\xr rP W E.a (vw E.a (W*rP) rP)/\(∀L,L<rP->tL (vw E.a (W*rP) rP) (W*rP+L)=0)/\rW (a6+3) false 38 [.b 1,H<|W*rM,H rM] (rO E O)=rS .e (rO (E.aV<|vw E.a (W*rP) rP) O):=by
 have d:W*rP+rP<=16*rM:=by
  exact sa sf.e<|sa (fo ..)<|sa (cw ..)<|cr rP a
 obtain⟨S,g⟩:=Hu b d;have f:=Hw (t:=a6) (O:=O) b sf.cH d;rw[sf.e,<-Cx]at f;refine vS S (λc h=>(g c).trans<|am λv=>h ?_) (λL i=>(g _).trans<|an ⟨ax ..,ci i _⟩) f;refine bk (kd v.1) λN e=>?_;rw[e]at v⊢;exact wa<|qn v.2
theorem Fp(a:W<64)(b:r<rP):4*(W*rP+r)+4<=64*rM:=by
 refine aa (ao (gz 4 _).symm)<|aa (bx 4<|sf.gK a b)<|ao ?_;exact sa (fo ..) B
theorem w_(a:sJ E.a)(b:W<64)(c:r<rP):rW (a6+2) g 32 [.b 1,H<|W*rM+4*r] (rO E O)=rS (H<|tL E.a<|W*rP+r) (rO E O):=Fo▸((Hg a B0<|Fp b c).trans<|B1▸B)
theorem zS(a:sJ E.a)(b:W<64)(c:r<rP)(d:k<4294967296):rW (a6+2) g 33 [.b 1,H<|W*rM+4*r,H k] (rO E O)=rS .e (rO (E.aV<|uT E.a (W*rP+r) k) O):=Fo▸((Hi B0 (Fp b c) a sf.cH d).trans<|B1▸B)
theorem Fq(a:rW (a6+3) false 47 [.b 3] (rO E O)=rS (H<|W*rM) (rO p O))(b:W<64)(c:sJ p.a):rW (a6+4) false 21 [tU] (rO E O)=rS (H<|W*rM) (rO (p.aV<|vw p.a (W*rP) rP) O):=sE (.a _ _<|.a _ _ .e) λf=>f a<|(yZ c b).2.2.2
theorem Fs(a1:sA E a4 0):rW (a6+4) false 21 [tU] (rO E O)=tf 4 (rO E O):=sE (.s _ _ .e) λf=>f<|Fd a1
theorem AW(a:vG b r L):rW (a6+2) g 22 [tU,H b] d=rS (.j [H r,H L,H<|b %rM]) d:=sa a.f<|sa a.g<|sE (.a _ _<|.f .e) λf=>f<|HT a.d
end
section
end
section
variable{i r L c n X W q l:Nat} {x:Nat->Option Nat} {P A:Nat->Nat} {y:Nat->Prop} {E p:sc} {O:rR} {m:Mine.rQ rN}
theorem zT(b:u<1024)(a:h<1024):(n*1024+u)&&&h=u&&&h:=by
 have e:((n*1024+u)&&&h) %2^10=(u&&&h) %2^10:=by
  refine ae qt ?_;refine J qt<|J (bs ..) ?_;rw[mf]
 exact(fi<|bb qu a).symm.trans<|e.trans<|fi<|bb qu a
theorem zU(b:u<1024)(a:u %2=1):(n*1024+u)&&&1=1:=(zT b<|af ..).trans<|(qv u).trans a
theorem xs(a:n<64)(b:u<1024):rW (a6+1) g 7 [ta,H<|n*1024+u] d=rS (H<|n*rM) d:=(HW<|yv a b).trans<|G (λc=>rS (H<|c*rM) d)<|wa b
theorem AX(a:n<64)(b:u<1024):rW (a6+1) g 6 [ta,H<|n*rM,H u] d=rS (H<|n*1024+u) d:=(HV (ar (Nat.mul_lt_mul_of_lt_of_le a sf.cH<|af ..)<|af ..) b).trans<|G (λc=>rS (H<|c*1024+u) d)<|ho n sf.aR
theorem sV.eG(b0:sV X R x P A):X<64:=(b0.F _ _ b0.I).2
theorem Cy(b0:sV X E.a x P A)(a:vG b r L)(d:x (r+1)=D n):rW (a6+4) g 23 [tU,H<|X*rM,H b,.d M] (rO E O)=rS (H<|n*rM+4*L) (rO E O):=by
 have v:=b0.Z r a.c;rw[d]at v;exact t_ B B B<|AR (sN B B B<|AW a) B<|sO (sb B (sb B B<|tF B) B)<|sO (sN B B B<|(w_ b0.C b0.eG a.c).trans<|G (λc=>rS _ _) v)<|vW (sD (sb B B B) B<|wk λf=>kf<|(zU (by decide) B).symm.trans f) (tK (vh B<|Cf.trans<|G (λc=>rS (.d<|!decide (c=0))<|rO E O)<|zT (by decide)<|sz B) sY)<|uJ<|sb (sN B B B<|xs ((b0.F _ _ d).2)<|by decide) (sb B B<|tF B) B
theorem H1(b0:sV X E.a x P A)(a:vG b r L)(d:x (r+1)=none):rW (a6+4) g 23 [tU,H<|X*rM,H b,.d false] (rO E O)=rS .e (rO E O):=by
 have v:=b0.Z r a.c;rw[d]at v;exact t_ B B B<|AR (sN B B B<|AW a) B<|sO (sb B (sb B B<|tF B) B)<|sO (sN B B B<|(w_ b0.C b0.eG a.c).trans<|G (λc=>rS _ _) v)<|AE (M:=true) (sD (sb B B B) B B)<|AE (M:=true) B<|uJ B
def Cz(X:Nat)(E:sc)(O:rR)(y:Nat->Prop)(i:Nat)(P A:Nat->Nat)(r L:Nat)(m:Mine.rQ rN):Prop:=∀a:Prop,(∀(n R:Nat) (b0:Nat->Option Nat) (p:sc),sB X p y R b0 P A->b0 (r+1)=D n->i<=R+1->R<=i->sG rP y E p->m=rS (H<|n*rM+4*L) (rO p O) ->a) ->(i=0->m=tf 4 (rO E O) ->a) ->a
theorem Cz.aJ{X:Nat}{E:sc}{O:rR}{y:Nat->Prop}{i:Nat}{A:Nat->Nat}{r:Nat}{L:Nat}{m:Mine.rQ rN}{n:Nat}{p:sc}{P:Nat->Nat}(a:sB X p y R b0 P A)(S:b0 (r+1)=D n)(b:i<=R+1)(d:R<=i)(e:sG rP y E p)(f:m=rS (H<|n*rM+4*L) (rO p O)):Cz X E O y i P A r L m:=λ_ i _=>i n R b0 p a S b d e f
theorem Ft(a:x q=none):(λc=>c=W\/(y c\/∃l,x l=D c))=λc=>y c\/∃l,th x q (D W) l=D c:=funext λc=>propext ⟨λf=>f.elim (λe=>.inr ⟨q,e▸tC⟩) λf=>f.imp_right λ⟨l,e⟩=>⟨l,(sZ λv=>by have e:=a▸v▸e;exact sq e).trans e⟩,λf=>f.elim (λf=>.inr<|.inl f) λ⟨l,e⟩=>by
   by_cases v:l=q
   ·rw[v,tC]at e;exact .inl (ak e).symm
   ·rw[sZ v]at e;exact .inr<|.inr ⟨l,e⟩⟩
theorem Fu(a:∀l c,x l=D c->¬y c)(b:¬y W):∀l c,th x q (D W) l=D c->¬y c:=λl c e=>by
 by_cases v:l=q
 ·rw[v,tC]at e;exact sa (ak e) b
 ·rw[sZ v]at e;exact a l c e
theorem H2(d:sB X E y i x P A)(a:vG b r L):Cz X E O y i P A r L (rW (a6+5) false 23 [tU,H<|X*rM,H b,.d true]<|rO E O):=by
 cases h:x _ with
 |some n=>exact .aJ d h (ea i) (bg i) .aX<|Cy d.C a h
 |none=>
  have v:=d.C.Z r a.c;have v:=h▸v;cases i with
  |zero=>exactλ_ _ i=>i B<|sE (.a _ _<|.d _<|.f<|.a _ _<|.f<|.f<|.s _ _ .e) λf=>f (AW a) (tF B) ((w_ d.C.C d.C.eG a.c).trans<|G (λc=>rS _ _) v)<|Fs d.F
  |succ i=>
   refine Cw (a6:=a6) (g:=false) (O:=O) sf.aR d.F _ λW p u g j a1 a' b2 w=>?_;have a9:=d.C.C;have o:=d.C;rw[<-a']at a9 o;obtain⟨k,s,z,_⟩:=yZ (a6:=0) (O:=[]) a9 g;have t:=λq e=>j<|.inr ⟨q,e⟩;exact .aJ (p:=p.aV<|uT _ _<|W*1024+1) ⟨(o.eS t s k).jD a.c h t u g z,(Ft h▸a1).aV,Fu d.I λf=>j<|.inl f⟩ tC (bg _) (ea _) (.aM (.aO (p:=p.aV<|vw p.a _ rP) (sa a' s) (λf=>j<|.inl f) b2)<|.aO (zR (k:=W*1024+1) k a.c) (d.I 0 _ d.C.I) B)<|sE (.a _ _<|.d _<|.f<|.a _ _<|.f<|.f<|.a _ _<|.a _ _<|.a _ _<|.a _ _<|.d _<|.f .e) λf=>f (AW a) (tF B) ((w_ d.C.C d.C.eG a.c).trans<|G (λc=>rS _ _) v) (Fq w g a9) (AX g<|by decide) (zS k d.C.eG a.c<|yv g<|by decide) (xs g<|by decide)<|tF B
end
section
theorem H3(a:d[q]?=D (.sW h a5))(c:tV b a5=D z):xK d (.b q) b=D z:=by
 refine(?_:((d[q]?).bind λj=>j.tb (h:=λh a5=>D (h,a5))).bind (λm=>tV b m.2)=_);exact J a c
theorem xt(a:um o c=D (.b q))(e:d[q]?=D (.sW h a5))(f:tV b a5=D z):rU i g (.aD (.a c) b) o d=rS z d:=wS (G (se · d) a) B<|G (se · d)<|H3 e f
theorem Fv(a:d[q]?=D (.sW h a5))(b:sK.c h A=D u):zA d (.b q) A=D u:=by
 refine(?_:((d[q]?).bind λj=>j.tb (h:=λh a5=>D (h,a5))).bind (λm=>sK.c m.1 A)=_);exact J a b
theorem ur(a:um o c=D (.b q))(b:d[q]?=D (.sW h a5))(e:sK.c h A=D u)(j:uc i g W o d=uf V a9)(k:rW i g u (.b q::V) a9=f):rU i g (.f A (.a c) W) o d=f:=sN (G (se · d) a) (Fv b e) j k
theorem ua(a:um o c=D (.b q))(e:d[q]?=D (.sW h a5))(j:tV b a5=D z)(k:zA d z A=D u)(l:uc i g W o d=uf V a9)(m:rW i g u (z::V) a9=f):rU i g (.f A (.aD (.a c) b) W) o d=f:=sN (xt a e j) k l m
theorem wv(a:um o c=D (.b q))(e:d[q]?=D (.sW h a5))(f:tV b a5=D z)(j:xK d z A=D k):rU i g (.aD (.aD (.a c) b) A) o d=rS k d:=wS (xt a e f) B<|G (se · d) j
theorem zV(a:rU i a8.isSome n o d=rS k a9)(c:sP k=D false)(R:rY i a8 a1 o a9=m):rY i a8 (.c (.b n b .n) a1) o d=m:=by
 show rV.aF (rV.aN (rU i a8.isSome n o d) o λk d=>(sP k).bind λh=>bif h then rY i a8 b o d else rY i a8 .n o d) (rY i a8 a1)=m;refine J a<|(?_:rV.aF ((sP k).bind λh=>bif h then rY i a8 b o a9 else rY i a8 .n o a9) _=m);exact J c<|R
end
abbrev sj(X b5:Nat):sC:=.sW 14 [(69,.b 3),(68,ta),(67,.b 1),(85,tU),(86,H<|X*rM),(63,H b5)]
section
variable{b b5:Nat} {P:Nat->Nat}
theorem CA(c:(rO E O)[q]?=D (sj X b5))(d:b<rM*rP*rP)(a:rW (a6+4) (tZ g).isSome 23 [tU,H<|X*rM,H b,.d false] (rO E O)=rS z (rO E O)):rW (a6+5) g 51 [.b q,H b] (rO E O)=rS z (rO E O):=sE (.h true<|.i _<|.h true<|.i _<|.i _<|.a _ _ .e) λf=>f (zE<|cc _) c (vv d) c c a
theorem y_(b0:sV X E.a x P A)(c:(rO E O)[q]?=D (sj X b5))(a:vG b r L):rW (a6+6) g 52 [.b q,H b] (rO E O)=rS (H<|wZ (P<|r*rP+L)<|x<|r*rP+L+rP+1) (rO E O):=by
 cases d:x (r+1)with
 |none=>exact t_ B B B<|sO (ur B c B B<|CA c a.d<|H1 b0 a d)<|uJ<|Cd B B<|G (λj=>rS (H<|wZ _ j)<|rO E O) (b0.Qt r a.c d L a.a).symm
 |some n=>exact sE (.i _<|.a _ _<|.f<|.i _<|.a _ _ .e) λf=>f c (CA c a.d<|Cy b0 a d) c<|(w_ b0.C (b0.F _ _ d).2 a.a).trans<|G (λv=>rS _ _)<|b0.Qs r n a.c d L a.a
theorem sV.dY(b0:sV X R x P A)(k:Nat):P k<256:=by
 cases e:x _ with
 |none=>refine J (b0.Y k e) ?_;decide
 |some s=>exact(b0.V k s e).1
theorem sV.bC(b0:sV X R x P A)(a:h<1024)(k:Nat):wZ (P k) (x<|k+rP+1)&&&h=P k&&&h:=by
 cases e:x _ with
 |none=>refine J (b0.Y k e) ?_;rfl
 |some s=>exact zT (ce (b0.dY k)<|af ..) a
theorem CC(b0:sV X E.a x P A)(c:(rO E O)[q]?=D (sj X b5))(a:vG b r L):rW (a6+7) g 53 [.b q,H b] (rO E O)=rS (.d<|!decide (P (r*rP+L)&&&1=0)) (rO E O):=sa (b0.bC (h:=1) (af ..) _)<|sE (.i _<|.a _ _<|.f<|.h _ .e) λf=>f c (y_ b0 c a) wF
theorem Fw(b0:sV X E.a x P A)(c:(rO E O)[q]?=D (sj X b5))(a:vG b r L)(d:17|||h<1024)(e:P (r*rP+L)&&&256=0):rW (a6+7) g 62 [.b q,H b,H h] (rO E O)=rS (.d<|decide<|P (r*rP+L)&&&(17|||h)=17|||h) (rO E O):=sa (b0.bC d _)<|t_ B B B<|sO (ur B c B B<|y_ b0 c a)<|zV (sb B B B) (G (λv=>sP<|H v)<|(b0.bC (sz B) _).trans e)<|uJ<|sD (sb B (sb (sb B B ui) B ui) B) (sb (sb B B ui) B ui) zD
end
def AY(A:Nat->Nat)(k c:Nat):Nat:=if c/rM=k then 0 else A c
def zW(X:Nat)(E:sc)(O:rR)(y:Nat->Prop)(i:Nat)(P A:Nat->Nat)(k u:Nat)(m:Mine.rQ rN):Prop:=∀a:Prop,(∀(R:Nat) (b0:Nat->Option Nat) (p:sc),sB X p y R b0 (th P k u) (AY A k) ->i<=R+2->R+1<=i->sG rP y E p->m=rS .e (rO p O) ->a) ->(∀(R:Nat) (b0:Nat->Option Nat) (p:sc),sB X p y R b0 P A->i<2->sG rP y E p->m=tf 4 (rO p O) ->a) ->a
theorem zW.aJ{P:Nat->Nat}(a:sB X p y R b0 (th P k u) (AY A k))(S:i<=R+2)(b:R+1<=i)(c:sG rP y E p)(d:m=rS .e (rO p O)):zW X E O y i P A k u m:=λ_ i _=>i R b0 p a S b c d
theorem zW.aI{P:Nat->Nat}(a:sB X p y R b0 P A)(S:i<2)(b:sG rP y E p)(c:m=tf 4 (rO p O)):zW X E O y i P A k u m:=λ_ _ i=>i R b0 p a S b c
section
variable{W b5:Nat} {P:Nat->Nat}
theorem H4(a:∀L,L<rP->tL R (W*rP+L)=0)(b:c<rM):ux R (W*rM+c)=0:=by
 have e:(W*rM+c)/4=W*rP+c/4:=by refine J Cx ?_;rw[kb<|sz B]
 unfold ux;exact J e<|J (a _<|er<|sf.e▸b)<|G (· %256)<|qj _
theorem H5(a:O[j]?=D (sj X b5))(S:rW (a6+5) false 23 [tU,H<|X*rM,H b,.d true] (rO E O)=rS (H<|n*rM+4*L) (rO d O))(i:sJ d.a)(f:n<64)(g:L<rP)(v:tL d.a (n*rP+L)=0) (k:rW (a6+5) false 47 [.b 3] (rO d O)=rS (H<|W*rM) (rO c O))(l:sJ c.a)(e:W<64)(m:sJ (vw c.a (W*rP) rP))(h:u|||1<1024): rW (a6+6) false 55 [.b<|j+6,H b,H u] (rO E O)=rS .e (rO (c.aV<|uT (vw c.a (W*rP) rP) (n*rP+L)<|W*1024+(u|||1)) O):=vi B B B (sO (ua B a B B (rZ (xt B a B) B) S) (zV (sb (ua B a B B B<|w_ i f g) B B) (G (λv=>sP<|H<|v&&&1) v) (sO (ua B a B B B k) (tt (ua B a B B (rZ B<|rZ (wv B a B B) B) (yZ l e).2.2.2) <|tt (ua B a B B (rZ B<|rZ (ua B a B B (rZ B<|rZ (sb B B ui) B)<|AX e h) B)<|zS m f g<|yv e h) sY))))
theorem sV.aK(b0:sV X R x P A)(a:P k=0):x (k+rP+1)=none:=by
 cases e:x _ with
 |none=>rfl
 |some s=>exact absurd ((G (· %2) a).symm.trans (b0.V k s e).2)<|yd B
theorem H6(a:O[j]?=D (sj X b5))(S:rW (a6+5) false 23 [tU,H<|X*rM,H b,.d true] (rO E O)=rS (H<|n*rM+4*L) (rO c O))(d:sJ c.a)(e:n<64)(f:L<rP)(v:tL c.a (n*rP+L)=0) (a1:sA c a4 0):rW (a6+6) false 55 [.b<|j+6,H b,H u] (rO E O)=tf 4 (rO c O):=vN B B B<|sO (ua B a B B (rZ (xt B a B) B) S)<|zV (sb (ua B a B B B<|w_ d e f) B B) (G (λv=>sP<|H<|v&&&1) v)<|AD<|ua B a B B B<|Fd a1
theorem sB.fL(a:sB X E y i x P A)(l:r<rP)(m:L<rP)(o:x (r+1)=D n)(p:x (r*rP+L+rP+1)=none)(t:0<W)(d:W<64)(g:¬(y W\/∃q,x q=D W))(a1:sA b (te λc=>c=W\/(y c\/∃q,x q=D c)) h)(a':b.a=E.a)(w:u<256/\u %2=1): sB X (b.aV<|uT (vw b.a (W*rP) rP) (n*rP+L)<|W*1024+u) y h (th x (r*rP+L+rP+1)<|D W) (th P (r*rP+L) u) (AY A<|r*rP+L):=by
 have a9:=a.C.C;have b0:=a.C;rw[<-a']at a9 b0;refine Cc (yZ (a6:=0) (O:=[]) a9 d) λz N O v=>?_;have j:=λq e=>g<|.inr ⟨q,e⟩;exact⟨(b0.eS j N z).dV l m o (m:=D W) (λs e=>sa (ak e)<|vS ⟨t,d⟩ w (λq f=>absurd f<|j q)<|λc k=>(H4 O k).trans (an<|wa k).symm) (λe=>va e) λM R=>am R,(Ft p▸a1).aV,Fu a.I λf=>g<|.inl f⟩
theorem CD(h:sB X E y i x P A)(d:O[j]?=D (sj X b5))(a:vG b r L)(z:P (r*rP+L)=0)(k:u|||1<256/\(u|||1) %2=1):zW X E O y i P A (r*rP+L) (u|||1) (rW (a6+6) false 55 [.b<|j+6,H b,H u]<|rO E O):=by
 refine H2 (a6:=a6) (O:=O) h a _ (λn l Y a0 c e o M p m=>?_) λS N=>?_
 ·have q:=c.C.aK z;have v:=c.C.Qs r n a.c e L a.a;have v:=q▸v;have V:=(c.C.F _ _ e).2;cases l with
  |zero=>exact .aI c (ja o) p<|H6 d m c.C.C V a.a v c.F
  |succ l=>
   refine Cw (a6:=a6+2) (g:=false) (O:=O) sf.aR c.F _ λW s R g t a1 a' b2 T=>?_;have a9:=a'▸c.C.C;obtain⟨w,U,a2,_⟩:=yZ (a6:=0) (O:=[]) a9 g;exact .aJ (c.fL a.c a.a e q R g t a1 a' k) o M (.aM p<|.aM (.aO (p:=s.aV<|vw s.a _ rP) (sa a' U) (λf=>t<|.inl f) b2)<|.aO (zR w a.a) (c.I _ n e) B) <|H5 d m c.C.C V a.a v T a9 g w<|ce k.1<|af ..
 ·exact .aI h (J S<|Nat.zero_lt_succ 1) .aX<|sE (.i _<|.i _<|.s _ _ .e) λf=>f d d N
end
section
theorem H7(a:rU t g e o d=rS k a9)(b:sP k=D (!h))(i:vY t g h (.c c0 W) o a9=m):vY t g h (.c e<|.c c0 W) o d=m:=by
 show rQ.aC (rU t g e o d) (λk d=>(sP k).bind λM=>bif M==h then sv k d else vY t g h _ o d)=m;refine J a<|(?_:((sP k).bind λM=>bif M==h then sv k a9 else vY t g h _ o a9)=m);refine b▸?_;cases h<;>exact i
theorem H8(a:rU t g e o d=rS k a9)(b:sP k=D h):vY t g h (.c e<|.c c0 W) o d=rS k a9:=by
 show rQ.aC (rU t g e o d) (λk d=>(sP k).bind λM=>bif M==h then sv k d else vY t g h _ o d)=_;refine J a<|(?_:((sP k).bind λM=>bif M==h then sv k a9 else vY t g h _ o a9)=_);refine b▸?_;cases h<;>rfl
end
section
variable{b i r L s n X a6 b5 j:Nat} {g:Bool} {x:Nat->Option Nat} {P A:Nat->Nat} {y:Nat->Prop} {E p:sc} {O:rR} {m:Mine.rQ rN}
theorem CE(a:c<256):c|||1<256/\(c|||1) %2=1:=⟨Nat.or_lt_two_pow (n:=8) a<|af ..,(Nat.or_mod_two_pow (n:=1)).trans (by
 rcases Nat.mod_two_eq_zero_or_one c with e|e<;>· rw[show c %2^1=c %2 from B,e];rfl)⟩
theorem Fx{x:Nat->a0}{m:a0}(a:x q=m):th x q m=x:=funext λl=>by
 by_cases e:l=q
 ·exact J e<|ae tC<|a▸B
 ·exact sZ e
theorem sB.hR(a:sB X E y i x P A)(d:r<rP)(h:L<rP)(k:x (r+1)=D n)(c:x (r*rP+L+rP+1)=D s)(l:u<256/\u %2=1):sB X (E.aV<|uT E.a (n*rP+L)<|s*1024+u) y i x (th P (r*rP+L) u) A:=by
 have b0:=a.C.dV d h k (u:=u) (λM e=>sa (ak e)<|vS (a.C.F _ _ c) l (λq f=>a.C.inj _ _ _ f c)<|a.C.Qv _ _ c) (λe=>va e) λ_ _=>B;rw[Fx c]at b0;exact⟨b0,a.F.aV,a.I⟩
theorem sB.gI(a:sB X E y i x P A)(d:L<rP)(e:x (r+1)=D n):sG rP y E (E.aV<|uT E.a (n*rP+L) c):=.aO (zR a.C.C d) (a.I _ n e) B
theorem sB.hS(c:sB X E y i x P A)(a:x q=D s):te (λW=>y W\/∃q,x q=D W) (s*rM):=sn s B<|.inr ⟨q,a⟩
def zX(X:Nat)(E:sc)(O:rR)(y:Nat->Prop)(i:Nat)(x:Nat->Option Nat)(P A:Nat->Nat)(m:Mine.rQ rN):Prop:=∀a:Prop,(∀(p:sc),sB X p y i x P A->sG rP y E p->m=rS .e (rO p O) ->a) ->a
theorem zX.mk{X:Nat}{E:sc}{O:rR}{y:Nat->Prop}{i:Nat}{x:Nat->Option Nat}{A:Nat->Nat}{m:Mine.rQ rN}{p:sc}{P:Nat->Nat}(a:sB X p y i x P A)(S:sG rP y E p)(c:m=rS .e (rO p O)):zX X E O y i x P A m:=λ_ i=>i p a S c
def H9(E:sc)(O:rR)(j a6 b:Nat)(g:Bool)(x:Nat->Option Nat)(P:Nat->Nat)(r L:Nat):Prop:=∀a:Prop,(∀(n s:Nat),x (r+1)=D n->x (r*rP+L+rP+1)=D s->n<64->s<64->rW (a6+5) g 51 [.b<|j+6,H b] (rO E O)=rS (H<|n*rM+4*L) (rO E O) ->rW (a6+5) g 32 [.b 1,H<|n*rM+4*L] (rO E O)=rS (H<|s*1024+P (r*rP+L)) (rO E O) ->a) ->a
theorem sV.gM(b0:sV X E.a x P A)(f:O[j]?=D (sj X b5))(a:vG b r L)(h:P (r*rP+L)≠0):H9 E O j a6 b g x P r L:=by
 cases d:x _ with
 |none=>exact absurd (b0.Y _ d) h
 |some s=>
  cases c:x _ with
  |none=>exact absurd ((b0.Qt r a.c c L a.a).symm.trans d) (by intro e;exact sq e)
  |some n=>
   have v:=b0.Qs r n a.c c L a.a;rw[d]at v;exactλ_ i=>i n s c d ((b0.F _ _ c).2) ((b0.F _ _ d).2) (CA f a.d<|Cy b0 a c)<|(w_ b0.C (b0.F _ _ c).2 a.a).trans<|G (λv=>rS _ _) v
theorem H'(d:O[j]?=D (sj X b5))(T:um o 0=D (.b<|j+6))(b2:um o 2=D (H u))(a2:um o 4=D (H b))(e:rW a6 g 42 [.b 3,H b] (rO E O)=rS (H 1) (rO E O)):∃z,rU a6 g (.bC<|.c (.aB .c (.a 2)<|.l 87<|H 4)<|.c (.aG .d (.f 17 (.aD (.a 0) 69)<|.c (.a 4) .n)<|.d<|H 1) .n) o (rO E O)=rS z (rO E O)/\sP z=D false:=by
 have a:rU a6 g (.a 2) o _=rS (H u) (rO E O):=G (se · _) b2;by_cases f:u&&&4=0
 ·have f:sP _=D false:=G (λc=>sP<|H c) f;exact sn _ (vk<|H8 (sb a B B) f) f
 ·exact sn _ (vk<|H7 (sb a B B) (G (λc=>D<|!c)<|cd λv=>f<|fv v)<|wl<|sD (ua T d B B (rZ (G (se · _) a2) B) e) B<|vj<|bg 1) B
theorem H_(d:O[j]?=D (sj X b5))(S:rW (a6+5) (tZ g).isSome 51 [.b<|j+6,H b] (rO E O)=rS (H<|n*rM+4*L) (rO E O))(h:rW (a6+5) (tZ g).isSome 32 [.b 1,H<|n*rM+4*L] (rO E O)=rS (H<|s*1024+c) (rO E O))(k:c<1024)(o:c %2=1) (q:rW (a6+5) (tZ g).isSome 42 [.b 3,H<|s*rM] (rO E O)=rS (H 1) (rO E O))(a9:sJ E.a)(t:n<64)(v:L<rP)(e:s<64)(l:u|||1<1024): rW (a6+6) g 57 [.b<|j+6,H b,H u] (rO E O)=rS .e (rO (E.aV<|uT E.a (n*rP+L)<|s*1024+(u|||1)) O):=(H' d B B B q).elim λz a=>vi B B B (sO (ur B d B B S) (tK (vk<|vP (sD B B B)<|wl<|sD (sb (ua B d B B B h) B B) B<|wk λf=>kf<|(zU k o).symm.trans f) (sO (ua B d B B (rZ (ua B d B B B h) B)<|xs e k) <|zV a.1 a.2<|tt (ua B d B B (rZ B<|rZ (ua B d B B (rZ B<|rZ (sb B B ui) B)<|AX e l) B)<|zS a9 t v<|yv e l) sY)))
theorem Fy(c:sB X E y i x P A)(e:O[j]?=D (sj X b5))(a:vG b r L)(k:P (r*rP+L)≠0)(f:u<256):zX X E O y i x (th P (r*rP+L)<|u|||1) A (rW (a6+6) g 57 [.b<|j+6,H b,H u]<|rO E O):=c.C.gM e a k _ λt v h d l o S q=>(.mk (c.hR a.c a.a h d<|CE f) (c.gI a.a h)<|H_ e S q (ce (c.C.dY _)<|by decide) (c.C.V _ _ d).2 (B7 sf.aR c.F<|c.hS d) c.C.C l a.a o<|ce (CE f).1<|by decide)
theorem Ia(d:sB X E y i x P A)(e:O[j]?=D (sj X b5))(a:vG b r L)(h:P (r*rP+L)≠0):zX X E O y i x (th P (r*rP+L)<|(P (r*rP+L)&&&14)|||1) A (rW (a6+7) g 58 [.b<|j+6,H b]<|rO E O):=by
 have l:P (r*rP+L)&&&1=1:=by
  cases k:x _ with
  |none=>exact absurd (d.C.Y _ k) h
  |some s=>exact(qv _).trans (d.C.V _ _ k).2
 exact Fy d e a h (bb Nat.and_le_left<|d.C.dY _) _ λt o q m=>(.mk o q<|sE (.i _<|.a _ _<|.f<|.h false<|.i _<|.d _<|.a _ _ .e) λf=>f e (y_ d.C e a) (wk λf=>kf<|l.symm.trans<|(d.C.bC (af ..) _).symm.trans f) e (G (λc=>D<|H c)<|d.C.bC (af ..) _) m)
theorem Fz(a:c<256):(s*1024+c)&&&1023=c:=(hn _ 10).trans<|by exact J (bs ..)<|ae (mf ..)<|fi<|ce a<|af ..
theorem Ib(d:sB X E y i x P A)(e:O[j]?=D (sj X b5))(a:vG b r L)(t:P (r*rP+L)≠0)(u:P (r*rP+L)&&&256=0):zX X E O y i x P A (rW (a6+6) false 61 [.b<|j+6,H b]<|rO E O):=by
 refine d.C.gM (a6:=a6) (g:=false) e a t _ λn s l f v h S w=>?_;have o:=d.C.dY<|r*rP+L;have k:P _<1024:=ce o<|sz B;have q:=d.hR a.c a.a l f<|d.C.V _ _ f;rw[Fx B]at q;exact .mk q (d.gI a.a l) (vi B B B (sO (ur B e B B S) (sO (ua B e B B B w) (zL (wX (ua B e B B B<|xs h k)<|wX (sb B B<|G (λc=>D<|H c)<|Fz o) B) B <|tK (sD (ua B e B B B<|B7 sf.aR d.F<|d.hS f) B<|vj<|bg 1)<|zV (sb B B B) (G (λc=>sP<|H c) u)<|tt (ua B e B B (rZ B<|rZ (ua B e B B B<|AX h k) B)<|zS d.C.C v a.a<|yv h k) sY))))
end
noncomputable def tX{a0:Type}(v:Nat->List a0):Nat->Nat->List a0
 |0,_=>[]
 |h+1,k=>v k++tX v h (k+1)
theorem FA{a0:Type}{v:Nat->List a0}{h k:Nat}:tX v (h+1) k=v k++tX v h (k+1):=B
def AZ(c:Nat)(w:List rN)(d:rR)(m:rV):Prop:=∀a:Prop,(∀(o:sg),sR o c=D (.sr w) ->m=ss o d->a) ->a
theorem AZ.mk(a:sR o c=D (.sr w))(S:m=ss o d):AZ c w d m:=λ_ i=>i o a S
section
variable{a0:Type} {v:Nat->List a0} {u:a0->b1} {c b b7 b5 i:Nat} {w:List rN} {d:rR} {o:sg} {m:rV} {U:List Nat} {E:Bool} {g:sp} {a:tu} {f:Nat->List rN}
theorem Ic:∀{b h k:Nat},tX v (b+h) k=tX v b k++tX v h (k+b):=by
 intro b;induction b with
 |zero=>
  exact @λh k=>by refine J (bt ..) ?_;rfl
 |succ b e=>
  exact @λh k=>by
   refine J (ed ..)<|(?_:v k++tX v _ _=(v k++tX v b _)++tX v h _);refine ae (G _ e) ?_;rw[cp];refine J (ed k b) ?_;rfl
theorem Ie(e:∀k,(v k).length<=b5):∀{h k:Nat},(tX v h k).length<=h*b5:=by
 intro h;induction h with
 |zero=>
  exact @λ_=>cc _
 |succ h j=>
  exact @λk=>aa (ao bm)<|aa (cu (e k)<|j)<|ao<|(bh ..).trans (cw h b5).symm
theorem zY(a:w.length<=1000000):xO z (.sr w)=D (.sr<|w++[z]):=G (λg=>si g _)<|vc a
theorem xV(R:rY i a a1 (o.set c<|.sl<|xM x) d=m):rY i a (.c (.o c x) a1) o d=m:=R
theorem A0(e:sR o c=D j)(h:vr j=D z):rY i a (.c (.s c) a1) o d=vt z o d:=by
 show rV.aF ((sR o c).bind λj=>(vr j).bind λk=>D _) (rY i a a1)=_;refine J e<|(?_:rV.aF ((vr j).bind λk=>D _) _=_);refine J h ?_;rfl
def A1(m:rV)(o:sg)(d:rR):Prop:=∀u,rV.bM m u=u o d
theorem A1.fC(e:m=ss o d):A1 m o d:=λ_=>e▸B
theorem A2{p:Type}{a2:p->List rN->sg}(e:∀l w,sR (a2 l w) c=D (.sr w))(j:∀L,(f L).length<=b5)(k:∀L l w,L<b7->w.length+b5<=1000000->∃Y,A1 ((up U E (H L)<|a2 l w).bind λo=>rY i a g o d) (a2 Y<|w++f L) d): ∀{h L:Nat} {l:p} {w:List rN},L+h=b7->w.length+h*b5<=1000000->AZ c (w++tX f h L) d (ti i a U E g ((eb L h).map H) (a2 l w) d)
 |0,_,l,w,_,_=>.mk ((e l w).trans<|G (λw=>D _) (dh w).symm) B
 |h+1,L,l,w,n,q=>
  (k L l w (sa n<|cz<|bu h)<|aa (bc (aa (af ..)<|ao (cw h b5).symm) _) q).elim λY r=>(A2 e j k ((ed L h).trans n)<|aa (bv (aa (ao bm)<|bc (j L) _) _)<|aa (ao<|(bf ..).trans<|G _<|(bh ..).trans (cw h b5).symm) q) _ λ_ S s=>.mk (sa (cp w _ _) S)<|(r _).trans s
end
def xu(x:Nat->Option Nat)(P:Nat->Nat)(k:Nat):List rN:=((x<|k+rP+1).map λs=>rN.j [H<|k*rM,H<|s*rM,H<|P k,H rM]).toList
theorem zZ{a0:Type}{j:Option a0}:j.toList.length<=1:=by
 cases j
 ·exact cc 1
 ·exact bg 1
section
variable{P:Nat->Nat}
theorem If(b:rU a6 a.isSome (.f 54 (.aD (.a 0) 67)<|.c (.aB .a (.a 1)<|.aB .b (.l 70<|H 4)<|.a 4) .n) [T,a',b2,.sl<|.sr w,.rL<|H L,b8,Y] d=rS (H 0) d):rY a6 a A' [T,a',b2,.sl<|.sr w,.rL<|H L,b8,Y] d=ss [T,a',b2,.sl<|.sr w,.rL<|H L,.rL<|H 0,Y] d:=sO b<|tK (sD (sb B B B) B B) sY
theorem Ig(g:r<rP)(h:L<rP)(i:rU (a6+1) a.isSome (.f 54 (.aD (.a 0) 67)<|.c (.aB .a (.a 1)<|.aB .b (.l 70<|H 4)<|.a 4) .n) [.rL<|tU,a',.rL<|H r,.sl<|.sr w,.rL<|H L,b8,Y] d=rS (H<|s*1024+u) d)(j:s<64)(b:u<256)(k:u %2=1)(l:w.length<=1000000): rY (a6+1) a A' [.rL<|tU,a',.rL<|H r,.sl<|.sr w,.rL<|H L,b8,Y] d=ss [.rL<|tU,a',.rL<|H r,.sl<|.sr<|w++[.j [H<|(r*rP+L)*rM,H<|s*rM,H u,H rM]],.rL<|H L,.rL<|H<|s*1024+u,.rL<|H<|(r*rP+L)*rM] d:=have e:=ce b (sz B);sO i (vW (sD (sb B B B) B<|BI λf=>kf<|(zU e k).symm.trans f) (sO (sN B B B<|HU g h)<|ys B B (yY<|rZ B<|rZ (sN B B B<|xs j e)<|rZ (sb B B<|G (λc=>D<|H c)<|Fz b) B) (zY l) sY) sY)
theorem Ih(b0:sV X E.a x P A)(d:r<rP)(e:x (r+1)=D n)(c:L<rP)(f:w.length<=1000000):∃g h,rY (a6+2) a A' [.rL<|tU,.rL<|H<|n*rM,.rL<|H r,.sl<|.sr w,.rL<|H L,b8,Y] (rO E O)=ss [.rL<|tU,.rL<|H<|n*rM,.rL<|H r,.sl<|.sr<|w++xu x P (r*rP+L),.rL<|H L,g,h] (rO E O):=by
 have v:=(w_ (a6:=a6) (g:=a.isSome) b0.C (b0.F _ _ e).2 c).trans<|G (λv=>rS _<|rO E O)<|b0.Qs r n d e L c;unfold xu;cases b:x _ with
 |none=>
  have v:=b▸v;exact⟨_,_,(If<|sN B B (rZ (sb B (sb B B<|tF B) B) B) v).trans<|by rw[show(cx _ none).toList=([])from B,dh]⟩
 |some s=>
  rw[b]at v;exact vK _ _<|Ig d c (sN B B (rZ (sb B (sb B B<|tF B) B) B) v) (b0.F _ _ b).2 (b0.V _ _ b).1 (b0.V _ _ b).2 f
theorem Ii(b0:sV X E.a x P A)(a:r<rP)(b:x (r+1)=D n):rW (a6+3) g 26 [tU,H<|n*rM,H r] (rO E O)=rS (.c<|tX (λL=>xu x P<|r*rP+L) rP 0) (rO E O):=(A2 (U:=[4]) (E:=false) (a2:=λ(l:sm×sm×sm) w=>[.rL _,.rL _,.rL _,.sl _,l.1,l.2.1,l.2.2]) (λ_ _=>B) (λ_=>zZ) (λL l w c d=>(Ih b0 a b c<|f_ d).elim λ_ f=>f.elim λ_ f=>⟨⟨_,_,_⟩,.fC f⟩) (l:=⟨.rT,.rT,.rT⟩) (bt rP)<|aa (ao<|bt _)<|aa (cr 1 sf.d)<|sz B) _ λ_ S e=>t_ B B B<|xV<|wG (tA (rZ (wS B B B) B) B B) ((v_<|aa sf.d<|sz B).trans<|G (λw=>D _) lq) e<|A0 S B
end
section
variable{t c h k:Nat} {g E:Bool} {b':Q} {o:sg} {d:rR} {U S:List Nat} {u:rN->rR->rQ rN}
theorem CF(b:sR o c=D j)(f:ws j=true)(l:rU t a.isSome e o d=rS z a9)(n:yO z j=D b9)(i:rY t a a1 (o.set c<|.sl b9) a9=m):rY t a (.c (.y c e) a1) o d=m:=by
 show rV.aF ((sR o c).bind λj=>si _<|rV.aN (rU t a.isSome e o d) o λk d=>rV.aW _ c o d) _=m;refine J b<|(?_:rV.aF (si _<|rV.aN _ o λk d=>rV.aW _ c o d) _=m);refine f▸(l▸((?_:rV.aF (rV.aW _ c o a9) _=m)));exact J n i
theorem Ij(b:rU t a.isSome e o d=rS (.d true) a9):rY t a (.c (.b e (.c .E l) a5) a1) o d=D (.Am,o,a9):=(zz b).trans B
def vm(t:Nat)(g:Bool)(U:List Nat)(E:Bool)(S:List Nat)(b':Q)(o:sg)(c:rN)(d:rR):rQ rN:=(up U E c<|xn S o).bind λo=>rU t g b' o d
theorem vR(a:rU t g b7 o d=rS z a9)(b:tN z=D w)(e:w.length<=1000000)(f:tO (vm t g U E S b' o) w a9=uf V i):rU t g (.o U E S b7 b') o d=rS (.c V) i:=by
 show rQ.aC (rU t g b7 o d) (λk d=>(tN k).bind λw=>si (tQ w.length)<|rQ.aC (tO (vm t g U E S b' o) w d) λV d=>sv (rN.c V) d)=_;refine J a<|(?_:((tN z).bind λw=>si _<|rQ.aC (tO _ w a9) λV d=>sv _ d)=_);refine J b<|(?_:si _ (rQ.aC _ λV d=>sv _ d)=_);refine J (vc e)<|J f ?_;rfl
theorem A4:tO u [] d=uf [] d:=B
theorem uZ(a:u z d=rS v a9)(i:tO u w a9=uf V b):tO u (z::w) d=uf (v::V) b:=by
 show rQ.aC _ (λk d=>rQ.aC _ λV d=>sv _ d)=_;refine J a<|(?_:rQ.aC _ (λV d=>sv _ d)=_);refine J i ?_;rfl
theorem Ik{f a:Nat->List rN}(b:∀k w V,tO u w d=uf V d->tO u (f k++w) d=uf (a k++V) d):∀{h k:Nat},tO u (tX f h k) d=uf (tX a h k) d:=by
 intro h;induction h with
 |zero=>
  exact @λ_=>B
 |succ h e=>
  exact @λk=>b k _ _<|e
end
section
variable{a0:Type} {v:Nat->List a0} {t b h k g:Nat}
theorem Il:∀{h g:Nat},tX (λL=>v<|b+L) h g=tX v h (b+g):=by
 intro h;induction h with
 |zero=>
  exact @λ_=>B
 |succ h a=>
  exact @λg=>G _<|a
theorem Im:∀{h r:Nat},tX (λr=>tX (λL=>v<|r*t+L) t 0) h r=tX v (h*t) (r*t):=by
 intro h;induction h with
 |zero=>
  exact @λr=>by rw[kg];rfl
 |succ h a=>
  exact @λr=>by
   have e:tX v ((h+1)*t) (r*t)=tX v t (r*t)++tX v (h*t) (r*t+t):=by rw[cw];exact J (bh _ t) Ic
   exact J e<|sa (cw r t)<|sa a<|G (·++_) Il
theorem Io:∀{h k:Nat},(∀L,k<=L->L<k+h->v L=[]) ->tX v h k=[]:=by
 intro h;induction h with
 |zero=>
  exact @λ_ _=>B
 |succ h c=>
  exact @λk a=>by
   refine(?_:v k++tX v h _=[]);refine J (a k (bg k)<|cz<|bu h) ?_;refine ae (G _<|c λL S d=>a L (bl S)<|ar d<|ao<|ed k h) ?_
   rfl
end
def A7(x:Nat->Option Nat)(r:Nat):List rN:=((x<|r+1).map λn=>rN.j [H r,H<|n*rM]).toList
def A8(x:Nat->Option Nat)(P:Nat->Nat)(k:Nat):List rN:=((x<|k+rP+1).map λs=>rN.j [H<|k*rM,H<|s*rM,H<|P k]).toList
section
variable{P:Nat->Nat} {w:List rN}
theorem CG{v:Nat->List a0}(a:∀k,(v k).length<=1):(tX v h k).length<=h:=aa (Ie a)<|ao<|Nat.mul_one h
theorem Ip(a:x (k+rP+1)=none):xu x P k=[]:=by
 unfold xu;refine J a ?_;rfl
theorem FC:tN (.o 0 rP 1)=D ((eb 0 rP).map H):=(v_<|aa sf.d<|af ..).trans<|G (λw=>D _) lq
theorem A9(b0:sV X E.a x P A)(a:r<rP)(b:x (r+1)=c):rW (a6+2) g 32 [.b 1,H<|X*rM+4*r] (rO E O)=rS (H<|wZ 1 c) (rO E O):=(w_ b0.C b0.eG a).trans<|G (λv=>rS _ _)<|sa b<|b0.Z r a
theorem Iq(b0:sV X E.a x P A)(d:r<rP)(e:w.length<=1000000):∃g,rY (a6+2) a Et [.rL<|tU,.rL<|H<|X*rM,.sl<|.sr w,.rL<|H r,a2] (rO E O)=ss [.rL<|tU,.rL<|H<|X*rM,.sl<|.sr<|w++A7 x r,.rL<|H r,g] (rO E O):=by
 unfold A7;cases b:x _ with
 |none=>exact⟨_,(sO (sN B B (rZ (sb B (sb B B<|tF B) B) B)<|A9 b0 d b)<|tK (vk<|zF<|sD (sb B B B) B B) sY).trans<|by rw[show(cx _ none).toList=([])from B,dh];rfl⟩
 |some n=>exact⟨_,sO (sN B B (rZ (sb B (sb B B<|tF B) B) B)<|A9 b0 d b) (vW (vk<|vP (sD (sb B B B) B<|BI λf=>kf<|(zU (by decide) B).symm.trans f)<|wl<|xF (vh B<|Cf.trans<|G (λc=>rS (.d<|!decide (c=0))<|rO E O)<|zT (u:=1) (by decide)<|sz B) B) (ys B B (yY<|rZ B<|rZ (sN B B B<|xs (b0.F _ _ b).2<|by decide) B) (zY e) sY) sY)⟩
theorem Ir(b0:sV X E.a x P A)(d:r<rP)(e:w.length+rP<=1000000):∃h,A1 (rY (a6+3) a Eu [.rL<|tU,.rL<|H<|X*rM,.sl<|.sr w,.rL<|H r,a2,b8]<|rO E O) [.rL<|tU,.rL<|H<|X*rM,.sl<|.sr<|w++tX (λL=>xu x P<|r*rP+L) rP 0,.rL<|H r,h,b8]<|rO E O:=by
 cases b:x _ with
 |none=>
  exact(Io λL _ i=>Ip<|b0.Qt r d b L<|bt rP▸i)▸(dh ..)▸⟨_,λ_=>G (rV.bM · _)<|sO (sN B B (rZ (sb B (sb B B<|tF B) B) B)<|A9 b0 d b)<|Ij<|sD (sb B B B) B B⟩
 |some n=>exact⟨_,.fC (sO (sN B B (rZ (sb B (sb B B<|tF B) B) B)<|A9 b0 d b) (tK (sD (sb B B B) B<|wk λf=>kf<|(zU (by decide) B).symm.trans f) (vW (M:=false) (vh B<|Cf.trans<|G (λc=>rS (.d<|!decide (c=0))<|rO E O)<|zT (by decide)<|sz B) (CF B B (sN B B (rZ (sN B B B<|xs (b0.F _ _ b).2<|by decide) B)<|Ii b0 d b) (G (λg=>si g _)<|vc<|aa (bc (CG λ_=>zZ) _) e) sY) sY)))⟩
theorem Is(b0:sV X E.a x P A):rW (a6+4) g 25 [tU,H<|X*rM] (rO E O)=rS (.c<|tX (λr=>tX (λL=>xu x P<|r*rP+L) rP 0) rP 0) (rO E O):=(A2 (U:=[3]) (E:=false) (a2:=λ(l:sm×sm) w=>[.rL _,.rL _,.sl _,l.1,l.2,.rT]) (λ_ _=>B) (f:=λr=>tX (λL=>xu x P _) rP 0) (λ_=>CG λ_=>zZ) (λr l w a b=>(Ir b0 a b).elim λ_ f=>⟨⟨_,_⟩,f⟩) (l:=⟨.rT,.rT⟩) (bt rP)<|aa (ao<|bt _)<|aa (hp sf.d sf.d)<|sz B) _ λ_ S c=>t_ B B B<|xV<|wG (tA (rZ (wS B B B) B) B B) (FC) c<|A0 S B
theorem It{b5:Nat}(b0:sV X E.a x P A)(a:O[j]?=D (sj X b5)):rW (a6+5) g 54 [.b<|j+6] (rO E O)=rS (.c<|tX (A8 x P) (rP*rP) 0) (rO E O):=t_ B B B (uJ (vR (ua B a B B (rZ (xt B a B) B)<|(Is b0).trans<|G (λw=>rS _ _)<|Im.trans<|G _<|kg rP) B (aa (CG λ_=>zZ)<|aa (hp sf.d sf.d)<|sz B) (Ik λk w V e=>by
  unfold xu A8;cases x _ with
  |none=>exact e
  |some s=>exact uZ B e)))
end
structure xa(E:sc)(y:Nat->Prop)(i:Nat)(x:Nat->Option Nat):Prop where
 d:sA E (te λW=>y W\/∃q,x q=D W) i
 inj:∀q l c,x q=D c->x l=D c->q=l
 h:∀q c,x q=D c->¬y c
def CH(E:sc)(O:rR)(y:Nat->Prop)(i:Nat)(x:Nat->Option Nat)(m:rQ rN):Prop:=∀a:Prop,(∀(p:sc),xa p y i x->p.a=E.a->p.b=E.b->m=rS (.d true) (rO p O) ->a) ->a
theorem CH.mk(a:xa p y i x)(S:p.a=E.a)(b:p.b=E.b)(c:m=rS (.d true) (rO p O)):CH E O y i x m:=λ_ i=>i p a S b c
def CI(X:Nat)(E:sc)(O:rR)(y:Nat->Prop)(A:Nat->Nat)(q:Nat)(m:rV):Prop:=∀a:Prop,(∀(p:sc) (R:Nat) (b0:Nat->Option Nat) (b:Nat->Nat) (a' b2 b6:sm),sB X p y R b0 b A->(∀z,z<rP*rP->b0 (z+rP+1)=none) ->sG rP y E p->m=ss [.rL<|.b q,a',b2,b6] (rO p O) ->a) ->a
theorem CI.mk(a:sB X p y R b0 b A)(S:(∀z,z<rP*rP->b0 (z+rP+1)=none))(c:sG rP y E p)(d:m=ss [.rL<|.b q,a',b2,b6] (rO p O)):CI X E O y A q m:=λ_ i=>i p R b0 b a' b2 b6 a S c d
section
variable{b h i k r X l a6 b5 j:Nat} {x d:Nat->Option Nat} {P u A:Nat->Nat} {y:Nat->Prop} {E p:sc} {O:rR} {m:Mine.rQ rN} {a:tu} {a' b2 b6:sm}
theorem Ba{c:Nat}(a:th x q none l=D c):l≠q/\x l=D c:=by
 by_cases v:l=q
 ·rw[v,tC]at a;exact sq a
 ·rw[sZ v]at a;exact⟨v,a⟩
theorem Iu(n:0<rM)(o:∀q l c,x q=D c->x l=D c->q=l)(t:∀q c,x q=D c->¬y c)(a:x q=D s):(λM=>te (λW=>y W\/∃q,x q=D W) M/\M≠s*rM)=te λW=>y W\/∃l,th x q none l=D W:=funext λM=>propext ⟨λ⟨⟨W,e,f⟩,w⟩=>sn W e<|f.imp_right λ⟨l,v⟩=>⟨l,(sZ λg=>w<|e.trans<|G (·*rM)<|ak<|v.symm.trans<|(G x g).trans a).trans v⟩,λ⟨W,e,f⟩=>f.elim (λf=>⟨(sn W e<|.inl f),λg=>t q s a<|ny n (e.symm.trans g)▸f⟩) λ⟨l,v⟩=>⟨(sn W e<|.inr ⟨l,(Ba v).2⟩),λg=>(Ba v).1<|o _ _ _ (Ba v).2<|a.trans<|G D<|ny n<|g.symm.trans e⟩⟩
theorem xa.hE(n:0<rM)(f:xa E y i x)(a:x q=D s):CH E O y (i+1) (th x q none) (rW (a6+4) g 48 [.b 3,H<|s*rM]<|rO E O):=Fh (t:=a6) (g:=g) (O:=O) n f.d (show te _ _ from(sn s B<|.inr ⟨q,a⟩)) _ λo a1 a' b2 m=>.mk (⟨(sa (Iu n f.inj f.h a) a1),Ct f.inj λs e=>sq e,λl c e=>f.h l c (Ba e).2⟩) a' b2 m
theorem z_(c:k<rP*rP):vG (k*rM) (k/rP) (k %rP)where
 d:=ar (ml c sf.aR) (ao<|(bs ..).trans (fo rM rP rP).symm)
 f:=G (·/rP) (ho k sf.aR)
 g:=G (· %rP) (ho k sf.aR)
 c:=er c
 a:=cv _ sf.dG
 e:=(ho k sf.aR).trans ((bs ..)▸ec k rP).symm
theorem wb{t:Nat}:k/t*t+k %t=k:=J (bs ..)<|ec k t
def CJ(X:Nat)(E:sc)(O:rR)(y:Nat->Prop)(i:Nat)(x:Nat->Option Nat)(P A:Nat->Nat)(k:Nat)(o:sg)(m:rV):Prop:=∀c:Prop,(∀(p:sc),sB X p y (i+1) (th x (k+rP+1) none) (th P k 0) A->sG rP y E p->m=ss o (rO p O) ->c) ->c
theorem CJ.mk{X:Nat}{E:sc}{O:rR}{y:Nat->Prop}{i:Nat}{x:Nat->Option Nat}{A:Nat->Nat}{k:Nat}{m:rV}{p:sc}{P:Nat->Nat}(c:sB X p y (i+1) (th x (k+rP+1) none) (th P k 0) A)(S:sG rP y E p)(e:m=ss o (rO p O)):CJ X E O y i x P A k o m:=λ_ i=>i p c S e
theorem Iv(g:sB X E y i x P A)(q:O[j]?=D (sj X b5))(t:x (k+rP+1)=D s):CJ X E O y i x P A k [.rL<|.b<|j+6,.rL<|H<|k*rM,.rL<|H<|s*rM,b6] (rY (a6+5) a Cm [.rL<|.b<|j+6,.rL<|H<|k*rM,.rL<|H<|s*rM,b6]<|rO E O):=by
 have o:=z_<|qw (n:=rP+1)<|g.C.Qu _ _ t;have z:P (k/rP*rP+k %rP)≠0:=λe=>by
  have f:=(g.C.V _ _ t).2;rw[wb]at e;rw[e]at f;exact absurd f<|yd B
 refine g.C.gM (a6:=a6) (g:=a.isSome) q o z _ λn M v N L R S T=>?_;have b0:=g.C.dV o.c o.a v (λs e=>sq e) (λ_=>B) λ_ _=>B;rw[wb]at b0;exact xa.hE sf.aR ⟨g.F.aV,g.C.inj,g.I⟩ t _ λU w a' b2 m=>(.mk (⟨(J a' b0),w.d,w.h⟩) (.aM (g.gI o.a v) ⟨b2,λc _=>G (tL · c) a'⟩)<|tt (ua B q B B (rZ (ur B q B B S) B)<|zS g.C.C L o.a<|af ..)<|tt (ua B q B B B m) sY)
theorem Iw(N:O[j]?=D (sj X b5)):∀{h k i:Nat} {E:sc} {x:Nat->Option Nat} {P:Nat->Nat} {a' b2 b6:sm},k+h=rP*rP->sB X E y i x P A->(∀z,k<=z->x (z+rP+1)=d (z+rP+1)) ->(∀z,z<k->x (z+rP+1)=none) -> CI X E O y A (j+6) (ti (a6+5) a [1,2,3] true Cm (tX (A8 d u) h k) [.rL<|.b<|j+6,a',b2,b6]<|rO E O):=by
 intro h;induction h with
 |zero=>
  exact @λk i E x P a' b2 b6 t e _ o=>.mk e (λz c=>o z<|ar c<|ao t.symm) .aX B
 |succ h w=>
  exact @λk i E x P a' b2 b6 t e S o=>by
   have L:=(ed k h).trans t;rw[FA];unfold A8;cases M:d _ with
   |none=>
    refine w L e (λz c=>S z<|f_ c) λz c=>?_;rcases ga<|ck c with f|f
    ·exact o z f
    ·exact J f<|(S k<|bg k).trans M
   |some s=>
    refine Iv (a6:=a6) (a:=a) (b6:=.rL _) e N ((S k<|bg k).trans M) _ λY R T m=>w L R (λz c=>(sZ λv=>c_ c<|xU v).trans<|S z<|f_ c) (λz c=>by
     by_cases f:z=k
     ·exact sa f tC
     ·exact(sZ λv=>f<|xU v).trans<|o z<|ku (ck c) f) _ λa0 a1 a2 a3 g q n U f V W=>.mk U f (T.aM V)<|tl B m W
def CK(X:Nat)(E:sc)(O:rR)(y:Nat->Prop)(x:Nat->Option Nat)(m:rV):Prop:=∀c:Prop,(∀(p:sc) (R:Nat) (b0:Nat->Option Nat) (b2 b6:sm),xa p y R b0->(∀z,z<rP->b0 (z+1)=none) ->(∀l,x l=none->b0 l=none) ->b0 0=x 0->p.a=E.a->p.b=E.b->m=ss [.rL<|tU,.rL<|H<|X*rM,b2,b6] (rO p O) ->c) ->c
theorem CK.mk{X:Nat}{E:sc}{O:rR}{y:Nat->Prop}{x:Nat->Option Nat}{m:rV}{p:sc}{b2:sm}{b6:sm}(c:xa p y R b0)(S:(∀z,z<rP->b0 (z+1)=none))(e:(∀l,x l=none->b0 l=none))(f:b0 0=x 0)(g:p.a=E.a)(n:p.b=E.b)(o:m=ss [.rL<|tU,.rL<|H<|X*rM,b2,b6] (rO p O)):CK X E O y x m:=λ_ i=>i p R b0 b2 b6 c S e f g n o
theorem Ix:∀{h r i:Nat} {E:sc} {x:Nat->Option Nat} {b2 b6:sm},r+h=rP->xa E y i x->(∀z,r<=z->x (z+1)=d (z+1)) ->(∀z,z<r->x (z+1)=none) -> CK X E O y x (ti (a6+4) a [2,3] true Ev (tX (A7 d) h r) [.rL<|tU,.rL<|H<|X*rM,b2,b6]<|rO E O):=by
 intro h;induction h with
 |zero=>
  exact @λr i E x b2 b6 w o _ t=>.mk o (λz c=>t z<|ar c<|ao w.symm) (λ_ f=>f) B B B B
 |succ h L=>
  exact @λr i E x b2 b6 w o S t=>by
   have N:=(ed r h).trans w;rw[FA];unfold A7;cases R:d _ with
   |none=>
    refine L N o (λz c=>S z<|f_ c) λz c=>?_;rcases ga<|ck c with f|f
    ·exact t z f
    ·exact f▸(S r<|bg r).trans R
   |some s=>
    refine xa.hE (a6:=a6) (g:=a.isSome) (O:=O) sf.aR o ((S r<|bg r).trans R) _ λa2 T v g m=>L N T (λz c=>(sZ λv=>c_ c<|fm v).trans<|S z<|f_ c) (λz c=>by
     by_cases f:z=r
     ·exact sa f tC
     ·exact(sZ λv=>f<|fm v).trans<|t z<|ku (ck c) f) _ λa3 a4 a5 q n U f V W Y a0 a1=>.mk U f (λl e=>V l (by
      by_cases M:l=r+1
      ·exact ae (G _ M) tC
      ·exact(sZ M).trans e)) (W.trans<|sZ (gj r).symm) (Y.trans v) (a0.trans g)<|tl B (tt (sN B B B m) sY) a1
theorem Iy(a:∀l,x l=none):(λW=>y W\/∃q,x q=D W)=y:=funext λW=>propext ⟨λf=>f.elim id λ⟨l,e⟩=>sq<|(a l).symm.trans e,.inl⟩
def CL(X:Nat)(E:sc)(O:rR)(y:Nat->Prop)(j:Nat)(m:Mine.rQ rN):Prop:=∀c:Prop,(∀(p:sc) (R:Nat),sA p (te y) R->sJ p.a->sG rP y E p->m=rS .e (rO p<|O.set j<|sj X 0) ->c) ->c
theorem CL.mk{X:Nat}{E:sc}{O:rR}{y:Nat->Prop}{j:Nat}{m:Mine.rQ rN}{p:sc}(c:sA p (te y) R)(S:sJ p.a)(e:sG rP y E p)(f:m=rS .e (rO p<|O.set j<|sj X 0)):CL X E O y j m:=λ_ i=>i p R c S e f
end
section
theorem za(c:rU t a.isSome e o d=rS z a9)(f:rU t a.isSome j o a9=rS v g)(h:vg g v b z=D l)(i:rY t a a1 o l=m):rY t a (.c (.g j b e) a1) o d=m:=by
 show rV.aF (rV.aN (rU t a.isSome e o d) o λk d=>rV.aN (rU t a.isSome j o d) o λv d=>rV.bU _ o) _=m;refine c▸((?_:rV.aF (rV.aN _ o λv d=>rV.bU (vg d v b z) o) _=m));refine f▸((?_:rV.aF (rV.bU _ o) _=m));exact J h i
theorem wQ(a:d[q]?=D (.sW h a5))(c:(sK.a h b&&vF a5)=true):vg d (.b q) b z=D (d.set q<|.sW h<|ut b z a5):=by
 show(d[q]?).bind (λj=>j.tb (h:=λh a5=>si _<|D<|d.set q _))=_;refine J a<|(?_:si _ _=_);refine c▸?_;rfl
end
section
variable{P:Nat->Nat} {y:Nat->Prop} {E p:sc} {O:rR} {m:Mine.rQ rN}
def CM(E:sc)(O:rR)(y:Nat->Prop)(m:Mine.rQ rN):Prop:=∀a:Prop,(∀(p:sc) (R:Nat),sA p (te y) R->p.a=E.a->p.b=E.b->m=rS .e (rO p O) ->a) ->a
theorem CM.mk{E:sc}{O:rR}{y:Nat->Prop}{m:Mine.rQ rN}{p:sc}(a:sA p (te y) R)(S:p.a=E.a)(b:p.b=E.b)(c:m=rS .e (rO p O)):CM E O y m:=λ_ i=>i p R a S b c
theorem Iz(a:sB X E y i x P A)(b:∀z,z<rP*rP->x (z+rP+1)=none):CM E O y (rW (a6+5) g 27 [tU,H<|X*rM]<|rO E O):=by
 refine(Ix (a6:=a6) (a:=tZ g) (O:=O) (X:=X) (b2:=.rT) (b6:=.rT) (bt rP) ⟨a.F,a.C.inj,a.I⟩ (λ_ _=>B) λz h=>absurd h<|mx z) _ λp R b0 b2 b6 j S d k n o s=>?_;refine xa.hE (a6:=a6) (g:=(tZ g).isSome) (O:=O) sf.aR j (k.trans a.C.I) _ λV t u v L=>?_;have e:(λW=>y W\/∃q,th b0 0 none q=D W)=y:=Iy λl=>by
  cases l with
  |zero=>exact tC
  |succ z=>
   refine(sZ<|gj z).trans ?_;rcases cm z rP with f|f
   ·exact S z f
   ·refine bk (kd f) λN T=>?_;subst T;refine d _ ?_;cases M:x _ with
    |none=>rfl
    |some c=>exact M.symm.trans<|(bh rP N)▸b N (qw (n:=rP+1)<|bb (ao<|by refine(bh rP N)▸?_;rfl)<|a.C.Qu _ _ M)
 exact .mk (sa e t.d) (u.trans n) (v.trans o)<|sE (.a _ _<|.o _ _ _<|.a _ _ .e) λf=>f ((A2 (U:=[3]) (E:=false) (a2:=λ(l:sm×sm) w=>[.rL _,.rL _,.sl _,l.1,l.2]) (λ_ _=>B) (λ_=>zZ) (λr l w U b=>(Iq a.C U<|f_ b).elim λ_ f=>⟨⟨_,_⟩,.fC f⟩) (l:=⟨.rT,.rT⟩) (bt rP)<|aa (ao<|bt _)<|aa (cr 1 sf.d)<|sz B) _ λ_ S d=>t_ B B B<|xV<|wG (tA (rZ (wS B B B) B) B B) (FC) d<|A0 S B) s L
theorem Aa{b5:Nat}(b:sB X E y i x P A)(a:O[j]?=D (sj X b5)):CL X E O y j (rW (a6+6) g 65 [.b<|j+6]<|rO E O):=by
 exact(Iw (a6:=a6) (a:=tZ g) (u:=P) (a':=.rT) (b2:=.rT) (b6:=.rT) a (bt _) b (λ_ _=>B) λz e=>absurd e<|mx z) _ λh k q r s t u d f l m=>Iz d f _ λh k a1 v n o=>(.mk a1 (J v<|d.C.C) (l.aM ⟨n,λc _=>G (tL · c) v⟩)<|sE (.i _<|.a _ _<|.o _ _ _<|.i _<|.i _<|.a _ _<|.j _ .e) λf=>f a (It b.C a) m a a o<|wQ (d:=rO _ O) (q:=j+6) a B)
end
def ub(b h N:Nat):Nat:=min (h -N)<|rM -(b+N) %rM
def xW(b h:Nat):Nat->Nat->List rN
 |0,_=>[]
 |u+1,N=>bif dt N h then .j [H<|b+N,H N,H<|ub b h N]::xW b h u (N+ub b h N)else[]
section
variable{b h N c u X a6 b5 j:Nat} {E:sc} {O:rR} {w:List rN}
theorem Bc(a:N<=h):N+ub b h N<=h:=aa (bc (hi ..) N)<|ao<|ds a
theorem FD:(b+N) %rM+ub b h N<=rM:=aa (bc (lh ..) _)<|ao<|ds<|bl<|cv _ sf.aR
theorem FE(a:N<h):xW b h (u+1) N=.j [H<|b+N,H N,H<|ub b h N]::xW b h u (N+ub b h N):=G (λg=>bif g then _::xW b h u _ else[])<|nx a
theorem FF(a:h<=N):xW b h u N=[]:=by
 cases u with
 |zero=>rfl
 |succ u=>
  refine(?_:(bif dt N h then _ else[])=_);refine(Bool.eq_false_iff.mpr λf=>Nat.not_le.mpr (di f) a:dt N h=false)▸?_;rfl
theorem CN(a:N<h)(d:h -N<=u+1):h -(N+ub b h N)<=u:=J (qp ..)<|qq<|aa d<|bc (Nat.lt_min.mpr ⟨hb a,hb<|cv _ sf.aR⟩) u
theorem IA(e:O[j]?=D (sj X b5)):∀{u N:Nat} {w:List rN} {b8 Y:sm},N<=h->h -N<=u->w.length+u<=1000000->AZ 3 (w++xW b h u N) (rO E O) (vd a6 none (.aG .b (.a 4)<|.a 2) EF (c+(u+1)) [.rL<|.b<|j+6,.rL<|H b,.rL<|H h,.sl<|.sr w,.rL<|H N,b8,Y]<|rO E O):=by
 intro u;induction u with
 |zero=>
  exact @λN w b8 Y a8 a d=>.mk (by exact G (λw=>D _) (dh w).symm)<|xj<|sD B B<|uK<|qx<|Nat.le_zero.mp a
 |succ u g=>
  exact @λN w b8 Y a8 a d=>by
   rcases ga a8 with f|f
   ·refine(FE f)▸?_;refine g (N:=N+ub b h N) (w:=w++[.j [H<|b+N,H N,H<|ub b h N]]) (b8:=.rL<|H<|b+N) (Y:=.rL<|H<|ub b h N) (Bc a8) (CN f a) (aa (ao<|by refine J bm ?_;refine ae (bf ..) ?_;rw[bh u];rfl) d) _ λk S i=>?_;exact .mk (sa (cp w [_] _) S)<|yn (i:=c+_) (sD B B<|vv f) (sO (sb B B B)<|sO (tA (rZ (sb B B<|tS a8)<|rZ (sb (wv B e B B) (sb B (wv B e B B)<|vO sf.aR)<|tS<|bl<|cv _ sf.aR) B) B AP)<|ys B B (yY<|rZ B<|rZ B<|rZ B B) (zY<|aa (ax ..) d)<|xl B B B sY) i
   ·exact(FF<|ao f.symm)▸(.mk (by exact G (λw=>D _) (dh w).symm)<|xj (i:=c+_)<|sD B B<|uK<|ao f.symm)
theorem IB(d:O[j]?=D (sj X b5))(a:h<=4999):rW (a6+1) false 60 [.b<|j+6,H b,H h] (rO E O)=rS (.c<|xW b h h 0) (rO E O):=by
 refine bk (AO a) λc e=>?_;have f:=IA (a6:=a6) (b:=b) (c:=c) (E:=E) (w:=[]) (b8:=.rT) (Y:=.rT) d (cc h) (bg h)<|aa (ao<|bt h)<|aa a<|sz B;rw[<-e]at f;exact f _ λ_ S g=>t_ B B B<|zL (BZ<|wX B B) B<|zI g<|A0 S B
theorem IC(a:c<256):c&&&256=0:=by
 have e:=ec (c&&&256)<|2^8;rw[Nat.and_div_two_pow,qt,kc a,Nat.zero_and,show 256 %2^8=0 from B,Nat.and_zero]at e;exact e.symm
end
def CO(O:rR)(q b:Nat)(z:rN)(b1:sc->Prop)(m:rV):Prop:=∀a:Prop,(∀(p:sc) (b6 a2 b8 Y:sm),b1 p->m=ss [.rL<|.b q,.rL<|H b,.rL z,b6,a2,b8,Y] (rO p O) ->a) ->a
theorem CO.mk(a:b1 p)(S:m=ss [.rL<|.b q,.rL<|H b,.rL z,b6,a2,b8,Y] (rO p O)):CO O q b z b1 m:=λ_ i=>i p b6 a2 b8 Y a S
def yx(O:rR)(q b:Nat)(z b6 a2 b8:rN)(b1:sc->Prop)(m:rV):Prop:=∀a:Prop,(∀(p:sc) (Y:sm),b1 p->m=ss [.rL<|.b q,.rL<|H b,.rL z,.rL b6,.rL a2,.rL b8,Y] (rO p O) ->a) ->a
theorem yx.mk(a:b1 p)(S:m=ss [.rL<|.b q,.rL<|H b,.rL z,.rL b6,.rL a2,.rL b8,Y] (rO p O)):yx O q b z b6 a2 b8 b1 m:=λ_ i=>i p Y a S
structure uV(X:Nat)(E:sc)(y:Nat->Prop)(i:Nat)(x:Nat->Option Nat)(P A:Nat->Nat)(p:sc):Prop where
 a:sB X p y i x P A
 b:sG rP y E p
section
variable{b h N c u q a6:Nat} {P:Nat->Nat} {E:sc} {O:rR} {a:tu} {z:rN} {l:sp} {b1:Nat->sc->Prop}
theorem FG(g:∀N E Y,N<h->b1 N E->yx O q b z (H<|b+N) (H N) (H<|ub b h N) (b1<|N+ub b h N) (rY a6 a l [.rL<|.b q,.rL<|H b,.rL z,.rL<|H<|b+N,.rL<|H N,.rL<|H<|ub b h N,Y]<|rO E O)): ∀{u N:Nat} {E:sc} {b6 a2 b8 Y:sm},N<=h->h -N<=u->b1 N E->CO O q b z (b1 h) (ti a6 a [3,4,5] true l (xW b h u N) [.rL<|.b q,.rL<|H b,.rL z,b6,a2,b8,Y]<|rO E O)
 |0,N,E,b6,a2,b8,Y,a8,e,d=>.mk (mj a8 (qx<|Nat.le_zero.mp e)▸d) B
 |u+1,N,E,b6,a2,b8,Y,a8,e,d=>by
  rcases ga a8 with f|f
  ·refine(FE f)▸(g N E Y f d _ λm n S i=>?_)
   ·exact FG g (Bc a8) (CN f e) S _ λo p r s t j k=>(.mk j<|tl B i k)
  ·exact(FF<|ao f.symm)▸(.mk (sa f d) B)
theorem sV.gN(b0:sV X R x P A)(a:P k≠0):P k&&&1=1:=by
 cases d:x _ with
 |none=>exact absurd (b0.Y _ d) a
 |some s=>exact(qv _).trans (b0.V _ _ d).2
theorem sV.gO(b0:sV X R x P A)(k:Nat):P k&&&256=0:=IC<|b0.dY k
structure vx(P:Nat->Nat)(b h:Nat):Prop where
 g:b+h<=rM*rP*rP
 j:∀c,b<=c->c<b+h->P (c/rM)≠0
theorem vx.fF(d:vx P b h)(a:N<h):∃r L,vG (b+N) r L/\P (r*rP+L)≠0:=have e:=ci a b;(Mine.C.Fn<|ar e d.g).imp λr f=>f.imp λL f=>⟨f,(sa f.e<|d.j _ (ax b N) e)⟩
theorem ID{b5:Nat}(g:sB X E y i x P A)(m:O[j]?=D (sj X b5))(R:vx P b h)(o:w.length=h)(S:sw w)(a:N<h)(T:A=tW a7 b (w.take N)): yx O (j+6) b (sk w) (H<|b+N) (H N) (H<|ub b h N) (uV X E y i x P<|tW a7 b<|w.take<|N+ub b h N) (rY (a6+6) none ED [.rL<|.b<|j+6,.rL<|H b,.rL<|sk w,.rL<|H<|b+N,.rL<|H N,.rL<|H<|ub b h N,Y]<|rO E O):=by
 refine tP (R.fF a) λr L p U=>?_;cases n:x _ with
 |none=>exact absurd (g.C.Y _ n) U
 |some s=>
  have e:=y_ (a6:=a6) (g:=false) (q:=j+6) g.C m p;rw[n]at e;have a0:((w.take<|N+ub b h N).drop N).length=ub b h N:=by
   exact ae hw<|J ek<|J o<|J (hh<|Bc<|bl a)<|e_ ..
  have k:=FD (b:=b) (h:=h) (N:=N);have k:=a0▸k;have t:=(g.C.F _ _ n).2;have V:s*rM+(b+N) %rM+((w.take<|N+ub b h N).drop N).length<=64*rM:=by
   exact J (bf ..)<|aa (bc k _)<|aa (ao (cw s rM).symm)<|cr rM t
  refine tp (HG (t:=a6+3) (O:=O) sf.cH g.C.C (show sw _ fromλc f=>S c<|he<|kl f) V<|aa (aa (af ..) k)<|aa sf.cH<|af ..) λd v M W=>?_;have b0:=g.C.jE n k v M;have a1:tW A ((r*rP+L)*rM+(b+N) %rM) ((w.take<|N+ub b h N).drop N)=tW a7 b (w.take<|N+ub b h N):=by
   have a':(r*rP+L)*rM+_ %rM=b+N:=sa p.e<|sa (bs ..)<|ec _ rM;have b2:(w.take N).length=N:=by exact ae ek<|ae (G _ o)<|hh<|bl a
   have b6:=EZ (u:=a7) (b:=b) (w:=w.take N) (q:=(w.take<|N+ub b h N).drop N);rw[b2,<-T]at b6;refine J a'<|J b6<|G _ ?_;have a2:(w.take<|N+ub b h N).take N=w.take N:=ae List.take_take<|J (hh<|ax ..) B;exact sa a2<|ly ..
  rw[a1]at b0;exact .mk (⟨⟨b0,g.F.aV,g.I⟩,.aO (Fl g.C.C v λc f=>(hl M c).trans<|AV k f) (g.I _ s n) B⟩)<|sO (ua B m B B (rZ (ur B m B B e) B)<|xs t<|ce (g.C.dY _)<|af ..)<|tt (ua B m B B (rZ (sb B (sb B (wv B m B B)<|vO sf.aR) B)<|rZ (xG B B B (sb B B B)<|G (se · _) B2) B) W) sY
end
def CQ(X:Nat)(E:sc)(O:rR)(y:Nat->Prop)(i:Nat)(x:Nat->Option Nat)(P A:Nat->Nat)(m:Mine.rQ rN):Prop:=∀a:Prop,(∀(p:sc),uV X E y i x P A p->m=rS .e (rO p O) ->a) ->a
theorem CQ.mk{P:Nat->Nat}(a:uV X E y i x P A p)(S:m=rS .e (rO p O)):CQ X E O y i x P A m:=λ_ i=>i p a S
section
variable{i X b5:Nat} {x:Nat->Option Nat} {P A:Nat->Nat} {y:Nat->Prop} {E p:sc} {O:rR} {m:Mine.rQ rN}
theorem sI(a:O[j]?=D z)(E:sc):(rO E O)[j+6]?=D z:=a
theorem IE(d:uV X f y i x P A E)(e:O[j]?=D (sj X b5))(g:vx P b h)(a:N<h): yx O (j+6) b z (H<|b+N) (H N) (H c) (uV X f y i x P A) (rY (a6+7) none EB [.rL<|.b<|j+6,.rL<|H b,.rL z,.rL<|H<|b+N,.rL<|H N,.rL<|H c,Y]<|rO E O):=by
 exact tP (g.fF a) λr L k l=>.mk d<|tK (xF (ur B (sI e E) B B<|(CC d.a.C e k).trans<|G (λc=>rS (.d<|!decide (c=0))<|rO E O)<|d.a.C.gN l) B) sY
theorem IF(d:uV X f y i x P A E)(e:O[j]?=D (sj X b5))(g:vx P b h)(a:N<h): yx O (j+6) b z (H<|b+N) (H N) (H c) (uV X f y i x P A) (rY (a6+6) none EC [.rL<|.b<|j+6,.rL<|H b,.rL z,.rL<|H<|b+N,.rL<|H N,.rL<|H c,Y]<|rO E O):=by
 exact tP (g.fF a) λr L k l=>Ib d.a e k l (d.a.C.gO _) _ λq n o m=>(.mk (⟨n,d.b.aM o⟩)<|tt (ur B e B B m) sY)
theorem CR{a4:rV->Prop}(a:O[j]?=D (sj X b5))(c:w.length<=4999)(b1:Nat->sc->Prop)(d:b1 0 E)(e:∀N E (Y:sm),N<w.length->b1 N E->yx O (j+6) b (sk w) (H<|b+N) (H N) (H<|ub b w.length N) (b1<|N+ub b w.length N) (rY (a6+1) none l [.rL<|.b<|j+6,.rL<|H b,.rL<|sk w,.rL<|H<|b+N,.rL<|H N,.rL<|H<|ub b w.length N,Y]<|rO E O)) (R:∀p b6 a2 b8 Y,b1 w.length p->a4 (rY (a6+1) none a1 [.rL<|.b<|j+6,.rL<|H b,.rL<|sk w,b6,a2,b8,Y]<|rO p O)):a4 (rY (a6+1) none (.c (.h [3,4,5] true (.f 37 (.a 0)<|.c (.a 1)<|.c (.k .a<|.c (.a 2) .n) .n) l) a1) [.rL<|.b<|j+6,.rL<|H b,.rL<|sk w,b6,a2,b8,Y]<|rO E O):=FG (u:=w.length) e (cc _) (bg _) d _ λg h k n o S f=>(sa ((wG (b7:=.f 37 (.a 0)<|.c (.a 1)<|.c (.k .a<|.c (.a 2) .n) .n) (ur B (sI a E) B (rZ B<|rZ (tA B B wH) B)<|IB a c) B f B).symm)<|R _ _ _ _ _ S)
def IG(X:Nat)(E:sc)(O:rR)(y:Nat->Prop)(i:Nat)(x:Nat->Option Nat)(P A:Nat->Nat)(m:rV):Prop:=∃p a3,uV X E y i x P A p/\m=ss a3 (rO p O)
theorem FH(g:sB X E y i x P A)(a:O[j]?=D (sj X b5))(e:vx P b w.length)(h:sw w)(f:w.length<=4999):CQ X E O y i x P (tW A b w) (rW (a6+8) false 59 [.b<|j+6,H b,sk w]<|rO E O):=have v:IG X E O y i x P _ (rY (a6+7) none EE _ _):=CR a f (λ_=>uV X E y i x P A) ⟨g,.aX⟩ (λN p Y a8 c=>IE c a e a8) λo _ _ _ _ S=>CR a f (λ_=>uV X E y i x P A) S (λN p Y a8 c=>IF c a e a8) λq _ _ _ _ k=>CR a f (λN=>uV X E y i x P _) ((B4.symm)▸k) (λN p Y a8 c=>ID c.a a e B h a8 B _ λ_ _ d l=>.mk ⟨d.a,c.b.aM d.b⟩ l) λn _ _ _ _ d=>uw n _ (ob (l:=w)▸d) B;v.elim λp v=>v.elim λa3 v=>.mk v.1<|vi B B B v.2
end
structure vy(P:Nat->Nat)(b h:Nat):Prop where
 e:b+h<=rM*rP*rP
 f:∀c,b<=c->c<b+h->P (c/rM)&&&19=19
section
variable{t b h N c u X a6 b5 j:Nat} {g:Bool} {x:Nat->Option Nat} {P A:Nat->Nat} {E:sc} {O:rR} {a' Y a4:sm}
theorem IH{u x:Nat->Nat}:∀{t b g:Nat},(∀r,r<t->u (b+r)=x (g+r)) ->tI u b t=tI x g t:=by
 intro t;induction t with
 |zero=>
  exact @λ_ _ _=>B
 |succ t d=>
  exact @λb g a=>(G (·::tI u _ t)<|a 0<|bu t).trans<|G _<|d λr e=>(G u<|ed b r).trans<|(a _<|hc e).trans<|G x (ed g r).symm
theorem FI(a:w.length+d.length<=1000000):yO (sk d) (.tH<|tT w)=D (.tH<|tT<|w++d):=by
 show si _ (D<|sC.tH<|tT w++tT d)=_;rw[a_,a_];exact J (vc a)<|G (λw=>D _) List.map_append.symm
theorem II(b0:sV X E.a x P A)(d:O[j]?=D (sj X b5))(b4:vy P b h)(a:N<h)(q:w.length+rM<=1000000): ∃v,rY (a6+7) none Ck [.rL<|.b<|j+6,.rL<|H b,a',.sl<|.tH<|tT w,.rL<|H<|b+N,.rL<|H<|b+h,Y,a4] (rO E O)=ss [.rL<|.b<|j+6,.rL<|H b,a',.sl<|.tH<|tT<|w++tI A (b+N) (ub b h N),.rL<|H<|b+N+ub b h N,.rL<|H<|b+h,.rL<|H<|ub b h N,v] (rO E O):=by
 have l:=ci a b;refine vT (Fn<|ar l b4.e) λr L i=>?_;have f:=b4.f _ (ax b N) l;have f:=i.e▸f;cases k:x _ with
 |none=>rw[b0.Y _ k]at f;exact absurd f<|yd B
 |some s=>
  have e:=y_ (a6:=a6+1) (g:=false) (q:=j+6) b0 d i;rw[k]at e;have n:=FD (b:=b) (h:=h) (N:=N);have o:=(b0.F _ _ k).2;have y:s*rM+(b+N) %rM+ub b h N<=64*rM:=by
   exact J (bf ..)<|aa (bc n _)<|aa (ao (cw s rM).symm)<|cr rM o
  have p:=aa (af ..) n;have z:=IH λc R=>by
   exact(G _<|bf ..).trans<|(b0.Qv _ _ k _<|ar (ci R _) n).trans<|G A<|by exact ae (az<|bf ..)<|sa i.e<|sa (bs ..)<|G (·+c)<|ec (b+N) rM
  have m:=HM (t:=a6+5) (O:=O) b0.C y<|aa p<|aa sf.cH<|af ..;rw[z]at m;have M:=Fw (a6:=a6) (g:=false) (q:=j+6) (h:=2) b0 d i (af ..)<|b0.gO _;rw[(bd f:decide (P _&&&(17|||2)=17|||2)=true)]at M;exact⟨_,tK (xF (ur B (sI d E) B B M) B) (sO (tA (rZ (sb B B<|(tS<|bl l).trans<|G (λc=>D _)<|qs ..)<|rZ (sb (wv B (sI d E) B B) (sb B (wv B (sI d E) B B)<|vO sf.aR)<|tS<|bl<|cv _ sf.aR) B) B AP) <|sO (ua B (sI d E) B B (rZ (ur B (sI d E) B B e) B)<|xs o<|ce (b0.dY _)<|af ..)<|CF B B (ua B (sI d E) B B (rZ (sb B (sb B (wv B (sI d E) B B)<|vO sf.aR) B) B) m) (FI<|by refine J zM ?_;exact aa (bc p _) q)<|xl B B B sY)⟩
theorem IJ(b0:sV X E.a x P A)(d:O[j]?=D (sj X b5))(b4:vy P b h)(e:h<=4999):∀{u N:Nat} {Y a4:sm},N<=h->h -N<=u-> zO E O (tI A b h) (vd (a6+7) none (.aG .b (.a 4)<|.a 5) Ck (c+(u+1)) [.rL<|.b<|j+6,.rL<|H b,a',.sl<|.tH<|tT<|tI A b N,.rL<|H<|b+N,.rL<|H<|b+h,Y,a4]<|rO E O):=by
 intro u;induction u with
 |zero=>
  exact @λN Y a4 a8 a=>by
   exact J (mj a8<|qx<|Nat.le_zero.mp a)<|.mk B<|xj<|sD B B<|uK<|bg _
 |succ u i=>
  exact @λN Y a4 a8 a=>by
   rcases ga a8 with f|f
   ·refine bk (II (a6:=a6) (a':=a') (Y:=Y) (a4:=a4) (w:=tI A b N) b0 d b4 f<|by refine J zM ?_;exact aa (cu (aa a8 e) sf.cH)<|af ..) λl m=>?_;rw[<-B6,bf b N]at m;exact i (Bc a8) (CN f a) _ λn S k=>(.mk S<|yn (i:=c+_) (sD B B<|vv<|ci f b) m k)
   ·exact(az f)▸(.mk B<|xj (i:=c+_)<|sD B B<|uK<|bg _)
theorem Bd(b0:sV X E.a x P A)(d:O[j]?=D (sj X b5))(b4:vy P b h)(a:h<=4999):rW (a6+8) false 63 [.b<|j+6,H b,H h] (rO E O)=rS (sk<|tI A b h) (rO E O):=by
 refine bk (AO a) λc e=>?_;have f:=IJ (a6:=a6) (c:=c) (a':=.rL<|H h) (Y:=.rT) (a4:=.rT) b0 d b4 a (cc h)<|bg h;rw[<-e]at f;exact f _ λ_ S i=>t_ B B B<|zL (BZ<|wX B<|wX (sb B B B) B) B<|zI i<|uJ<|AQ S
end
section
theorem IK(a:sR o c=D (.tH<|tT w)):rU t g (.y c) o d=rS (H w.length) d:=by
 refine(?_:(sR o c).bind (λj=>se _ d)=_);exact J a<|G (λi=>rS _ d)<|a_ _
end
section
variable{b h r c u X a6 b5 j U:Nat} {x:Nat->Option Nat} {P A:Nat->Nat} {E:sc} {O:rR} {a2:sm}
theorem vy.cO(b4:vy P b h)(a:N+i<=h):vy P (b+N) i:=⟨aa (ao<|bf ..)<|aa (bc a b) b4.e,λc S d=>b4.f c (aa (ax ..) S)<|ar d<|aa (ao<|bf ..)<|bc a b⟩
theorem CS(a:sR o c=D (.tH<|tT<|tI A b r)):rU i g (.y c) o d=rS (H r) d:=(IK a).trans<|G (λr=>rS _ d) zM
theorem FJ(b0:sV X E.a x P A)(d:O[j]?=D (sj X b5))(b4:vy P b h)(a:r<h){o:sg}(e:o=[.rL<|.b<|j+6,.rL<|H b,.rL z,.sl<|.tH<|tT<|tI A b r,a2]):rU (a6+8) false (.f 8 (.a 0)<|.c (.aB .a (.a 1)<|.y 3)<|.c (.d<|H 1) .n) o (rO E O)=rS (sk [A<|b+r]) (rO E O):=by
 subst e;exact ur B (sI d E) B (rZ (sb B (CS B) B) B)<|Bd b0 d (b4.cO a)<|af ..
theorem IL(b0:sV X E.a x P A)(e:O[j]?=D (sj X b5))(b4:vy P b (U+1))(g:A (b+U)=0)(S:∀r,r<U->A (b+r)≠0)(f:U<h)(i:U<=4999):∀{u r:Nat} {a2:sm},r+u=U-> ∃a3,vd (a6+8) none (.aG .b (.y 3)<|.a 2) EG (c+(u+1)) [.rL<|.b<|j+6,.rL<|H b,.rL<|H h,.sl<|.tH<|tT<|tI A b r,a2] (rO E O)=vt (sk<|tI A b U) a3 (rO E O):=by
 intro u;induction u with
 |zero=>
  exact @λr a2 a=>by
   exact J (show r=U from a) ⟨_,((En<|sD (CS B) B<|vv f).trans<|G (rV.bM · _)<|sO (FJ b0 e b4 (fz U) B)<|AE (sD (wj B B B (m:=rS (H _) _) B) B<|vu g)<|uJ<|AQ B)⟩
 |succ u k=>
  exact @λr a2 a=>by
   have d:=a▸cz (bu u);obtain⟨a3,m⟩:=k (r:=r+1)<|(ed r u).trans a;rw[B6]at m;exact⟨_,yn (i:=c+_) (sD (CS B) B<|vv<|ce d f) (sO (FJ b0 e b4 (oc d) B)<|tK (sD (wj B B B (m:=rS (H _) _) B) B<|wk<|S r d)<|CF B B B (FI<|by refine J zM ?_;exact aa (bw<|aa (bl d) i)<|sz B) sY) m⟩
theorem FK(b0:sV X E.a x P A)(d:O[j]?=D (sj X b5))(b4:vy P b (U+1))(g:A (b+U)=0)(S:∀r,r<U->A (b+r)≠0)(i:U<h)(a:U<=4999):rW (a6+9) false 64 [.b<|j+6,H b,H h] (rO E O)=rS (sk<|tI A b U) (rO E O):=by
 refine bk (AO a) λc e=>?_;obtain⟨a3,f⟩:=IL b0 d b4 g S i a<|bt U;rw[<-e]at f;exact t_ B B B<|xV<|Hp f
end
section
variable{k q:Nat} {M:Bool}
theorem CT(b:rU t a.isSome n o d=rS z a9)(c:sP z=D M)(e:rY t a (bif M then l else Y) o a9=ss a3 f)(i:rY t a a1 a3 f=m):rY t a (.c (.b n l Y) a1) o d=m:=by
 show rV.aF (rV.aN (rU t a.isSome n o d) o λk d=>(sP k).bind λh=>bif h then rY t a l o d else rY t a Y o d) (rY t a a1)=m;refine J b<|(?_:rV.aF ((sP z).bind λh=>bif h then rY t a l o a9 else rY t a Y o a9) _=m);refine c▸(ae ?_ i);refine ae ?_<|G (rV.aF ·<|rY t a a1) e;cases M<;>rfl
theorem CU:sP (H b)=D (!decide (b=0)):=G (λg=>D<|!g)<|decide_eq_decide.mpr qd
noncomputable def Be(M:Bool)(k:Nat):Nat:=bif M then k else 0
theorem CV:rY t a (bif M then .c (.l .e 1<|.l x<|H k) .n else .n) [T,.rL<|H q] d=ss [T,.rL<|H<|q|||Be M k] d:=by
 cases M with
 |true=>exact xl B B ui sY
 |false=>exact G (λc=>ss [T,.rL _] d) (Nat.or_zero q).symm
def vz(u:Nat):Nat:=((16|||Be (!decide (u&&&6=0)) 2)|||Be (!decide (u&&&2=0)) 4)|||Be (!decide (u&&&1=0)) 8
theorem IM(u:Nat):vz u<256:=(by decide:∀x y z:Bool,((16|||Be x 2)|||Be y 4)|||Be z 8<256) _ _ _
theorem FL:rW (i+1) g 77 [H u] d=rS (H<|vz u) d:=t_ B B B<|sO B<|CT (sb B (sb B B ui) B) CU CV<|CT (sb B B B) CU CV<|CT (sb B B B) CU CV<|uJ B
noncomputable def uD(q c:Nat):Nat:=(bif c.beq 0 then q else(c&&&30)|||q)|||1
def tY(P:Nat->Nat)(q c h k:Nat):Nat:=if c<=k/\k<c+h then uD q<|P k else P k
theorem zb{P:Nat->Nat}:tY P q c 0=P:=funext λk=>am λa=>Nat.not_lt.mpr a.1 a.2
theorem zc{P:Nat->Nat}:tY (th P c<|uD q<|P c) q (c+1) h=tY P q c (h+1):=funext λk=>by
 unfold tY;by_cases f:k=c
 ·refine J f ?_;refine ae (am<|λa=>rG c a.1) ?_;refine ae tC ?_;rw[an ⟨bg c,cz<|bu h⟩]
 ·refine J (sZ f) ?_;by_cases v:c+1<=k/\k<c+1+h
  ·refine ae (an v) ?_;rw[an ⟨f_ v.1,ar v.2<|ao<|ed c h⟩]
  ·refine ae (am v) ?_;rw[am λa=>v ⟨ku a.1<|dq f,ar a.2<|ao (ed c h).symm⟩]
end
def vH(P A:Nat->Nat):Prop:=∀c,P (c/rM)=0->A c=0
def zd(X:Nat)(E:sc)(O:rR)(y:Nat->Prop)(i:Nat)(P A:Nat->Nat)(q c h:Nat)(o:sg)(m:rV):Prop:=∀a:Prop,(∀(p:sc) (R:Nat) (b0:Nat->Option Nat) (a2:sm),sB X p y R b0 (tY P q c h) A->sG rP y E p->i<=R+2*h->R<=i->(0<h->P c=0->R+1<=i) ->m=ss (o.set 4 a2) (rO p O) ->a) ->(∀(p:sc) (R:Nat) (b0:Nat->Option Nat) (b a7:Nat->Nat) (a3:sg),sB X p y R b0 b a7->sG rP y E p->i<2*h->m=uI 4 a3 (rO p O) ->a) ->a
theorem zd.aJ{P:Nat->Nat}(a:sB X p y R b0 (tY P q c h) A)(S:sG rP y E p)(b:i<=R+2*h)(d:R<=i)(e:(0<h->P c=0->R+1<=i))(f:m=ss (o.set 4 a2) (rO p O)):zd X E O y i P A q c h o m:=λ_ i _=>i p R b0 a2 a S b d e f
theorem zd.aI{P:Nat->Nat}(a:sB X p y R b0 b a7)(S:sG rP y E p)(d:i<2*h)(e:m=uI 4 a3 (rO p O)):zd X E O y i P A q c h o m:=λ_ _ i=>i p R b0 b a7 a3 a S d e
section
variable{h i c X q a6 b5 j:Nat} {x:Nat->Option Nat} {P A:Nat->Nat} {y:Nat->Prop} {E:sc} {O:rR} {a' b2 a2:sm}
theorem Bf(q c:Nat):uD q c≠0:=λe=>by
 have f:uD q c&&&1=0:=G (·&&&1) e;unfold uD at f
 rw[Nat.and_or_distrib_right]at f;exact absurd (Nat.or_eq_zero_iff.mp f).2<|yd B
theorem FM(b:vH P A)(a:P k=0):AY A k=A:=funext λc=>by
 by_cases e:c/rM=k
 ·exact ae (an e)<|(b c<|J e a).symm
 ·exact am e
theorem vH.iO(a:vH P A):vH (tY P q c h) A:=λM e=>a M (by
 unfold tY at e
 by_cases f:c<=M/rM/\M/rM<c+h
 ·rw[an f]at e;exact absurd e<|Bf _ _
 ·rw[am f]at e;exact e)
theorem IP(d:sB X E y i x P A)(b:O[j]?=D (sj X b5))(u:vH P A)(w:c<rP*rP)(o:q<256):zd X E O y i P A q c 1 [.rL<|.b<|j+6,a',b2,.rL<|H q,.rL<|H<|c*rM] (rY (a6+7) none Cn [.rL<|.b<|j+6,a',b2,.rL<|H q,.rL<|H<|c*rM]<|rO E O):=by
 have k:=z_ w;have e:=CC (a6:=a6) (g:=false) (q:=j+6) d.C b k;rw[wb]at e;have p:tY P q c 1=th P c _:=zc.symm.trans zb;by_cases f:P c=0
 ·rw[f]at e;have l:uD q (P c)=q|||1:=by refine ae (G _ f) ?_;rfl
  refine CD (a6:=a6+1) d b k (by refine ae (G _ wb) ?_;exact f) (CE o) _ (λr z L a n s g m=>?_) λr z L a n g m=>?_
  ·rw[wb,FM u f,<-l,<-p]at a;exact .aJ a g n (f_ s) (λ_ _=>s)<|vW (ur B (sI b E) B B e) (tt (ur B (sI b E) B B m) sY) sY
  ·exact .aI a g n<|yF (ur B (sI b E) B B e)<|zy<|ur B (sI b E) B B m
 ·have l:uD q (P c)=((P c&&&30)|||q)|||1:=by
   unfold uD;refine(show(P c).beq 0=false from Bool.eq_false_iff.mpr λv=>f<|da v)▸?_;rfl
  have t:=y_ (a6:=a6+1) (g:=false) (q:=j+6) d.C b k;refine Fy (a6:=a6+1) (g:=false) (u:=(P c&&&30)|||q) d b k (by refine J wb ?_;exact f) (Nat.or_lt_two_pow (n:=8) (bb qu<|sz B) o) _ λr a g m=>?_;replace a:=wb▸a;replace a:=l▸a;replace a:=p▸a;rw[wb]at t;rw[d.C.gN f]at e;exact .aJ a g (ax ..) (bg i) (λ_ v=>absurd v f)<|vW (ur B (sI b E) B B e) (tt (ur B (sI b E) B (rZ B<|rZ (sb (sb (ur B (sI b E) B B t) (sb (sb (sb B B ui) B ui) B ui)<|G (λc=>D<|H c)<|d.C.bC (h:=30) (af ..) c) B ui) B) m) sY) sY
theorem IQ(w:O[j]?=D (sj X b5))(z:q<256):∀{h c i:Nat} {E:sc} {x:Nat->Option Nat} {P:Nat->Nat} {a2:sm},c+h<=rP*rP->sB X E y i x P A->vH P A-> zd X E O y i P A q c h [.rL<|.b<|j+6,a',b2,.rL<|H q,a2] (ti (a6+7) none [4] false Cn ((eb c h).map λc=>H<|c*rM) [.rL<|.b<|j+6,a',b2,.rL<|H q,a2]<|rO E O):=by
 intro h;induction h with
 |zero=>
  exact @λc i E x P a2 _ f _=>.aJ (by rw[zb];exact f) .aX (bg i) (bg i) (λa=>absurd a<|kv 0) B
 |succ h L=>
  exact @λc i E x P a2 l f n=>by
   refine IP (a6:=a6) (a':=a') (b2:=b2) f w n (ar (cz<|bu h) l) z _ (λY o a0 M b d S N R m=>?_) λp r s t T U b d o m=>?_
   ·rw[zc.symm.trans zb]at b;refine L (a2:=M) (aa (ao<|ed c h) l) b (by refine J (zc.symm.trans zb|>.symm) ?_;exact n.iO) _ (λp r s t e g V u a1 k=>?_) λp r s t T U e g W k=>?_
    ·rw[zc]at e;exact .aJ e (d.aM g) (aa S<|aa (bv V 2)<|ao<|bf ..) (aa u N) (λ_ v=>aa (bw u)<|R fp v)<|tl B m k
    ·exact .aI e (d.aM g) (bb S<|ar (i_ W 2)<|ao (gz 2 h).symm)<|tl B m k
   ·exact .aI b d (ar o<|bx 2<|bw<|cc h)<|xP B m
end
noncomputable def ug(a b e:Nat):Nat:=(e -1)/a+1 -b/a
def Ab(X:Nat)(E:sc)(O:rR)(y:Nat->Prop)(i:Nat)(P A:Nat->Nat)(q c h:Nat)(m:Mine.rQ rN):Prop:=∀a:Prop,(∀(p:sc) (R:Nat) (b0:Nat->Option Nat),sB X p y R b0 (tY P q c h) A->sG rP y E p->i<=R+2*h->R<=i->(0<h->P c=0->R+1<=i) ->m=rS .e (rO p O) ->a) ->(∀(p:sc) (R:Nat) (b0:Nat->Option Nat) (b a7:Nat->Nat),sB X p y R b0 b a7->sG rP y E p->i<2*h->m=tf 4 (rO p O) ->a) ->a
theorem Ab.aJ{P:Nat->Nat}(a:sB X p y R b0 (tY P q c h) A)(S:sG rP y E p)(b:i<=R+2*h)(d:R<=i)(e:(0<h->P c=0->R+1<=i))(f:m=rS .e (rO p O)):Ab X E O y i P A q c h m:=λ_ i _=>i p R b0 a S b d e f
theorem Ab.aI{P:Nat->Nat}(a:sB X p y R b0 b a7)(S:sG rP y E p)(d:i<2*h)(e:m=tf 4 (rO p O)):Ab X E O y i P A q c h m:=λ_ _ i=>i p R b0 b a7 a S d e
section
theorem Ac(a:b<e):b<=e -1:=Nat.le_sub_one_of_lt a
theorem CW(a:b<e):b/rM+ug rM b e=(e -1)/rM+1:=ds<|qe<|ha<|Ac a
theorem CX(a:b<=k)(c:k<e):b/rM<=k/rM/\k/rM<b/rM+ug rM b e:=⟨ha a,(J (CW<|bb a c)<|ja<|ha<|Ac c)⟩
theorem IR(a:b<e)(c:e<=rM*rP*rP):b/rM+ug rM b e<=rP*rP:=J (CW a)<|er<|ar (mi (bb (cc b) a) fp)<|aa c<|ao<|fo rM rP rP
theorem Bg{a:Nat}:b -b %a=a*(b/a):=(G (· -b %a) (ec b a).symm).trans<|qy ..
theorem FN(a:b<e):(xT (b -b %rM) e rM).map H=(eb (b/rM)<|ug rM b e).map λc=>H<|c*rM:=by
 have d:=aa (qz b rM)<|Ac a;have a':xp (rM*(b/rM)) e rM=ug rM b e:=by
  unfold xp ug;exact ae (an<|bb (qz b rM) a)<|J (Nat.sub_right_comm ..)<|J (Nat.sub_mul_div ..)<|(Nat.succ_sub<|ha<|Ac a)▸B
 exact Bg▸(az a')▸List.range'_eq_map_range▸(az fj)▸(az fj)▸(ln λM _=>G H<|J (bs _ rM)<|(iv ..).symm)
theorem FO{b5:Nat}{P:Nat->Nat}(l:sB X E y i x P A)(k:O[j]?=D (sj X b5))(n:vH P A)(o:q<256)(a:b<e)(d:e<=rM*rP*rP):Ab X E O y i P A q (b/rM) (ug rM b e) (rW (a6+8) false 78 [.b<|j+6,H b,H e,H q]<|rO E O):=by
 have b7:rU (a6+7) false (.f 33 (.aD (.a 0) 68)<|.c (.a 1)<|.c (.a 2) .n) [.rL _,.rL<|H b,.rL<|H e,.rL<|H q,.rT] _=rS (.c<|(eb (b/rM)<|ug rM b e).map λc=>H<|c*rM) (rO E O):=ua B (sI k E) B B B<|sa (FN a)<|sE (.h true<|.a _ _<|.d _<|.d _ .e) λf=>f (vv a) Fj (AU sf.aR)<|HX (aa (el ..)<|aa (bl a)<|aa d<|aa (hp (hp sf.cH sf.d) sf.d)<|af ..) (aa d<|aa (hp (hp sf.cH sf.d) sf.d)<|af ..) sf.aR<|aa sf.cH<|af ..;refine IQ (a6:=a6) (a':=.rL<|H b) (b2:=.rL<|H e) (a2:=.rT) k o (IR a d) l n _ (λp r s t g h S u v m=>?_) λp r s t w z g h S m=>?_
 ·exact .aJ g h S u v<|vi B B B<|wG b7 B m sY
 ·exact .aI g h S<|vN B B B<|Ej b7 B m
end
def ve(b:Nat)(w:List Nat)(b5 u:Nat):rN:=.s 7 [(2,H b),(62,sk w),(63,H b5),(64,H u)]
def Ad(X:Nat)(E:sc)(O:rR)(y:Nat->Prop)(i:Nat)(P A:Nat->Nat)(j b5 b:Nat)(w:List Nat)(f u:Nat)(m:Mine.rQ rN):Prop:=∀a:Prop,(∀(p:sc) (R:Nat) (b0:Nat->Option Nat),sB X p y R b0 (tY P (vz u) (b/rM)<|ug rM b<|b+f) (tW A b w) ->sG rP y E p->i<=R+2*ug rM b (b+f) ->R<=i->(P (b/rM)=0->R+1<=i) ->m=rS .e (rO p<|O.set j<|sj X<|max b5<|b+f) ->a) ->(∀(p:sc) (R:Nat) (b0:Nat->Option Nat) (c a7:Nat->Nat),sB X p y R b0 c a7->sG rP y E p->i<2*ug rM b (b+f)\/rM*rP*rP<b+f->m=tf 4 (rO p O) ->a) ->a
theorem Ad.aJ{P:Nat->Nat}{b5:Nat}(a:sB X p y R b0 (tY P (vz u) (b/rM)<|ug rM b<|b+f) (tW A b w))(S:sG rP y E p)(c:i<=R+2*ug rM b (b+f))(d:R<=i)(e:(P (b/rM)=0->R+1<=i))(g:m=rS .e (rO p<|O.set j<|sj X<|max b5<|b+f)):Ad X E O y i P A j b5 b w f u m:=λ_ i _=>i p R b0 a S c d e g
theorem Ad.aI{P:Nat->Nat}{b5:Nat}(a:sB X p y R b0 c a7)(S:sG rP y E p)(d:i<2*ug rM b (b+f)\/rM*rP*rP<b+f)(e:m=tf 4 (rO p O)):Ad X E O y i P A j b5 b w f u m:=λ_ _ i=>i p R b0 c a7 a S d e
section
variable{b5:Nat} {P:Nat->Nat}
theorem CY:uo d .h [H b,H h]=D (H<|max b h):=by
 rcases cm b h with a|a
 ·exact(az<|qE<|bl a)▸(vX<|an<|Int.ofNat_lt.mpr a)
 ·exact(az<|Nat.max_eq_left a)▸(vX<|am<|Int.not_lt.mpr<|Int.ofNat_le.mpr a)
theorem vx.aO(a:b+h<=e)(d:e<=rM*rP*rP):vx (tY P q (b/rM)<|ug rM b e) b h:=⟨aa a d,λc S f v=>by
 rw[show tY P q _ _ _=uD q _ from an<|CX S<|ar f a]at v;exact Bf _ _ v⟩
theorem IS(h:sB X E y i x P A)(a:O[j]?=D (sj X b5))(n:vH P A)(o:sw w)(c:w.length<=f)(p:0<f)(q:w.length<=4999):Ad X E O y i P A j b5 b w f u (rW (a6+9) false 79 [.b<|j+6,ve b w f u]<|rO E O):=by
 rcases cm _ _ with v|v
 ·exact .aI h .aX (.inr v)<|sE (.f<|.d _<|.h false<|.i _<|.h true .e) λf=>f wH (uK c) (sI a E)<|wV v
 ·have d:b<b+f:=cz p;refine FO (a6:=a6) h a n (IM u) d v _ (λr s t e g S z L m=>?_) λr s t N R e g S m=>?_
  ·exact FH e a (vx.aO (bc c b) v) o q _ λk l M=>(.aJ l.a (g.aM l.b) S z (L<|hb<|ja<|ha<|Ac d)<|sE (.f<|.d _<|.h false<|.i _<|.h false<|.h true<|.a _ _<|.a _ _<|.i _<|.a _ _<|.i _<|.d _<|.j _ .e) λf=>f wH (uK c) (sI a E) (vj v) (wV d) FL m (sI a _) M (sI a k) CY<|wQ (sI a k) B)
  ·exact .aI e g (.inl S)<|sE (.f<|.d _<|.h false<|.i _<|.h false<|.h true<|.a _ _<|.s _ _ .e) λf=>f wH (uK c) (sI a E) (vj v) (wV d) FL m
end
def Ae(X:Nat)(E:sc)(O:rR)(y:Nat->Prop)(i:Nat)(P A:Nat->Nat)(j z v:Nat)(m:Mine.rQ rN):Prop:=∀a:Prop,(∀(p:sc) (R:Nat) (b0:Nat->Option Nat),sB X p y R b0 (tY (th P z 7) 22 (z+1)<|v -(z+1)) A->sG rP y E p->i<=R+2*(v -z) ->R+2<=i->m=rS (.j [H<|(z+1)*rM,H<|v*rM]) (rO p<|O.set j<|sj X<|v*rM) ->a) ->(∀(p:sc) (R:Nat) (b0:Nat->Option Nat) (b a7:Nat->Nat),sB X p y R b0 b a7->sG rP y E p->i<2*(v -z)\/rP*rP<v->m=tf 4 (rO p O) ->a) ->a
theorem Ae.aJ{P:Nat->Nat}(a:sB X p y R b0 (tY (th P z 7) 22 (z+1)<|v -(z+1)) A)(S:sG rP y E p)(b:i<=R+2*(v -z))(c:R+2<=i)(d:m=rS (.j [H<|(z+1)*rM,H<|v*rM]) (rO p<|O.set j<|sj X<|v*rM)):Ae X E O y i P A j z v m:=λ_ i _=>i p R b0 a S b c d
theorem Ae.aI{P:Nat->Nat}(a:sB X p y R b0 b a7)(S:sG rP y E p)(c:i<2*(v -z)\/rP*rP<v)(d:m=tf 4 (rO p O)):Ae X E O y i P A j z v m:=λ_ _ i=>i p R b0 b a7 a S c d
section
variable{b5:Nat} {P:Nat->Nat}
theorem Af:wY c=(c+rM -1)/rM*rM:=Bg.trans<|bs ..
theorem IT{e:Nat->a0}{M f:a0}:th (th e q M) q f=th e q f:=funext λl=>by
 by_cases a:l=q
 ·exact J a<|ae tC<|tC▸B
 ·exact ae (sZ a)<|ae (sZ a)<|J (sZ a) B
theorem CZ(a:k<v):ug rM (k*rM) (v*rM)=v -k:=by
 unfold ug;refine ae (G _<|ho k sf.aR) ?_;refine bk (od<|c_<|bb (cc k) a) λb c=>?_;subst c;have e:(b+1)*rM -1=b*rM+(rM -1):=by refine J (cw ..) ?_;rw[nq sf.aR]
 exact J e<|(wa<|mi sf.aR fp)▸B
theorem xX:rM*t*t=t*t*rM:=(fo ..).trans<|bs ..
theorem IU(l:sB X E y i x P A)(d:O[j]?=D (sj X b5))(n:vH P A)(o:z<rP*rP)(e:P z=0){a4:Prop}(q:∀p R b0,sB X p y R b0 P A->sG rP y E p->i<2->rW (a6+7) false 55 [.b<|j+6,H<|z*rM,H 22] (rO E O)=tf 4 (rO p O) ->a4) (r:∀f p R b0,sB X p y R b0 (th P z 7) A->sG rP y E p->i<=R+2->R+1<=i->rW (a6+7) false 55 [.b<|j+6,H<|z*rM,H 22] (rO E O)=rS .e (rO f O) ->rW (a6+7) false 58 [.b<|j+6,H<|z*rM] (rO f O)=rS .e (rO p O) ->a4):a4:=by
 have g:=z_ o;refine CD (a6:=a6+1) (u:=22) l d g (by refine ae (G _ wb) ?_;exact e) (by decide) _ (λh s t a b u c m=>?_) λh s t a b c m=>?_
 ·rw[wb,FM n e]at a;refine Ia (a6:=a6) (g:=false) a d g (by refine J wb<|J tC ?_;decide) _ λh k v w=>?_;rw[wb,tC,IT]at k;exact r _ _ _ _ k (c.aM v) b u m w
 ·exact q _ _ _ a c b m
theorem IV(w:sB X E y i x P A)(b:O[j]?=D (sj X b5))(L:vH P A)(S:wY b5=z*rM)(a2:wY ((z+1)*rM+h)=v*rM)(g:z+1<v)(N:∀k,z<=k->P k=0):Ae X E O y i P A j z v (rW (a6+9) false 80 [.b<|j+6,H h]<|rO E O):=by
 have q:=qF g;have a3:∀d,rW (a6+8) false 4 [ta,H b5] d=rS (H<|z*rM) d:=λd=>(zQ).trans<|G (λc=>rS (H c) d) S;have l:∀{a1:Mine.sp} {m:rV},rY (a6+8) none a1 [.rL<|.b<|j+6,.rL<|H h,.rL<|H<|z*rM,.rL<|H<|(z+1)*rM,.rL<|H<|v*rM] (rO E O)=m->rY (a6+8) none (.c (.a 2<|.f 52 (.aD (.a 0) 68)<|.c (.aD (.a 0) 63) .n)<|.c (.a 3<|.aB .a (.a 2)<|.aD (.aD (.a 0) 68) 58)<|.c (.a 4<|.f 52 (.aD (.a 0) 68)<|.c (.aB .a (.a 3)<|.a 1) .n) a1) [.rL<|.b<|j+6,.rL _,.rT,.rT,.rT] (rO E O)=m:=λe=>sO (ua B (sI b E) B B (rZ (xt B (sI b E) B) B)<|a3 _)<|sO (sb B (wv B (sI b E) B B)<|G (λc=>D<|H c) (cw z rM).symm)<|sO (ua B (sI b E) B B (rZ (sb B B B) B)<|(λd=>(zQ).trans<|G (λc=>rS (H c) d) a2) _) e;rcases cm (rP*rP) v with M|M
 ·exact .aI w .aX (.inr M)<|vN B B B<|l<|yF (sD B (wv B (sI b E) B B)<|wV<|xX▸ml M sf.aR) B
 ·have n:=λf=>Nat.not_le.mpr f<|xX▸cr rM M;refine IU w b L (ar q M) (N z<|bg z) (λp R b0 r o a m=>.aI r o (.inl<|ar a<|bx 2<|hb q)<|vN B B B<|l<|tK (sD B (wv B (sI b E) B B)<|vj<|g_ n)<|zy<|ur B (sI b E) B (rZ B<|rZ (sb (sb B B ui) B ui) B) m) λT p R b0 r o U a4 V W=>?_;have Y:=(Nat.succ_pred_eq_of_pos<|hb q).symm;have a5:=FO (a6:=a6) (q:=22) r b (λM e=>L M (by
   by_cases f:M/rM=z
   ·rw[f,tC]at e;exact absurd e<|yd B
   ·rw[sZ f]at e;exact e)) (af ..) (ml g sf.aR)<|g_ n
  have a0:uc (a6+8) false (.c (.a 2)<|.c (.aB .e (.aB .e (.l 91<|H 2)<|.l 87<|H 4)<|.l 90<|H 16) .n) [.rL<|.b<|j+6,.rL<|H h,.rL<|H<|z*rM,.rL<|H<|(z+1)*rM,.rL<|H<|v*rM] (rO E O)=uf _ (rO E O):=rZ B<|rZ (sb (sb B B ui) B ui) B;refine((ho _ sf.aR)▸(CZ g)▸a5) _ (λa7 a8 a9 s t u b1 a' m=>?_) λa7 a8 a9 b2 b3 s t u m=>?_
  ·exact .aJ s (o.aM t) (aa U<|aa (bv u 2)<|ao<|by refine Y▸?_;rfl) (aa (bw<|a' (hb g)<|(sZ<|pv z).trans<|N _<|ea z) a4)<|t_ B B B<|l<|tK (sD B (wv B (sI b E) B B)<|vj<|g_ n)<|tt (ur B (sI b E) B a0 V)<|tt (ur B (sI b T) B B W)<|tt (vh (rZ B<|rZ B<|rZ B<|rZ (sb (sb B B ui) B ui) B) m)<|za B B (wQ (sI b _) B)<|uJ<|yY<|rZ B<|rZ B B
  ·exact .aI s (o.aM t) (.inl<|bb U<|ar (i_ u 2)<|ao<|by refine Y▸?_;rfl)<|vN B B B<|l<|tK (sD B (wv B (sI b E) B B)<|vj<|g_ n)<|tt (ur B (sI b E) B a0 V)<|tt (ur B (sI b T) B B W)<|zy<|vh (rZ B<|rZ B<|rZ B<|rZ (sb (sb B B ui) B ui) B) m
end
abbrev uE(j g d:Nat):sC:=.sW 15 [(73,.b<|j+6),(92,H g),(93,H d)]
noncomputable def uN(d h:Nat):Nat:=(d -h)/16*16
def IW(X:Nat)(E:sc)(O:rR)(y:Nat->Prop)(i:Nat)(x:Nat->Option Nat)(P A:Nat->Nat)(k:rN)(m:Mine.rQ rN):Prop:=∀a:Prop,(∀(p:sc),uV X E y i x P A p->m=rS k (rO p O) ->a) ->a
section
theorem C0(a:h<=d):uN d h+h<=d:=aa (bv (Nat.div_mul_le_self ..) h)<|ao<|nv a
theorem FP(a:O[o]?=D (uE j g d))(b:w.length<=d)(a7:uN d w.length<g):rW (a6+1) false 67 [.b<|o+6,sk w] (rO E O)=tf 4 (rO E O):=sE (.i _<|.d _<|.d _<|.d _<|.d _<|.i _<|.h true .e) λf=>f (sI a E) wH (tS b) (vO<|af ..) ((tS<|Nat.mod_le ..).trans<|G (λc=>D _)<|Bg.trans<|bs ..) (sI a E)<|vv a7
theorem FQ{b5:Nat}{P:Nat->Nat}(e:sB X E y i x P A)(b:O[j]?=D (sj X b5))(a:O[o]?=D (uE j g d))(f:w.length<=d)(a7:g<=uN d w.length)(h:vx P (uN d w.length) w.length)(k:sw w)(l:w.length<=4999): IW X E (O.set o<|uE j g<|uN d w.length) y i x P (tW A (uN d w.length) w) (H<|uN d w.length) (rW (a6+9) false 67 [.b<|o+6,sk w]<|rO E O):=FH e b h k l _ λp n m=>(λ_ i=>i p n<|t_ B B B<|sO (sb (xt B (sI a E) B) (tA (rZ B B) B wH)<|tS f)<|xl B (sb B B<|vO<|af ..) ((tS<|Nat.mod_le ..).trans<|G (λc=>D _)<|Bg.trans<|bs ..)<|tK (sD B (xt B (sI a E) B)<|uK a7)<|tt (sN (xt B (sI a E) B) (Fv (sI b E) B) B m)<|za B B (wQ (sI a p) B)<|uJ B)
end
def s_:Nat->List (List Nat) ->List Nat
 |_,[]=>[]
 |s,g::q=>uN s g.length::s_ (uN s g.length) q
def u_:Nat->List (List Nat) ->Nat
 |s,[]=>s
 |s,g::q=>u_ (uN s g.length) q
def ww:(Nat->Nat) ->Nat->List (List Nat) ->Nat->Nat
 |A,_,[]=>A
 |A,s,g::q=>ww (tW A (uN s g.length) g) (uN s g.length) q
def Ag(X:Nat)(E:sc)(O:rR)(y:Nat->Prop)(i:Nat)(x:Nat->Option Nat)(P A:Nat->Nat)(j o g d:Nat)(z:List (List Nat))(m:Mine.rQ (List rN)):Prop:=∀a:Prop,(∀(p:sc),uV X E y i x P (ww A d z) p->(∀m∈s_ d z,g<=m) ->g<=u_ d z->u_ d z<=d->m=uf ((s_ d z).map H) (rO p<|O.set o<|uE j g<|u_ d z) ->a) ->(∀(p:sc) (a7:Nat->Nat) (M:Nat),uV X E y i x P a7 p->(∃m∈s_ d z,m<g) ->m=D (.b 4,rO p<|O.set o<|uE j g M) ->a) ->a
theorem Ag.aJ{P:Nat->Nat}(a:uV X E y i x P (ww A d z) p)(S:(∀m∈s_ d z,g<=m))(b:g<=u_ d z)(c:u_ d z<=d)(e:m=uf ((s_ d z).map H) (rO p<|O.set o<|uE j g<|u_ d z)):Ag X E O y i x P A j o g d z m:=λ_ i _=>i p a S b c e
theorem Ag.aI{P:Nat->Nat}{m:Mine.rQ (List rN)}(a:uV X E y i x P a7 p)(S:(∃m∈s_ d z,m<g))(b:m=D (.b 4,rO p<|O.set o<|uE j g M)):Ag X E O y i x P A j o g d z m:=λ_ _ i=>i p a7 M a S b
section
theorem C1(a:u z d=tf h a9):tO u (z::w) d=D (.b h,a9):=by
 refine(?_:rQ.aC _ (λk d=>rQ.aC _ λV d=>sv _ d)=_);refine J a ?_;rfl
theorem FR(a:u z d=rS v a9)(i:tO u w a9=D (.b h,b)):tO u (z::w) d=D (.b h,b):=by
 show rQ.aC _ (λk d=>rQ.aC _ λV d=>sv _ d)=_;refine J a<|(?_:rQ.aC _ (λV d=>sv _ d)=_);refine J i ?_;rfl
end
section
variable{b h i X a6 b5 j o g d:Nat} {x:Nat->Option Nat} {P A:Nat->Nat} {y:Nat->Prop} {E:sc} {O:rR} {a' b2 b6 a2 b8 Y:sm}
theorem vx.cO(e:vx P b h)(a:b<=N)(f:N+i<=b+h):vx P N i:=⟨aa f e.g,λc k l=>e.j c (aa a k)<|ar l f⟩
theorem IX(a:w.length+f.length<=1000000):tJ .a (sk w) (sk f)=D (sk<|w++f):=by
 show si _ _=_;rw[a_,a_];refine J (vc a)<|sa fg ?_;rfl
def C2:Q:=.f 39 (.a 0)<|.c (.aB .a (.k .b<|.c (.a 6) .n)<|.k .b<|.c (.d<|H 1) .n) .n
theorem IY(L:O[j]?=D (sj X b5))(N:o≠j)(n:o<O.length)(R:vx P g h):∀{a5:List (List Nat)} {d:Nat} {E:sc} {A:Nat->Nat},sB X E y i x P A->(∀c∈a5,sw c/\c.length<g/\c.length<4999) ->g<=d->d<=g+h-> Ag X E O y i x P A j o g d (a5.map (·++[0])) (tO (vm (a6+9) false [6] false [0] C2 [.rL<|.b<|o+6,a',b2,b6,a2,b8,Y]) (a5.map sk)<|rO E<|O.set o<|uE j g d):=by
 intro a5;induction a5 with
 |nil=>
  exact @λd E A l _ a7 _=>.aJ ⟨l,.aX⟩ (λ_ a=>absurd a fe) a7 (bg _) B
 |cons c a5 U=>
  exact @λd E A l t a7 u=>by
   refine ye (t c<|.head _) λV W v=>?_;have w:(c++[0]).length=c.length+1:=bm;have p:(c++[0]).length<=d:=J w<|aa W a7;have q:=C0 p;have T:∀{E m},rW (a6+9) false 67 [.b<|o+6,sk<|c++[0]] (rO E<|O.set o<|uE j g d)=m->vm (a6+9) false [6] false [0] C2 [.rL<|.b<|o+6,a',b2,b6,a2,b8,Y] (sk c) _=m:=λ{E m} a=>(ur B (sI (hk n) E) B (rZ (sb (tA B B B) (tA B B<|by kernel_rfl)<|IX<|aa (bw<|bl v)<|sz B) B) a:rU (a6+9) false C2 [.rL<|.b<|o+6,.rT,.rT,.rT,.rT,.rT,.rL _] (rO E<|O.set o<|uE j g d)=m)
   rcases cm _ g with f|f
   ·exact .aI ⟨l,.aX⟩ (sn _ (.head _) f)<|C1<|T<|FP (hk n) p f
   ·refine FQ (a6:=a6) l ((jg N).trans L) (hk n) p f (R.cO f<|aa q u) (λM a0=>(List.mem_append.mp a0).elim (V M) λa=>List.mem_singleton.mp a▸(sz B)) (J w v) _ λz r m=>?_;rw[io]at m;refine U r.a (λM a=>t M<|.tail _ a) f (aa (aa (ax ..) q) u) _ (λz k S a1 a3 s=>?_) λz a4 a8 k S s=>?_
    ·exact .aJ ⟨k.a,r.b.aM k.b⟩ (λM a=>(List.mem_cons.mp a).elim (λe=>J e f)<|S M) a1 (aa a3<|aa (ax ..) q)<|uZ (T m) s
    ·exact .aI ⟨k.a,r.b.aM k.b⟩ (S.imp λ_ a=>⟨.tail _ a.1,a.2⟩)<|FR (T m) s
end
noncomputable def tn(k:Nat):List Nat:=[k/2^(8*0) %256,k/2^(8*1) %256,k/2^(8*2) %256,k/2^(8*3) %256]
section
variable{i:Nat} {d:rR} {a:tu} {T a' b2 a2 b8 Y:sm} {w:List Nat}
theorem Bh(b:w.length<=1000000):rY i a EH [T,a',b2,.sl<|.tH<|tT w,.rL<|H k,.rL<|H r,Y] d=ss [T,a',b2,.sl<|.tH<|tT<|w++[k/2^(8*r) %256],.rL<|H k,.rL<|H r,Y] d:=ys B B (sb (sb B (sb B B<|tF B) BH) B E6) (E5 b<|cv _<|af ..) sY
theorem IZ:tN (.o 0 (4:Nat) 1)=D [H 0,H 1,H 2,H 3]:=by kernel_rfl
theorem ze(a:w.length+(h+1)<=1000000):(w++[c]).length+h<=1000000:=aa (ao<|by refine J bm ?_;refine ae (bf ..) ?_;rw[bh h];rfl) a
theorem I0(b:w.length+4<=1000000):rY i a A_ [T,a',b2,.sl<|.tH<|tT w,.rL<|H k,b8,Y] d=ss [T,a',b2,.sl<|.tH<|tT<|w++tn k,.rL<|H k,.rL<|H 3,Y] d:=by
 have e:w++tn k=(((w++[k/2^(8*0) %256])++[k/2^(8*1) %256])++[k/2^(8*2) %256])++[k/2^(8*3) %256]:=by
  refine J (cp ..) ?_;rw[cp,cp];rfl
 exact J e<|wG (tA (rZ B B) B B) IZ (tl B (Bh<|aa (ax ..) b)<|tl B (Bh<|aa (ax _ 3)<|ze b)<|tl B (Bh<|aa (ax _ 2)<|ze<|ze b)<|tl B (Bh<|aa (ax _ 1)<|ze<|ze<|ze b) B) sY
theorem I1:∀{V w:List Nat} {a2 b8:sm},w.length+4*V.length<=1000000->∃c e,ti i a [4] false A_ (V.map H) [T,a',b2,.sl<|.tH<|tT w,a2,b8,Y] d=ss [T,a',b2,.sl<|.tH<|tT<|w++V.flatMap tn,c,e,Y] d:=by
 intro V;induction V with
 |nil=>
  exact @λw a2 b8 _=>⟨_,_,(G (λw=>ss [T,a',b2,.sl<|.tH _,a2,b8,Y] d)<|dh w).symm⟩
 |cons k V f=>
  exact @λw a2 b8 b=>by
   have b:w.length+(4*V.length+4)<=1000000:=b;refine vT (f (w:=w++tn k) (a2:=.rL<|H k) (b8:=.rL<|H 3)<|aa (ao<|by refine J bm ?_;refine ae (bf ..) ?_;rw[bh<|4*V.length];rfl) b) λc e m=>?_;rw[cp]at m;exact vK c e<|tl B (I0<|aa (bc (af ..) _) b) m
end
def vf(a1:List Nat):List Nat:=(a1++[0]).flatMap tn
def zf(X:Nat)(E:sc)(O:rR)(y:Nat->Prop)(i:Nat)(x:Nat->Option Nat)(P A:Nat->Nat)(j o g:Nat)(a1:List Nat)(s:Nat)(m:Mine.rQ rN):Prop:=∀a:Prop,(∀(p:sc),uV X E y i x P (tW A s<|vf a1) p->(∀m∈a1,g<=m) ->g<=s->m=rS (H s) (rO p<|O.set o<|uE j g s) ->a) ->(∀(p:sc) (a7:Nat->Nat) (M:Nat),uV X E y i x P a7 p->(∃m∈a1,m<g)\/s<g->m=tf 4 (rO p<|O.set o<|uE j g M) ->a) ->a
theorem zf.aJ{P:Nat->Nat}(a:uV X E y i x P (tW A s<|vf a1) p)(S:(∀m∈a1,g<=m))(b:g<=s)(c:m=rS (H s) (rO p<|O.set o<|uE j g s)):zf X E O y i x P A j o g a1 s m:=λ_ i _=>i p a S b c
theorem zf.aI{P:Nat->Nat}(a:uV X E y i x P a7 p)(S:(∃m∈a1,m<g)\/s<g)(b:m=tf 4 (rO p<|O.set o<|uE j g M)):zf X E O y i x P A j o g a1 s m:=λ_ _ i=>i p a7 M a S b
section
theorem FS(a:rU t g b7 o d=rS z a9)(b:tN z=D w)(c:w.length<=1000000)(e:tO (vm t g U E S b' o) w a9=D (.b h,f)):rU t g (.o U E S b7 b') o d=tf h f:=by
 show rQ.aC (rU t g b7 o d) (λk d=>(tN k).bind λw=>si (tQ w.length)<|rQ.aC (tO (vm t g U E S b' o) w d) λV d=>sv (rN.c V) d)=_;refine J a<|(?_:((tN z).bind λw=>si _<|rQ.aC (tO _ w a9) λV d=>sv _ d)=_);refine J b<|(?_:si _ (rQ.aC _ λV d=>sv _ d)=_);refine J (vc c)<|J e ?_;rfl
theorem FT(b:rU t a.isSome e o d=tf h a9):rY t a (.c (.d e) a1) o d=uI h o a9:=by
 refine(?_:rV.aF (rV.aN (rU t a.isSome e o d) o _) _=_);refine J b ?_;rfl
end
section
variable{k c s b5:Nat} {P:Nat->Nat}
theorem C3:∀{z:List (List Nat)} {s:Nat},(s_ s z).length=z.length:=by
 intro z;induction z with
 |nil=>
  exact @λ_=>B
 |cons _ _ a=>
  exact @λ_=>G _ a
theorem wx:∀c∈tn k,c<256:=λc a=>by
 unfold tn at a
 rcases List.mem_cons.mp a with a|a
 ·exact J a<|cv _<|by decide
 rcases List.mem_cons.mp a with a|a
 ·exact J a<|cv _<|by decide
 rcases List.mem_cons.mp a with a|a
 ·exact J a<|cv _<|by decide
 ·exact J (List.mem_singleton.mp a)<|cv _<|by decide
theorem I2:∀{a1:List Nat},(a1.flatMap tn).length=4*a1.length:=@λa1=>uP (B) (λk a1 a=>(bm).trans<|(G _ a).trans<|bh ..) a1
theorem Ah:(vf a1).length=4*(a1.length+1):=I2.trans<|G _ bm
theorem I3:sw (vf a1):=λc a=>(List.mem_flatMap.mp a).elim λ_ a=>wx c a.2
theorem I4(a:w.length+f.length<=1000000):tJ .a (.c w) (.c f)=D (.c<|w++f):=G (λM=>si M _)<|vc a
theorem I5(n:uV X E y i x P A b)(S:∀m∈a1,g<=m)(a7:g<=U)(L:U<=g+h)(M:O[j]?=D (sj X b5))(N:o≠j)(p:o<O.length)(T:vx P g h)(r:a1.length<=1000)(l:4*(a1.length+1)<=U) (V:∀{m},rY (a6+9) none (.c (.o 3 .b)<|.c (.h [4] false (.aB .a (.a 2)<|.m<|.c (.d<|H 0) .n) A_)<|.c (.d<|.f 39 (.a 0)<|.c (.C 3) .n) .n) [.rL<|.b<|o+6,a',.rL<|.c<|a1.map H,.rT,.rT,.rT,.rT] (rO b<|O.set o<|uE j g U)=m->rY (a6+9) none a [.rL<|.b<|o+6,a',.rT,.rT,.rT,.rT,.rT] d=m)(t:W=(rY (a6+9) none a [.rL<|.b<|o+6,a',.rT,.rT,.rT,.rT,.rT] d).bQ): zf X E O y i x P A j o g a1 (uN U (vf a1).length) W:=by
 have u:=Ah (a1:=a1);refine vT (I1 (i:=a6+9) (a:=none) (V:=a1++[0]) (w:=[]) (d:=rO b<|O.set o<|uE j g U) (T:=.rL<|.b<|o+6) (a':=a') (b2:=.rL<|.c<|a1.map H) (a2:=.rT) (b8:=.rT) (Y:=.rT) (by
  refine J bm ?_;exact aa (ao<|bt _)<|aa (bx 4<|bw r)<|af ..)) λY a0 a2=>?_
 have v:∀{m:Mine.rQ rN},rW (a6+9) false 67 _ _=m->rU (a6+9) false (.f 39 (.a 0)<|.c (.C 3) .n) [.rL<|.b<|o+6,a',.rL<|.c<|a1.map H,.sl<|.tH<|tT<|vf a1,Y,a0,.rT] (rO b<|O.set o<|uE j g U)=m:=λe=>ur B (sI (hk p) b) B (rZ (AQ B) B) e;have w:=λ{q} R=>V (m:=q)<|xV<|wG (sb B B<|I4<|aa (ao<|G (·+1)<|a_ _)<|aa (bw r)<|af ..) (G D (fg (l₂:=[0])).symm) a2 R;rw[<-u]at l;rcases cm _ g with f|f
 ·exact .aI n (.inr f)<|t.trans<|G rV.bQ<|w<|FT<|v<|FP (hk p) l f
 ·refine FQ (a6:=a6) n.a ((jg N).trans M) (hk p) l f (T.cO f<|aa (C0 l) L) I3 (aa (ao u)<|aa (bx 4<|bw r)<|af ..) _ λa3 z m=>?_;rw[io]at m;exact .aJ ⟨z.a,n.b.aM z.b⟩ S f<|t.trans<|G rV.bQ<|w<|uJ<|v m
theorem I6(u:sB X E y i x P A)(b:O[j]?=D (sj X b5))(f:o≠j)(l:o<O.length)(n:vx P g h){a5:List (List Nat)}(v:∀c∈a5,sw c/\c.length<g/\c.length<4999)(a7:g<=d)(p:d<=g+h)(q:a5.length<=1000)(w:g<=u_ d (a5.map (·++[0])) ->4*(a5.length+1)<=u_ d (a5.map (·++[0]))): zf X E O y i x P (ww A d<|a5.map (·++[0])) j o g (s_ d<|a5.map (·++[0])) (uN (u_ d<|a5.map (·++[0])) (vf<|s_ d<|a5.map (·++[0])).length) (rW (a6+10) false 68 [.b<|o+6,.c<|a5.map sk]<|rO E<|O.set o<|uE j g d):=by
 have V:(a5.map sk).length<=1000000:=aa (ao<|a_ _)<|aa q<|sz B;have r:(s_ d<|a5.map (·++[0])).length=a5.length:=C3.trans<|a_ _;refine IY (a6:=a6) (a':=.rL<|.c<|a5.map sk) (b2:=.rT) (b6:=.rT) (a2:=.rT) (b8:=.rT) (Y:=.rT) b f l n u v a7 p _ (λz a S t L m=>?_) λz M N a S m=>?_
 ·exact I5 (a:=EI) a S t (aa L p) b f l n (r.symm▸q) (r.symm▸w t) (λe=>sO (vR B B V m) e)<|zB (N:=EJ) B B B
 ·exact .aI a (.inl S)<|vN B B B<|AD<|FS B B V m
end
def to(j:List Nat):rN:=.s 9 [(62,sk j)]
noncomputable def tD(j:List Nat)(s h:Nat):List Nat:=(j.take<|s+h).drop s
section
variable{i k:Nat} {a:tu} {d:rR} {U:List Nat} {T a' b2 b6 L:sm}
theorem C4(b:s+h<=j.length):rW (i+1) g 15 [to j,H s,H h,.f v] d=rS (sk<|tD j s h) d:=sE (.f<|.d _<|.h false<|.f<|.a _ _ .e) λf=>f wH (vj b)<|G (se · d) B2
theorem C5(b:j.length<s+h)(c:v.length<=1000000):rW (i+1) false 15 [to j,H s,H h,.f v] d=tf 2 d:=vN B B B (yF (a3:=[.rL<|to j,.rL<|H s,.rL<|H h,.rL<|.f v]) (sD (sb B B B) (tA (rZ B B) B wH)<|wV b) (by
  refine(?_:rV.aF (si ((si _ _).isSome)<|D (.uu 2,_,d)) _=_);refine J (vc c) ?_;rfl))
theorem I7:∀{U:List Nat} {k R:Nat} {L:sm},sw U->k<256^R->R+U.length<=7->∃b,ti i a [5] false Es (U.map H) [T,a',b2,b6,.rL<|H k,L] d=ss [T,a',b2,b6,.rL<|H<|B3 k U,b] d:=by
 intro U;induction U with
 |nil=>
  exact @λ_ _ L _ _ _=>⟨L,B⟩
 |cons c q h=>
  exact @λk R L e f g=>by
   have a7:=e c<|.head _;have j:256*k+c<256^(R+1):=by
    refine J (iy ..) ?_;rw[bs<|256^R];exact ar (ci a7 _)<|aa (ao (gz 256 k).symm)<|bx 256 f
   obtain⟨b,m⟩:=h (λM a=>e M<|.tail _ a) j<|aa (ao<|ed R q.length) g;exact⟨b,tl B (sO (sb (sb B B<|yN (af ..)<|ar f<|aa (ql (sz B)<|aa (ax R _) g)<|af ..) B<|ui.trans<|G (λc=>D _)<|J (bs ..)<|(ka a7 k).symm) sY) m⟩
theorem FU(b:s+h<=j.length):(tD j s h).length=h:=by
 exact ae hw<|J ek<|J (hh b)<|e_ ..
theorem I8(e:sw j)(f:h<=7)(b:s+h<=j.length):rW (i+2) g 16 [to j,H s,H h,.f v] d=rS (H<|tk<|tD j s h) d:=by
 refine bk (I7 (i:=i+1) (a:=tZ g) (d:=d) (T:=.rL<|to j) (a':=.rL<|H s) (b2:=.rL<|H h) (b6:=.rL<|.f v) (U:=(tD j s h).reverse) (R:=0) (L:=.rT) (λc a=>(λc a=>e c<|he<|kl a) c<|List.mem_reverse.mp a) fp<|by refine J jl<|J (FU b) ?_;exact aa (ao<|bt h) f) λl m=>?_;rw[EY]at m;exact t_ B B B<|sO B<|wG (wS (sN B B B<|C4 b) B EX) EW m<|uJ B
end
def uk(N:Bool)(k:rN)(d:rR):rQ rN:=bif N then rS k d else tf 2 d
def Ai(N:Bool)(o:sg)(d:rR):rV:=bif N then ss o d else uI 2 o d
section
variable{t u:Nat} {N:Bool} {e:Q} {o:sg} {d:rR} {k:rN} {V:List rN}
theorem xv(a:N=true):uk N k d=rS k d:=by refine J a ?_;rfl
theorem I9(a:rU t false n o d=tf 2 d):rY t none (.c (.h U E n l) a1) o d=uI 2 o d:=by
 refine(?_:rV.aF (rV.aN (rU t false n o d) o _) _=_);refine J a ?_;rfl
theorem I'(a:rU t false e o d=tf 2 d):rU t false (.r b e) o d=tf 2 d:=by
 refine(?_:rQ.aC (rU t false e o d) (λk d=>si (yk b d k) _)=_);refine J a ?_;rfl
theorem Bi{a:sx}(a8:uR u=D a)(b:a.c=false)(c:uA a V=D o)(f:rU t false e o d=uk N k d)(a7:a.d=.c (.d e) .n:=by rfl):rW (t+1) false u V d=uk N k d:=by
 cases N with
 |false=>exact vN a8 b c<|(G (λl=>rY t none l o d) a7).trans<|FT f
 |true=>exact t_ a8 b c<|(G (λl=>rY t none l o d) a7).trans<|uJ f
theorem yy(a:rU t false n o d=uk N (.d<|!M) d)(c:rY t none (.c (.j 2 b) .n) o d=uI 2 o d)(i:rY t none a1 o d=Ai f o d):rY t none (.c (.b n (.c (.j 2 b) .n) .n) a1) o d=Ai ((N&&M)&&f) o d:=by
 cases N with
 |false=>exact(by
    refine(?_:rV.aF (rV.aN (rU t false n o d) o _) _=_);refine J a ?_;rfl)
 |true=>
  cases M with
  |false=>exact yF a c
  |true=>exact tK a i
theorem zg(a:rU t false e o d=uk N k d)(b:rU t false c0 o d=rS v d)(c:tm d f k v=D M):rU t false (.aG f e c0) o d=uk N (.d M) d:=by
 cases N with
 |false=>exact(by
    refine(?_:rQ.aC (rU t false e o d) (λk d=>si _<|rQ.aC (rU t false c0 o d) λv d=>wK _ k v d)=_);refine J a ?_;rfl)
 |true=>exact sD a b c
end
section
theorem FV(a:v.length<=1000000):rW (i+1) false 15 [to j,H s,H h,.f v] d=uk (decide<|s+h<=j.length) (sk<|tD j s h) d:=by
 rcases cm j.length _ with f|f
 ·exact(az<|cd<|Nat.not_le.mpr f)▸(C5 f a)
 ·exact(bd f)▸(C4 f)
theorem Bj(a:sw j)(b:h<=7)(c:v.length<=1000000):rW (i+2) false 16 [to j,H s,H h,.f v] d=uk (decide<|s+h<=j.length) (H<|tk<|tD j s h) d:=by
 rcases cm j.length _ with f|f
 ·exact(az<|cd<|Nat.not_le.mpr f)▸(vN B B B<|sO B<|I9<|I'<|sN B B B<|C5 f c)
 ·exact(bd f)▸(I8 a b f)
theorem C6(a:sw j):rW (i+3) false 17 [to j,H s] d=uk (decide<|s+2<=j.length) (H<|tk<|tD j s 2) d:=Bi B B B<|sN B B B<|Bj (v:=_) a (af ..)<|af ..
theorem C7(a:sw j):rW (i+3) false 18 [to j,H s] d=uk (decide<|s+4<=j.length) (H<|tk<|tD j s 4) d:=Bi B B B<|sN B B B<|Bj (v:=_) a (af ..)<|af ..
end
section
theorem FW(a:rU t false e o d=uk N k d)(i:N=true->rY t none a1 o d=Ai b o d):rY t none (.c (.e e) a1) o d=Ai (N&&b) o d:=by
 cases N with
 |false=>exact zy a
 |true=>exact tt a<|i B
theorem FX(a8:uR u=D a)(b:a.c=false)(c:uA a V=D o)(e:rY t none a.d o d=Ai M o d):rW (t+1) false u V d=uk M .e d:=by
 cases M with
 |false=>exact vN a8 b c e
 |true=>exact vi a8 b c e
theorem I_(a:rU t false e o d=rS (.d M) d)(b:rU t false c0 o d=rS (.d c) d):rU t false (.bL<|.c e<|.c c0 .n) o d=rS (.d<|M||c) d:=by
 cases M with
 |false=>exact vk<|vP a<|wl b
 |true=>exact vk<|zF a
end
section
variable{j w f:List Nat}
theorem FY:∀{w f:List Nat},tT w=tT f->w=f
 |[],[],_=>B
 |b::w,h::f,a=>by
  have a:=List.cons.inj a;exact J (fv a.1)<|G _<|FY a.2
 |[],h::f,a=>Ei a
 |b::w,[],a=>Cb a
theorem Ja:tm d .a (sk w) (sk f)=D (!decide (w=f)):=G (λg=>D<|!g)<|decide_eq_decide.mpr ⟨FY,G tT⟩
noncomputable def Jb:List Nat:=[104,101,97,100,101,114]
theorem C8(a:sw j):rW (i+2) false 16 [to j,H s,H 1] d=uk (decide<|s+1<=j.length) (H<|tk<|tD j s 1) d:=(show rW _ false 16 [to j,H s,H 1] d=rW _ false 16 [to j,H s,H 1,.f Jb] d from B).trans<|Bj a (af ..)<|af ..
def FZ(j:List Nat):Bool:=(decide (0+4<=j.length)&&decide (tD j 0 4=[127,69,76,70]))&&((decide (4+1<=j.length)&&decide (tk (tD j 4 1)=1))&&((decide (5+1<=j.length)&&decide (tk (tD j 5 1)=1))&&((decide (6+1<=j.length)&&decide (tk (tD j 6 1)=1))&&true)))
def wR(j:List Nat):Bool:=FZ j&&(decide (0+52<=j.length)&&((true&&decide (tk (tD j 16 2)=2))&&((true&&decide (tk (tD j 18 2)=243))&&((true&&!(decide (tk (tD j 40 2)<52)||!decide (tk (tD j 42 2)=32)))&&true))))
theorem C9(a:sw j)(e:52<=j.length->tk (tD j 20 4)=1):rW (i+4) false 72 [to j] d=uk (wR j) .e d:=FX B B B (FW (vh (rZ B B)<|FX B B B<|yy (zg (sN B B B<|FV<|af ..) B<|Ja (f:=[127,69,76,70])) B<|yy (zg (sN B B B<|C8 a) B wF) B<|yy (zg (sN B B B<|C8 a) B wF) B<|yy (zg (sN B B B<|C8 a) B wF) B B) λ_=>FW (sN B B B<|FV<|af ..) λb=>by
  have b:=aa (ao (bt 52).symm)<|av b;have c:∀s,s+2<=52->rW (i+3) false 17 _ d=rS _ d:=λs g=>(C6 a).trans<|xv<|bd<|aa g b;exact yy (zg (sN B B B<|c 16<|af ..) B wF) B<|yy (zg (sN B B B<|c 18<|af ..) B wF) B<|tK (sD (sN B B B<|(C7 a).trans<|xv<|bd<|aa (sz B) b) B<|wU<|e b)<|yy ((I_ (sD (sN B B B<|c 40<|sz B) B yQ)<|sD (sN B B B<|c 42<|sz B) B wF).trans<|by refine J (Bool.not_not ..) ?_;rfl) B B)
end
def sL(j:List Nat)(s:Nat):Nat:=tk<|tD j s 4
section
variable{s h:Nat} {d:rR}
theorem Jc(a:w.length<=l)(c:b+l<=4294967296):vb (i+2) false 7 [H b,sk w,H l,H u] d=rS (ve b w l u) d:=zP B B B B B (yu B B B<|yu B (tA (rZ B B) B B) B<|yu B (Cd (sD B B B) B B) B<|yu B B B<|tK (vk<|vP (sD B (tA (rZ B B) B wH)<|uK a)<|vP (sD B B<|uK<|cc b)<|wl<|sD (sb B B B) B<|vj c) sY) B
def F0(N:Bool)(V:List rN)(d:rR):Mine.rQ (List rN):=bif N then uf V d else D (.b 2,d)
theorem Jd{x:rN->rR->Mine.rQ rN}{U:Nat}{c:Nat->rN}(g:∀r,x (H r) d=uk (decide<|s+4*r+4<=U) (c r) d):∀{h r:Nat},s+4*r<=U->tO x ((eb r h).map H) d=F0 (decide<|s+4*(r+h)<=U) ((eb r h).map c) d:=by
 intro h;induction h with
 |zero=>
  exact @λr a=>by refine J (bd<|a) ?_;rfl
 |succ h i=>
  exact @λr a=>by
   have e:r+(h+1)=r+1+h:=(ed r h).symm;have b:=g r;rcases cm U _ with f|f
   ·rw[cd<|Nat.not_le.mpr f]at b;exact(cd λv=>Nat.not_le.mpr f<|aa (bc (bx 4<|e▸ax _ h) s) v)▸(C1 b)
   ·rw[bd f]at b;have m:=i (r:=r+1) f;rw[<-e]at m;rcases cm U _ with M|M
    ·rw[cd<|Nat.not_le.mpr M]at m⊢;exact FR b m
    ·rw[bd M]at m⊢;exact uZ b m
end
section
theorem Je(a:rU t false b7 o d=rS z d)(b:tN z=D w)(c:w.length<=1000000)(e:tO (vm t false U E S b' o) w d=F0 N V d):rU t false (.o U E S b7 b') o d=uk N (.c V) d:=by
 cases N with
 |false=>exact FS a b c e
 |true=>exact vR a b c e
end
section
variable{s b:Nat} {j:List Nat}
theorem Jf:tN (.o 0 (8:Nat) 1)=D ((eb 0 8).map H):=by kernel_rfl
def Jg(j:List Nat)(s:Nat):List rN:=(eb 0 8).map λr=>H<|sL j<|s+4*r
theorem F1(c:sw j)(e:v.length<=1000000):rW (i+4) false 19 [to j,H s,H 8,.f v] d=uk (decide<|s+32<=j.length) (.c<|Jg j s) d:=by
 have a:∀r,vm (i+3) false [4] false [0,1,3] (.f 54 (.a 0)<|.c (.aB .a (.a 1)<|.aB .b (.d<|H 4)<|.a 4)<|.c (.a 3) .n) [.rL<|to j,.rL<|H s,.rL<|H 8,.rL _,.rT] (H r) d=uk _ (H<|sL j _) d:=λr=>show rU _ false _ [.rL<|to j,.rL<|H s,.rT,.rL _,.rL<|H r] d=_ from sN B B (rZ (sb B (sb B B<|tF B) B) B)<|Bi B B B<|sN B B B<|Bj c (af ..) e
 refine Bi B B B<|Je B Jf (sz B) ?_;rcases cm j.length s with f|f
 ·exact(az<|cd λv=>Nat.not_le.mpr f<|aa (ax ..) v)▸(C1<|(a 0).trans<|by refine(cd λv=>Nat.not_le.mpr f<|aa (ax s 4) v)▸?_;rfl)
 ·exact Jd a f
end
structure C'(j:List Nat)(s:Nat):Prop where
 d:s+32<=j.length
 a:sL j s=1
 e:sL j (s+28)=1
 b:sL j (s+16)<=sL j (s+20)
 c:sL j (s+8)+sL j (s+20)<=4294967296
 f:0<sL j (s+20)
def vI(j:List Nat)(s:Nat):rN:=ve (sL j<|s+8) (tD j (sL j<|s+4)<|sL j<|s+16) (sL j<|s+20)<|sL j (s+24)&&&7
section
theorem Jh(b:rU t a.isSome e o d=tf h d):rY t a (.c (.p U e) a1) o d=uI h o d:=by
 refine(?_:rV.aF (rV.aN (rU t a.isSome e o d) o λk d=>rV.bZ _ d) _=_);refine J b ?_;rfl
theorem F2(a:sw j)(b3:C' j s)(m:rY (i+4) none (.c (.a 10<|.f 34 (.a 0)<|.c (.a 3)<|.c (.a 6)<|.c (.d<|.f [97,32,115,101,103,109,101,110,116]) .n)<|.c (.d<|.s (.aG .d (.a 7)<|.d<|H 0) (.t 7<|.c (.a 4)<|.c (.a 10)<|.c (.a 7)<|.c (.aB .c (.a 8)<|.aB .e (.aB .e (.l 125<|H 4)<|.l 126<|H 2)<|.l 127<|H 1) .n)<|.d .e) .n) [.rL<|to j,.rL<|H s,.rL<|H<|sL j s,.rL<|H<|sL j<|s+4,.rL<|H<|sL j<|s+8,.rL<|H<|sL j<|s+12,.rL<|H<|sL j<|s+16,.rL<|H<|sL j<|s+20,.rL<|H<|sL j<|s+24,.rL<|H<|sL j<|s+28,.rT] d=q): rY (i+4) none EK [.rL<|to j,.rL<|H s,.rT,.rT,.rT,.rT,.rT,.rT,.rT,.rT,.rT] d=q:=AR (sN B B B<|(F1 a<|af ..).trans<|xv<|bd b3.d) B<|tK (sD B (yY<|rZ B<|rZ B B)<|show tm d .g (H _) _=D false by refine b3.a▸?_;rfl)<|tK (sD B B<|wU b3.a)<|tt (vh (rZ B<|rZ B<|rZ B<|rZ B<|rZ (G (λc=>rS _ d) b3.e) B)<|vi B B B<|tK (sD B B<|vj b3.b)<|tK (sD (sb B B B) B<|vj b3.c)<|tK (vk<|zF<|sD B B B) sY) m
theorem Ji(a:sw j)(b3:C' j s):rW (i+5) false 74 [to j,H s] d=uk (decide<|sL j (s+4)+sL j (s+16)<=j.length) (vI j s) d:=by
 rcases cm j.length _ with f|f
 ·exact(az<|cd<|Nat.not_le.mpr f)▸(vN B B B<|F2 a b3<|AD<|sN B B B<|C5 f<|af ..)
 ·exact(bd f)▸(t_ B B B<|F2 a b3<|sO (sN B B B<|C4 f)<|uJ<|Cd (sD B B<|wV b3.f) B<|yJ (rZ B<|rZ B<|rZ B<|rZ (sb B (sb (sb B B ui) B ui) B) B)<|Jc (aa (ao<|FU f) b3.b) b3.c)
end
def xb(e:Nat)(U:List rN):rN:=.s 8 [(7,H e),(66,.c U)]
section
theorem F3:rW (i+1) g 9 [ve b w l u] d=rS (H<|b+l) d:=sE (.f .e) λf=>f
theorem Jj:rW (i+1) g 11 [ve b w l u,H c] d=rS (.d<|!decide (u&&&c=0)) d:=sE (.f<|.h _ .e) λf=>f wF
theorem Jk:vb (i+2) false 8 [H e,.c U] d=rS (xb e U) d:=zP B B B B B (yu B B B<|yu B (tA (rZ B B) B B) B sY) B
theorem C_:vb (i+2) false 9 [sk j] d=rS (to j) d:=zP B B B B B (yu B (tA (rZ B B) B B) B sY) B
theorem Jl(S:b<=e)(a:e<b+l):rW (i+3) g 13 [xb e<|ve b w l u::U,H e] d=rS (ve b w l u) d:=sE (.o _ _ _ .e) λf=>f<|Ek B<|AE (sN B B B<|sE (.h true<|.a _ _<|.h true .e) λf=>f (zE S) F3<|vv a)<|uJ B
end
section
theorem Bk(a:sw j)(b:52<=j.length)(c:rW (i+5) false 74 [to j,H<|sL j 28+32*r] d=m):rU (i+5) false (.i 74<|.c (.a 1)<|.c (.aB .a (.f 54 (.a 1)<|.c (.d<|H 28) .n)<|.aB .b (.l 121<|H 32)<|.a 3) .n) [T,.rL<|to j,b2,.rL<|H r,a2,b8,Y] d=m:=vh (rZ B<|rZ (sb (sN B B B<|(C7 a).trans<|xv<|bd<|aa (sz B) b) (sb B B<|tF B) B) B) c
theorem Bl(a:sw j)(b:52<=j.length)(c:rW (i+5) false 74 [to j,H<|sL j 28+32*r] d=tf 2 d):rY (i+5) none zu [T,.rL<|to j,b2,.rL<|H r,a2,b8,Y] d=uI 2 [T,.rL<|to j,b2,.rL<|H r,a2,b8,Y] d:=AD<|Bk a b c
theorem Bm(a:sw j)(b:52<=j.length)(c:rW (i+5) false 74 [to j,H<|sL j 28+32*0] d=rS (vI j s) d):rY (i+5) none zu [T,.rL<|to j,.sl<|.sr [],.rL<|H 0,a2,b8,Y] d=ss [T,.rL<|to j,.sl<|.sr [vI j s],.rL<|H 0,.rL<|vI j s,b8,Y] d:=sO (Bk a b c)<|tK (sD B B B)<|tK (vk<|zF<|sD B B B)<|ys B B B B sY
theorem Jm{f:Nat}(a:sw j)(c:52<=j.length)(e:rW (i+5) false 74 [to j,H<|sL j 28+32*1] d=rS (vI j s) d):∃g,rY (i+5) none zu [T,.rL<|to j,.sl<|.sr [ve b w l u],.rL<|H 1,a2,b8,Y] d=bif decide (b+l<=sL j (s+8))then ss [T,.rL<|to j,.sl<|.sr [ve b w l u,vI j s],.rL<|H 1,g,b8,Y] d else uI 2 [T,.rL<|to j,.sl<|.sr [ve b w l u],.rL<|H 1,g,b8,Y] d:=by
 have n:rU (i+5) false (.bC<|.c (.aG .d (.y 2)<|.d<|H 0)<|.c (.aG .b (.aD (.a 4) 2)<|.f 6 (.E 2<|.bW<|.d<|H 1) .n) .n) [T,.rL<|to j,.sl<|.sr [ve b w l u],.rL<|H 1,.rL<|vI j s,b8,Y] d=rS _ d:=vk<|vP (sD B B B)<|wl<|sD B (sN B B B F3) yQ;rcases cm _ _ with M|M
 ·rw[bd M]at n;exact(cd<|Nat.not_le.mpr M)▸⟨_,sO (Bk a c e)<|tK (sD B B B)<|yF n B⟩
 ·rw[cd<|Nat.not_lt.mpr M]at n;exact(bd M)▸⟨_,sO (Bk a c e)<|tK (sD B B B)<|tK n<|ys B B B B sY⟩
end
section
theorem Jn(b:sR o c=D j)(e:vr j=D k)(i:rY t a a1 (o.set c<|.rL k) d=m):rY t a (.c (.t c) a1) o d=m:=by
 show rV.aF ((sR o c).bind λj=>(vr j).bind λk=>D _) (rY t a a1)=m;refine J b<|(?_:rV.aF ((vr j).bind λk=>D _) _=m);exact J e i
end
section
theorem F4(a:sw j)(b:52<=j.length->tk (tD j 20 4)=1)(c:wR j=false):rW (i+6) false 75 [sk j] d=tf 2 d:=sE (.a _ _<|.s _ _ .e) λf=>f C_<|(C9 a b).trans<|by refine J c ?_;rfl
theorem Aj(a:sw j)(b:52<=j.length->tk (tD j 20 4)=1)(e:wR j=true)(f:52<=j.length)(g:tk (tD j 44 2)=h)(k:h<=1000000)(l:ti (i+5) none [3] false zu ((b_ h).map H) [.rL<|sk j,.rL<|to j,.sl<|.sr [],.rT,.rT,.rT,.rT] d=uI 2 a3 d):rW (i+6) false 75 [sk j] d=tf 2 d:=vN B B B<|sO (yJ (rZ B B) C_)<|tt (vh (rZ B B)<|(C9 a b).trans<|xv e)<|xV<|Ej (tA (rZ (sN B B B<|(C6 a).trans<|(xv<|bd<|aa (af ..) f).trans<|G (λc=>rS _ d) g) B) B B) (v_ k) l
theorem F5(a:sw j)(f:52<=j.length->tk (tD j 20 4)=1)(g:wR j=true)(e:52<=j.length)(k:tk (tD j 44 2)=h)(m:h<=1000000)(n:ti (i+5) none [3] false zu ((b_ h).map H) [.rL<|sk j,.rL<|to j,.sl<|.sr [],.rT,.rT,.rT,.rT] d=ss [.rL<|sk j,.rL<|to j,.sl<|.sr<|ve b w l u::U,b6,a2,b8,Y] d) (S:b<=sL j 24)(o:sL j 24<b+l)(p:u&&&1=1)(q:sL j 24 %4=0):rW (i+6) false 75 [sk j] d=rS (xb (sL j 24)<|ve b w l u::U) d:=t_ B B B (sO (yJ (rZ B B) C_) (tt (vh (rZ B B)<|(C9 a f).trans<|xv g) (xV (wG (tA (rZ (sN B B B<|(C6 a).trans<|(xv<|bd<|aa (af ..) e).trans<|G (λc=>rS _ d) k) B) B B) (v_ m) n <|tK (sD B B<|wk<|gj _)<|Jn B B<|sO (yJ (rZ (sN B B B<|(C7 a).trans<|xv<|bd<|aa (af ..) e)<|rZ B B) Jk)<|sO (sN B B B<|Jl S o)<|tK (vk<|vP (sD B B B)<|vP (xF (sN B B B<|Jj.trans<|G (λc=>rS (.d<|!decide (c=0)) d) p) B)<|wl<|sD (sb B B<|vO<|af ..) B<|wU q)<|uJ B))))
end
structure Da(j:List Nat)(s:Nat):Prop where
 a:sw j
 b:wR j=true
 c:tk (tD j 20 4)=1
 d:sL j (s+8)<=sL j 24
 e:sL j 24<sL j (s+8)+sL j (s+20)
 f:sL j (s+24)&&&7&&&1=1
 g:sL j 24 %4=0
section
theorem Db(a:wR j=true):52<=j.length:=aa (ao (bt 52).symm)<|av (Bool.and_eq_true_iff.mp (Bool.and_eq_true_iff.mp a).2).1
theorem Jo(a2:Da j s)(b:tk (tD j 44 2)=1)(m:rW (i+5) false 74 [to j,H<|sL j 28+32*0] d=uk N (vI j s) d):rW (i+6) false 75 [sk j] d=uk N (xb (sL j 24) [vI j s]) d:=by
 have a:=Db a2.b;cases N with
 |false=>exact Aj a2.a (λ_=>a2.c) a2.b a b (by decide)<|xP B<|Bl a2.a a m
 |true=>exact F5 a2.a (λ_=>a2.c) a2.b a b (by decide) (tl B (Bm a2.a a m) B) a2.d a2.e a2.f a2.g
theorem Jp(a2:Da j s)(b:tk (tD j 44 2)=2)(m:rW (i+5) false 74 [to j,H<|sL j 28+32*0] d=uk N (vI j s) d)(c:rW (i+5) false 74 [to j,H<|sL j 28+32*1] d=uk e (vI j M) d):rW (i+6) false 75 [sk j] d=uk (N&&(e&&decide (sL j (s+8)+sL j (s+20)<=sL j (M+8)))) (xb (sL j 24) [vI j s,vI j M]) d:=by
 have a:=Db a2.b;cases N with
 |false=>exact Aj a2.a (λ_=>a2.c) a2.b a b (by decide)<|xP B<|Bl a2.a a m
 |true=>
  cases e with
  |false=>exact Aj a2.a (λ_=>a2.c) a2.b a b (by decide)<|tl B (Bm a2.a a m)<|xP B<|Bl a2.a a c
  |true=>
   refine bk (Jm (b:=sL j<|s+8) (l:=sL j<|s+20) (u:=sL j (s+24)&&&7) (w:=tD j (sL j<|s+4)<|sL j<|s+16) (T:=.rL<|sk j) (a2:=.rL<|vI j s) (b8:=.rT) (Y:=.rT) (f:=0) a2.a a c) λf l=>?_;cases a8:decide (sL j (s+8)+sL j (s+20)<=sL j (M+8))with
   |false=>
    rw[a8]at l;exact Aj a2.a (λ_=>a2.c) a2.b a b (by decide)<|tl B (Bm a2.a a m)<|xP B l
   |true=>
    rw[a8]at l;exact F5 a2.a (λ_=>a2.c) a2.b a b (by decide) (tl B (Bm a2.a a m)<|tl B l B) a2.d a2.e a2.f a2.g
end
theorem vn(a:k<4294967296):tk (tn k)=k:=Fk (i:=4) (AM wx) a λr b=>by
 rw[BR wx];exact Eg B B B B b
def tB(e i:Nat):List Nat:=[127,69,76,70,1,1,1,0,0,0,0,0,0,0,0,0,2,0,243,0,1,0,0,0]++tn e++[52,0,0,0,0,0,0,0,0,0,0,0,52,0,32,0,i,0,0,0,0,0,0,0]
def ts(s b w l u:Nat):List Nat:=tn 1++tn s++tn b++tn b++tn w++tn l++tn u++tn 1
section
theorem Bn:wR (tB e i++q)=true:=by
 have o:∀h,h<=52->decide _=true:=λh a=>bd<|aa a<|aa (ax 52 q.length)<|ao (bm (as:=tB e i)).symm;unfold wR FZ;rw[o _<|af ..,o _<|af ..,o _<|af ..,o _<|af ..,o _<|af ..]
 rfl
end
section
theorem uy(a:sw w)(a3:sw q):sw (w++q):=λc A=>(List.mem_append.mp A).elim (a c)<|a3 c
theorem Dc(a:i<256):sw (tB e i):=uy (uy (by decide) wx)<|uy (w:=[52,0,0,0,0,0,0,0,0,0,0,0,52,0,32,0]) (by decide)<|uy (λc A=>J (List.mem_singleton.mp A) a)<|by decide
theorem Ak:sw (ts s b w l u):=uy (uy (uy (uy (uy (uy (uy wx wx) wx) wx) wx) wx) wx) wx
end
section
variable{s b w l u:Nat} {j:List Nat}
theorem vA(a:h<1000000):h<4294967296:=ce a<|af ..
structure xc(j:List Nat)(s m b w l u:Nat):Prop where
 y:s+32<=j.length
 z:sL j s=tk (tn 1)
 v:sL j (s+4)=tk (tn m)
 q:sL j (s+8)=tk (tn b)
 r:sL j (s+16)=tk (tn w)
 p:sL j (s+20)=tk (tn l)
 x:sL j (s+24)=tk (tn u)
 A:sL j (s+28)=tk (tn 1)
theorem Dd:xc (tB e i++(ts s b w l u++q)) 52 s b w l u:=⟨af 84 q.length,B,B,B,B,B,B,B⟩
theorem xc.aJ(b3:xc j n s b w l u)(c:w<=l)(d:0<l)(a:b+l<1000000):C' j n:=by
 have a1:=vn<|vA<|bb (af ..) a;have e:=vn<|vA<|bb (ax ..) a;refine⟨b3.y,b3.z,b3.A,?_,?_,?_⟩
 ·exact b3.r▸b3.p▸(az<|vn<|vA<|bb (aa c<|af ..) a)▸(az a1)▸c
 ·exact b3.q▸b3.p▸(az e)▸(az a1)▸(bl<|vA a)
 ·exact b3.p▸(az a1)▸d
end
section
theorem Jq:xc (tB e i++(ts s b w l u++(ts M a5 f Y o++q))) 84 M a5 f Y o:=⟨af 116 q.length,B,B,B,B,B,B,B⟩
theorem xc.fU(b3:xc j n s b w l u)(d:s<1000000)(e:w<=l)(a:b+l<1000000)(c:u<8):vI j n=ve b (tD j s w) l u:=by
 have f:=vn<|vA<|bb (ax ..) a;have a0:=vn<|vA<|bb (aa e<|af ..) a;unfold vI;exact b3.v▸b3.q▸b3.r▸b3.p▸b3.x▸(az<|vn<|vA<|bb (af ..) a)▸(az f)▸(az a0)▸(az<|vn<|vA d)▸(az<|vn<|ce c<|af ..)▸(G _<|(hn u 3).trans<|fi c)
end
section
theorem Jr(b:sw j)(a:j.length<52):rW (t+6) false 75 [sk j] d=tf 2 d:=F4 b (λf=>absurd f<|Nat.not_le.mpr a) (by
 unfold wR;refine(az<|cd<|λf=>Nat.not_le.mpr a<|aa (ao (bt 52).symm) f)▸?_;exact ae (G _<|qf ..)<|(jw ..))
theorem F6(c:tk [i,0]=i)(f:0<i)(g:i<=1000000)(a:sw (tB e i++q))(m:rW (t+5) false 74 [to<|tB e i++q,H<|sL (tB e i++q) 28+32*0] d=tf 2 d):rW (t+6) false 75 [sk<|tB e i++q] d=tf 2 d:=by
 have b:=Db<|Bn (e:=e) (i:=i) (q:=q);refine bk (od<|c_ f) λi h=>?_;subst h;exact Aj a (λ_=>B) Bn b c g (by
  rw[lq];exact xP B<|Bl a b m)
theorem xc.iG(b3:xc j 52 m b w l u)(g:sw j)(h:wR j=true)(i:tk (tD j 20 4)=1)(a:sL j 24=e)(c:b+l<1000000)(d:u<8)(S:b<=e)(k:e<b+l)(n:u&&&1=1)(o:e %4=0):Da j 52:=by
 have f:=b3.q.trans<|vn<|vA<|bb (ax ..) c;refine⟨g,h,i,?_,?_,?_,a▸o⟩
 ·exact f▸a▸S
 ·exact f▸(b3.p.trans<|vn<|vA<|bb (af ..) c)▸a▸k
 ·refine J b3.x<|J (vn<|ce d<|af ..)<|J ((hn u 3).trans<|fi d) ?_;exact n
theorem xc.fV(b3:xc j n s b w l u)(g:sw j)(f:s<1000000)(c:w<=l)(h:0<l)(e:b+l<1000000)(i:u<8):rW (t+5) false 74 [to j,H n] d=uk (decide<|s+w<=j.length) (ve b (tD j s w) l u) d:=by
 have a:=Ji (i:=t) (d:=d) g<|b3.aJ c h e;have a:=(vn<|vA<|bb (aa c<|af ..) e)▸(vn<|vA f)▸b3.r▸b3.v▸(b3.fU f c e i)▸a;exact a
theorem F7(g:sw (tB e 1++(ts 84 b w l u++N)))(i:w<=l)(n:0<l)(c:b+l<1000000)(f:u<8)(S:b<=e)(j:e<b+l)(o:u&&&1=1)(p:e %4=0):rW (t+6) false 75 [sk<|tB e 1++(ts 84 b w l u++N)] d=uk (decide<|w<=N.length) (xb e [ve b (N.take w) l u]) d:=by
 have b3:=Dd (e:=e) (i:=1) (s:=84) (b:=b) (w:=w) (l:=l) (u:=u) (q:=N);have k:sL (tB e 1++(ts 84 b w l u++N)) 24=e:=vn<|ce j<|vA c;have q:=b3.fV (t:=t) (d:=d) g (by decide) i n c f;have m:=b3.fU (by decide) i c f;have r:tD (tB e 1++(ts 84 b w l u++N)) 84 w=N.take w:=G (λh=>((tB e 1++(ts 84 b w l u++N)).take h).drop 84)<|bh 84 w;rw[<-m,(decide_eq_decide.mpr (J (bh 84 w)<|qG):decide (84+w<=(tB e 1++(ts 84 b w l u++N)).length)=decide (w<=N.length))]at q;have a:=Jo (b3.iG g Bn B k c f S j o p) B q;rw[m,r,k]at a;exact a
theorem De(i:sw (tB e 2++(ts 116 b w l u++(ts (116+w) a5 f Y o++N))))(p:w<=l)(O:0<l)(g:b+l<1000000)(k:u<8)(S:b<=e)(s:e<b+l)(P:u&&&1=1)(R:e %4=0)(v:f<=Y)(T:0<Y)(m:a5+Y<1000000)(x:o<8)(y:116+w<1000000): rW (t+6) false 75 [sk<|tB e 2++(ts 116 b w l u++(ts (116+w) a5 f Y o++N))] d=uk (decide (w<=N.length)&&(decide (w+f<=N.length)&&decide (b+l<=a5))) (xb e [ve b (N.take w) l u,ve a5 ((N.take<|w+f).drop w) Y o]) d:=by
 have b3:=Dd (e:=e) (i:=2) (s:=116) (b:=b) (w:=w) (l:=l) (u:=u) (q:=ts (116+w) a5 f Y o++N);have n:=Jq (e:=e) (i:=2) (s:=116) (b:=b) (w:=w) (l:=l) (u:=u) (M:=116+w) (a5:=a5) (f:=f) (Y:=Y) (o:=o) (q:=N);have z:sL (tB e 2++(ts 116 b w l u++(ts (116+w) a5 f Y o++N))) 24=e:=vn<|ce s<|vA g;have q:=b3.fV (t:=t) (d:=d) i (by decide) p O g k;have r:=n.fV (t:=t) (d:=d) i y v T m x;have A:=b3.fU (by decide) p g k;have E:=n.fU y v m x;generalize c:tB e 2++(ts 116 b w l u++(ts (116+w) a5 f Y o++N))=j at*
 have U:tD j 116 w=N.take w:=c▸G (λh=>((tB e 2++(ts 116 b w l u++(ts (116+w) a5 f Y o++N))).take h).drop 116) (bh 116 w);have V:tD j (116+w) f=(N.take<|w+f).drop w:=by
  unfold tD;refine(bf ..)▸(bh 116 w)▸(bh 116<|w+f)▸c▸?_;rfl
 have L:j.length=N.length+116:=sa c B;have a8:decide (116+w<=j.length)=decide (w<=N.length):=decide_eq_decide.mpr<|J L<|J (bh 116 w)<|qG;rw[<-A,a8]at q;rw[<-E,(decide_eq_decide.mpr (J L<|J (bf ..)<|J (bh 116<|w+f)<|qG):decide (116+w+f<=j.length)=decide (w+f<=N.length))]at r;have M:sL j 28=52:=sa c B;have a:=Jp (b3.iG i (c▸Bn) (c▸B) z g k S s P R) (c▸B) (by rw[M];exact q)<|by rw[M];exact r
 have a:=(vn<|vA<|bb (ax ..) m)▸(vn<|vA<|bb (ax ..) g)▸(vn<|vA<|bb (af ..) g)▸n.q▸b3.p▸b3.q▸z▸V▸U▸E▸A▸a;exact a
theorem F8(c:tk [i,0]=i)(f:0<i)(g:i<=1000000)(b:sw (tB e i++q))(a:q.length<32):rW (t+6) false 75 [sk<|tB e i++q] d=tf 2 d:=F6 c f g b<|vN B B B<|Jh<|sN B B B<|(F1 b<|af ..).trans<|by refine J (cd<|Nat.not_le.mpr<|i_ a 52) ?_;rfl
theorem Js(c:sw (tB e 2++(ts 116 b w l u++q)))(g:w<=l)(h:0<l)(i:b+l<1000000)(j:u<8)(a:q.length<32):rW (t+6) false 75 [sk<|tB e 2++(ts 116 b w l u++q)] d=tf 2 d:=F6 B (af ..) (af ..) c ((Dd.fV c (af ..) g h i j).trans (by
  refine(cd (λf=>absurd (i_ a 84) (Nat.not_lt.mpr<|aa (ax ..) f):¬116+w<=(tB e 2++(ts 116 b w l u++q)).length))▸?_;rfl))
end
noncomputable def Ap(j:List Nat)(s:Nat):List Nat:=j.take s++((j.getD s 0^^^4)::j.drop (s+1))
section
theorem F9(b:sw j)(a:s<j.length):sw (Ap j s):=uy (λc A=>b c<|he A) λc A=>by
 rcases List.mem_cons.mp A with rfl|A
 ·exact J (fq)<|J (d_ a)<|Nat.xor_lt_two_pow (n:=8) (b _<|kh a)<|af ..
 ·exact b c<|kl A
noncomputable def yz:List Nat:=[0,4,5,6,16,18,42]
theorem Df(a:s∈yz):wR (Ap (tB e i++q) s)=false/\tk (tD (Ap (tB e i++q) s) 20 4)=1/\s<(tB e i++q).length:=by
 have w:∀m,m<52->m<(tB e i++q).length:=λm a=>ar a<|af 52 q.length;rcases List.mem_cons.mp a with rfl|a
 ·exact tG (by kernel_rfl) B<|w _<|af ..
 rcases List.mem_cons.mp a with rfl|a
 ·exact tG (by kernel_rfl) B<|w _<|af ..
 rcases List.mem_cons.mp a with rfl|a
 ·exact tG (by kernel_rfl) B<|w _<|af ..
 rcases List.mem_cons.mp a with rfl|a
 ·exact tG (by kernel_rfl) B<|w _<|af ..
 rcases List.mem_cons.mp a with rfl|a
 ·exact tG (by kernel_rfl) B<|w _<|af ..
 rcases List.mem_cons.mp a with rfl|a
 ·exact tG (by kernel_rfl) B<|w _<|af ..
 rcases List.mem_cons.mp a with rfl|a
 ·exact tG (by kernel_rfl) B<|w _<|af ..
 ·exact absurd a fe
theorem F'(a:s∈yz)(b:sw (tB e i++q)):rW (t+6) false 75 [sk<|Ap (tB e i++q) s] d=tf 2 d:=F4 (F9 b (Df a).2.2) (λ_=>(Df a).2.1) (Df a).1
end
def Dg(A i:Nat)(q:rR)(m:rQ rN):Prop:=∀a:Prop,(∀(N:Nat) (g:List Int),N<A->sU (i+1) g->m=rS (H N) (sM g q) ->a) ->a
theorem Dg.mk(a:N<A)(S:sU (i+1) g)(b:m=rS (H N) (sM g q)):Dg A i q m:=λ_ i=>i N g a S b
section
theorem zh:tJ .a (H b) (H h)=D (H<|b+h):=B
theorem sU.bN(b5:sU i g)(a:i<=R):sU R g:=by
 cases b5 with
 |mk S b=>exact .mk S<|aa b a
theorem Jt(a:h<100000000):(b %2147483647)*48271+7919*(h+1)<18446744073709551616:=bb (cu (cr 48271<|bl<|cv b<|af ..)<|bx 7919 a)<|af ..
def Ju(y b5 b4 b' b3:Nat):r_:=(r_.c (sp.b (Q.aG tM.d (Q.aP (Q.a 0)<|Q.d<|H 0)<|Q.d<|H 0) (r_.c (sp.a 2<|Q.aB sT.f (Q.aP (Q.a 0)<|Q.d<|H 0)<|Q.a 1)<|r_.c (sp.m (Q.a 0) (Q.d<|H 0)<|Q.aB sT.h (Q.aP (Q.a 0)<|Q.d<|H 0)<|Q.a 1)<|r_.c (sp.d<|Q.a 2) r_.n) r_.n)<|r_.c (sp.m (Q.a 0) (Q.d<|H 2)<|Q.aB sT.a (Q.aP (Q.a 0)<|Q.d<|H 2)<|Q.d<|H 1)<|r_.c (sp.a 3<|Q.aB sT.f (Q.aB sT.j (Q.aB sT.a (Q.aB sT.a (Q.aP (Q.a 0)<|Q.d<|H 1)<|Q.aB sT.b (Q.d<|H y)<|Q.aP (Q.a 0)<|Q.d<|H 2)<|Q.d<|H 13)<|Q.d<|H 5)<|Q.d<|H b5)<|r_.c (sp.d<|Q.aB sT.f (Q.aB sT.h (Q.aB sT.f (Q.aB sT.j (Q.aB sT.a (Q.aB sT.b (Q.a 3)<|Q.d<|H b4)<|Q.aB sT.b (Q.d<|H b')<|Q.aP (Q.a 0)<|Q.d<|H 2)<|Q.d<|H 3)<|Q.d<|H b3)<|Q.d<|H 64)<|Q.a 1) r_.n)
theorem Jv{b':Nat}(a:dt y 18446744073709551616=true)(b:0<b5)(c:dt b4 18446744073709551616=true)(d:dt b' 18446744073709551616=true)(e:0<b3)(S:l+y*(h+1)+13<18446744073709551616)(g:(l+y*(h+1)+13)^5 %b5*b4+b'*(h+1)<18446744073709551616)(i:0<A): ∃o,rY t m (Ju y b5 b4 b' b3) [.rL<|.b 0,.rL<|H A,.rT,.rT] (sM [((0:Nat):Int),(l:Int),(h:Int)] q)=vt (H<|((l+y*(h+1)+13)^5 %b5*b4+b'*(h+1))^3 %b3/64 %A) o (sM [((0:Nat):Int),(l:Int),((h+1:Nat):Int)] q):=⟨_,tg (.f<|.f<|.f<|.d _<|.f<|.f<|.f<|.d _<|.d _<|.d _<|.d _<|.d _<|.d _<|.f<|.d _<|.d _<|.d _<|.d _<|.d _<|.d _ .e) λf=>f zh (tF<|by refine(az a)▸?_;rfl) zh zh (yP (af ..) S) (vO b) (tF<|by refine ae (G _ c) ?_;exact(iu ..)) (tF<|by refine(az d)▸?_;rfl) zh (yP (af ..) g) (vO e) (wT<|af ..)<|vO i⟩
theorem uO(b5:sU i g)(j:i<100000000)(b:0<A):Dg A i q (rW (t+1) a 87 [.b 0,H A]<|sM g q):=by
 cases b5 with
 |@mk x l h S c=>
  rcases ki x with rfl|f
  ·have d:=bb c j;exact(Jv B (sz B) B B (sz B) (bb (bv (cu (bl S)<|bx 15485867 d) 13)<|af ..) (Jt d) b).elim λo e=>.mk (cv _ b) (.mk S<|bw c)<|t_ B B B e
  ·exact .mk (cv _ b) (.mk S<|qe c)<|sE (.f<|.h true<|.f<|.d _<|.f<|.d _<|.f .e) λM=>M (wV f) (vO b)<|wT b
end
def Dh(b5:Nat)(r:Int):Prop:=∀a:Prop,(∀(A:Nat),A<b5->tJ .f (.i r) (H b5)=D (H A) ->a) ->a
theorem Dh.mk(a:A<b5)(S:tJ .f (.i r) (H b5)=D (H A)):Dh b5 r:=λ_ i=>i A a S
def Bo(b4:Nat)(T:sm)(d:rR)(m:rV):Prop:=∀a:Prop,(∀(l x:Nat) (b6:sm),l<b4->m=ss [T,.rL<|H l,.rL<|H x,b6] d->a) ->a
theorem Bo.mk(a:l<b4)(S:m=ss [T,.rL<|H l,.rL<|H x,b6] d):Bo b4 T d m:=λ_ i=>i l x b6 a S
def Di(i:Nat)(q:rR)(m:rQ rN):Prop:=∀a:Prop,(∀(g:List Int),sU i g->m=rS (.b 0) (sM g q) ->a) ->a
theorem Di.mk(a:sU i g)(S:m=rS (.b 0) (sM g q)):Di i q m:=λ_ i=>i g a S
def F_(y b5 b4 b7:Nat):r_:=(r_.c (sp.a 1<|Q.aB sT.f (Q.aB sT.a (Q.aB sT.a (Q.aB sT.b (Q.a 1)<|Q.d<|H y)<|Q.aB sT.b (Q.a 3)<|Q.d<|H b5)<|Q.d<|H 7)<|Q.d<|H b4)<|r_.c (sp.b (Q.bC<|rX.c (Q.aG tM.c (Q.a 2)<|Q.d<|H 0)<|rX.c (Q.aG tM.h (Q.k ue.g<|rX.c (Q.a 3) rX.n)<|Q.aB sT.j (Q.d<|H 10)<|Q.d<|H b7) rX.n) (r_.c (sp.a 2<|Q.k ue.g<|rX.c (Q.a 3) rX.n) r_.n) r_.n) r_.n)
section
variable{t l x y b5 b4 b7:Nat} {a:tu} {d:rR} {T b6:sm}
theorem zi(a:uX (y:Int)=true):tJ .b (.i r) (H y)=D (.i<|r*(y:Int)):=by
 show(si (uX r||uX y)<|D<|r*y).map rN.i=_;refine J a ?_;rw[iu];rfl
theorem Jw(a:0<b5)(r:Int):Dh b5 r:=by
 have b:=Int.ofNat_lt.mpr a;have e:=le<|Int.fmod_nonneg_of_pos r b;refine .mk (Int.ofNat_lt.mp<|J e<|Int.fmod_lt_of_pos r b) ?_;refine(?_:(si (!decide ((b5:Int)=0))<|D<|r.fmod b5).map rN.i=_);exact J (zC a)<|vX e.symm
theorem Jx(c:uX (y:Int)=true)(e:uX (b5:Int)=true)(i:0<b4)(h:b7<=1000):Bo b4 T d (rY t a (F_ y b5 b4 b7) [T,.rL<|H l,.rL<|H x,.rL<|.i r] d):=by
 refine Jw i (l*y+r*b5+7) _ λj S g=>?_;rcases ki x with rfl|f
 ·rcases cm r.natAbs<|10^b7 with f|f
  ·exact .mk S<|tg (.d _<|.d _<|.f<|.f<|.d _<|.f<|.f<|.d _<|.h false .e) λb=>b (zi c) (zi e) g (yP h<|by decide)<|Hd (d:=d) f
  ·exact .mk S<|tg (.d _<|.d _<|.f<|.f<|.d _<|.f<|.f<|.d _<|.h true<|.f .e) λb=>b (zi c) (zi e) g (yP h<|by decide)<|zE (d:=d) f
 ·exact .mk S<|tg (.d _<|.d _<|.f<|.f<|.d _<|.h false .e) λb=>b (zi c) (zi e) g<|wk<|c_ f
theorem Jy(f:uX (y:Int)=true)(g:uX (b5:Int)=true)(h:0<b4)(i:b7<=1000):∀(a0:List Int) {l x:Nat} {b6:sm},l<b4->Bo b4 T d (ti t a [3] false (F_ y b5 b4 b7) (a0.map rN.i) [T,.rL<|H l,.rL<|H x,b6] d):=by
 intro a0;induction a0 with
 |nil=>
  exact @λl x b6 b=>.mk b B
 |cons r a0 j=>
  exact @λl x b6 b=>by
   exact Jx (t:=t) (a:=a) (T:=T) (d:=d) (l:=l) (x:=x) (r:=r) f g h i _ λk c e S m=>j (x:=c) (b6:=e) S _ λk c e n o=>(.mk n<|tl B m o)
theorem Jz(a0:List Int):Di 0 [] (rW (t+1) false 86 [.c<|a0.map rN.i] []):=by
 have e:=Jy (t:=t) (a:=none) (d:=[]) (T:=.rL<|.c<|a0.map .i) (y:=48271) (b5:=69621) (b7:=18) (x:=0) (b6:=.rT) B B (sz B) (af ..) (a0.take 24)<|show 41<2147483629 by decide
 rw[List.map_take]at e;exact e _ λc g h S b=>(.mk (.mk (ce S<|af ..)<|bg 0)<|sE (.f<|.o _ _ _ .e) λf=>f b)
end
def sd(w:List Nat):rN:=.c<|w.map H
def vo(b:Nat)(z:List Nat)(l u:Nat):rN:=.j [H b,sd z,H l,H u]
def Aq:sm->List Nat->sm
 |e,[]=>e
 |_,k::V=>Aq (.rL<|H k) V
section
variable{t:Nat} {d:rR} {U P:List Nat} {T a' b6 a2 b8 Y a4 p n:sm}
theorem xw(a:U.length+P.length<=1000000):tJ .a (sd U) (sd P)=D (sd<|U++P):=by
 show si (tQ<|(U.map H).length+(P.map H).length) (D<|rN.c<|U.map H++P.map H)=_;rw[a_,a_];refine J (vc a)<|sa fg ?_;rfl
theorem Ar:uo d .a [sd w]=D (H w.length):=G (λi=>D<|H i)<|a_ ..
theorem Bp(a:L<=1000):vm t g [2] false [0] (.aB .f (.aB .h (.a 0)<|.aB .j (.d<|H 256)<|.a 2)<|.d<|H 256) [.rL<|H k,a',b2] (H L) d=rS (H<|k/256^L %256) d:=vQ (o:=[.rL<|H k,.rT,.rL<|H L]) (.d _<|.d _<|.d _ .e) λf=>f (yP a<|af ..) (wT<|nw<|by decide)<|vO<|by decide
theorem Dj:rW (t+1) g 88 [H k,H 4] d=rS (sd<|tn k) d:=sE (.p _ d .e) λf=>f<|vR (tA (rZ B B) B B) (v_<|sz B) (sz B)<|uZ (Bp<|af ..)<|uZ (Bp<|sz B)<|uZ (Bp<|sz B)<|uZ (Bp<|sz B) A4
theorem JA:∀{V U:List Nat} {n:sm},U.length+4*V.length<=900000->ti (t+1) none [9] false EN (V.map H) [T,a',.rL<|sd U,b6,a2,b8,Y,a4,p,n] d=ss [T,a',.rL<|sd<|U++V.flatMap tn,b6,a2,b8,Y,a4,p,Aq n V] d:=by
 intro V;induction V with
 |nil=>
  exact @λU n _=>G (λU=>ss [T,a',.rL<|sd U,b6,a2,b8,Y,a4,p,n] d) (dh U).symm
 |cons k V b=>
  exact @λU n a=>by
   have a3:(U++tn k).length+4*V.length<=900000:=by
    refine J bm ?_;exact aa (ao<|by refine ae (bf ..) ?_;exact G (U.length+·)<|bh ..) a
   have e:=b (n:=.rL<|H k) a3;rw[cp]at e;exact tl B (tg (.a _ _<|.d _ .e) λf=>f Dj<|xw<|aa (bc (af 4<|4*V.length) _)<|aa a<|af ..) e
theorem Dk(a:U.length<=800000)(c:P.length+z.length<=900000):rY (t+1) none EO [T,a',.rL<|sd U,.rL<|H s,.rL<|sd P,.rL<|H b,.rL<|sd z,.rL<|H l,.rL<|H u,n] d=ss [T,a',.rL<|sd<|U++ts (s+P.length) b z.length l u,.rL<|H s,.rL<|sd<|P++z,.rL<|H b,.rL<|sd z,.rL<|H l,.rL<|H u,.rL<|H 1] d:=tg (.d _<|.f<|.d _<|.o _ _ _<|.d _ .e) λf=>f Ar Ar (JA (V:=[1,s+P.length,b,b,z.length,l,u,1])<|aa (bv a 32)<|af ..)<|xw<|aa c<|af ..
end
def vB(e b:Nat)(z:List Nat)(l u:Nat):List Nat:=tB e 1++(ts 84 b z.length l u++z)
def xx(e b:Nat)(z:List Nat)(l u a5:Nat)(a:List Nat)(Y o:Nat):List Nat:=tB e 2++(ts 116 b z.length l u++(ts (116+z.length) a5 a.length Y o++(z++a)))
section
noncomputable def Dl:List Nat:=[127,69,76,70,1,1,1,0,0,0,0,0,0,0,0,0,2,0,243,0,1,0,0,0]
def JB:Q:=(Q.aB sT.a (Q.aB sT.a (Q.aB sT.a (Q.aB sT.a (Q.m<|rX.c (Q.d<|H 127)<|rX.c (Q.d<|H 69)<|rX.c (Q.d<|H 76)<|rX.c (Q.d<|H 70)<|rX.c (Q.d<|H 1)<|rX.c (Q.d<|H 1)<|rX.c (Q.d<|H 1) rX.n)<|Q.aB sT.b (Q.m<|rX.c (Q.d<|H 0) rX.n)<|Q.d<|H 9)<|Q.i 88<|rX.c (Q.d<|H 2)<|rX.c (Q.d<|H 2) rX.n)<|Q.i 88<|rX.c (Q.d<|H 243)<|rX.c (Q.d<|H 2) rX.n)<|Q.i 88<|rX.c (Q.d<|H 1)<|rX.c (Q.d<|H 4) rX.n)
def Ga:Q:=(Q.aB sT.a (Q.aB sT.a (Q.aB sT.a (Q.aB sT.a (Q.aB sT.a (Q.aB sT.a (Q.a 2)<|Q.i 88<|rX.c (Q.d<|H 52)<|rX.c (Q.d<|H 4) rX.n)<|Q.aB sT.b (Q.m<|rX.c (Q.d<|H 0) rX.n)<|Q.d<|H 8)<|Q.i 88<|rX.c (Q.d<|H 52)<|rX.c (Q.d<|H 2) rX.n)<|Q.i 88<|rX.c (Q.d<|H 32)<|rX.c (Q.d<|H 2) rX.n)<|Q.i 88<|rX.c (Q.k ue.a<|rX.c (Q.a 1) rX.n)<|rX.c (Q.d<|H 2) rX.n)<|Q.aB sT.b (Q.m<|rX.c (Q.d<|H 0) rX.n)<|Q.d<|H 6)
theorem Gb:rU (t+1) false JB o d=rS (sd Dl) d:=by kernel_rfl
theorem JC:rU (t+1) false Ga [.rL<|H e,.rL<|.c [s],.rL<|sd<|Dl++tn e,b6,a2,b8,Y,a4,p,n] d=rS (sd<|tB e 1) d:=by kernel_rfl
theorem JD:rU (t+1) false Ga [.rL<|H e,.rL<|.c [s,m],.rL<|sd<|Dl++tn e,b6,a2,b8,Y,a4,p,n] d=rS (sd<|tB e 2) d:=by kernel_rfl
theorem Dm(a:z.length<=1000):rW (t+2) false 89 [H e,.c [vo b z l u]] d=rS (sd<|vB e b z l u) d:=t_ B B B<|sO (sb Gb (vh (rZ B<|rZ B B) Dj)<|by kernel_rfl)<|sO JC<|tg (.f<|.f<|.f<|.o _ _ _<|.d _ .e) λf=>f (tl B (Dk (P:=[]) (s:=84) (show 52<=800000 by decide)<|aa (ao<|bt _)<|aa a<|sz B) B)<|xw<|aa (bc a 84)<|sz B
theorem Gc(a:z.length<=1000)(a3:c.length<=1000):rW (t+2) false 89 [H e,.c [vo b z l u,vo a5 c Y o]] d=rS (sd<|xx e b z l u a5 c Y o) d:=t_ B B B (sO (sb Gb (vh (rZ B<|rZ B B) Dj)<|by kernel_rfl) (sO JD (tg (.f<|.f<|.f<|.o _ _ _<|.d _ .e) λf=>f (tl B (Dk (P:=[]) (s:=116) (show 52<=800000 by decide)<|aa (ao<|bt _)<|aa a<|sz B) <|tl B (Dk (U:=tB e 2++ts 116 b z.length l u) (P:=z) (show 84<=800000 by decide)<|aa (cu a a3)<|sz B) B)<|xw<|aa (bc (aa (ao bm)<|cu a a3) 116)<|sz B)))
end
def Dn(X A i:Nat)(q:rR)(m:rQ rN):Prop:=∀a:Prop,(∀(N:Nat) (g:List Int),X<=N->N<X+A->sU (i+1) g->m=rS (H N) (sM g q) ->a) ->a
theorem Dn.mk(a:X<=N)(S:N<X+A)(b:sU (i+1) g)(c:m=rS (H N) (sM g q)):Dn X A i q m:=λ_ i=>i N g a S b c
def Do(X A h i:Nat)(q:rR)(m:rQ (List rN)):Prop:=∀a:Prop,(∀(s:List Nat) (g:List Int),s.length=h->(∀N∈s,X<=N/\N<X+A) ->sU (i+h) g->m=uf (s.map H) (sM g q) ->a) ->a
theorem Do.mk{s:List Nat}(a:s.length=h)(S:(∀N∈s,X<=N/\N<X+A))(b:sU (i+h) g)(c:m=uf (s.map H) (sM g q)):Do X A h i q m:=λ_ i=>i s g a S b c
def Dp(X A h i:Nat)(q:rR)(m:rQ rN):Prop:=∀a:Prop,(∀(s:List Nat) (g:List Int),s.length=h->(∀N∈s,X<=N/\N<X+A) ->sU (i+h) g->m=rS (sd s) (sM g q) ->a) ->a
theorem Dp.mk(a:s.length=h)(S:(∀N∈s,X<=N/\N<X+A))(b:sU (i+h) g)(c:m=rS (sd s) (sM g q)):Dp X A h i q m:=λ_ i=>i s g a S b c
section
variable{i A X:Nat} {q:rR} {g:List Int}
theorem JE{u:rN->rR->rQ rN}(d:∀k g i,sU i g->i<100000000->Dn X A i q (u k<|sM g q)):∀(w:List rN) {g:List Int} {i:Nat},sU i g->i+w.length<=100000000->Do X A w.length i q (tO u w<|sM g q):=by
 intro w;induction w with
 |nil=>
  exact @λg i b5 _=>.mk B (λ_ a=>absurd a fe) b5 B
 |cons k w h=>
  exact @λg i b5 b=>by
   have e:i+(w.length+1)=i+1+w.length:=by rw[bf,bh 1]
   exact d k g i b5 (ar (cz<|bu _) b) _ λN t S j l m=>h l (sa e b) _ λv x n o p r=>(.mk (G (·+1) n) (λc s=>(List.mem_cons.mp s).elim (λf=>J f ⟨S,j⟩)<|o c) (J e p)<|uZ m r)
theorem As(n:rU (t+1) a b7 o d=rS (H h) (sM g q))(b5:sU i g)(b:i+h<=100000000)(p:0<A)(l:h<=1000000)(s:∀k,∃a3,up [c] false k (xn [r] o)=D a3/\um a3 r=D (.b 0)):Dp X A h i q (rU (t+1) a (.o [c] false [r] (.k .c<|.c b7 .n)<|.aB .a (.d<|H X)<|.i 87<|.c (.a r)<|.c (.d<|H A) .n) o d):=by
 have e:=JE (q:=q) (u:=vm (t+1) a [c] false [r] (.aB .a (.d<|H X)<|.i 87<|.c (.a r)<|.c (.d<|H A) .n) o) (λk g i b5 b=>by
  refine uO (t:=t) (a:=a) (q:=q) b5 b p _ λu v S j m=>(s k).elim λa3 f=>.mk (ax ..) (ci S X) j ?_;unfold vm;refine J f.1 ?_;exact sb B (vh (rZ (G (se ·<|sM g q) f.2)<|rZ B B) m) zh) ((b_ h).map H) b5<|by rw[a_];exact J fl<|b
 rw[a_,fl]at e;exact e _ λu v S w j m=>.mk S w j<|vR (tA (rZ n B) B B) (v_ l) (by rw[a_];refine J fl ?_;exact l) m
end
structure us(b:Nat)(z:List Nat)(l u:Nat):Prop where
 f:b %4=0
 g:b<29
 h:4<=z.length
 c:z.length<=27
 j:∀N∈z,1<=N/\N<256
 d:z.length<=l
 i:l<z.length+20
 k:u=5\/u=7\/u=1
structure wf(e b:Nat)(z:List Nat)(l u:Nat):Prop where
 d:e<=b
 h:b<e+50
 f:z.length<20
 i:∀N∈z,1<=N/\N<256
 g:z.length+1<=l
 j:l<z.length+31
 k:u=6\/u=4\/u=2
section
variable{b i l u:Nat} {q:rR} {g:List Int} {z:List Nat}
theorem Gd(a8:N<4):∃u,(u=5\/u=7\/u=1)/\uY d (.c [H 5,H 7,H 5,H 1]) (H N)=D (H u):=match N,a8 with
 |0,_=>⟨5,.inl B,B⟩
 |1,_=>⟨7,.inr<|.inl B,B⟩
 |2,_=>⟨5,.inl B,B⟩
 |3,_=>sn 1 (.inr<|.inr B) B
theorem JF(a8:N<3):∃u,(u=6\/u=4\/u=2)/\uY d (.c [H 6,H 4,H 2]) (H N)=D (H u):=Ca ⟨6,.inl B,B⟩ ⟨4,.inr<|.inl B,B⟩ (sn 2 (.inr<|.inr B) B) a8
theorem Ge{a:Nat}(S:c<8)(e:d<24)(f:z.length=4+d)(h:∀N∈z,1<=N/\N<1+255)(j:a<20)(k:u=5\/u=7\/u=1):us (4*c) z (4+d+a) u:=by
 refine⟨Nat.mul_mod_right 4 c,ja<|bx 4<|ck S,?_,?_,h,?_,?_,k⟩<;>rw[f]
 ·exact ax ..
 ·exact bc (ck e) 4
 ·exact ax ..
 ·exact ci j _
def Dq(i:Nat)(q:rR)(m:rQ rN):Prop:=∀a:Prop,(∀(b l u:Nat) (z:List Nat) (g:List Int),us b z l u->sU i g->m=rS (.c [vo b z l u]) (sM g q) ->a) ->a
theorem Dq.eI{i:Nat}{q:rR}{b:Nat}{l:Nat}{u:Nat}{z:List Nat}{g:List Int}(a:us b z l u)(S:sU i g)(c:m=rS (.c [vo b z l u]) (sM g q)):Dq i q m:=λ_ i=>i b l u z g a S c
def At(i:Nat)(q:rR)(m:rQ rN):Prop:=∀a:Prop,(∀(b l u:Nat) (z:List Nat) (g:List Int),us b z l u->sU i g->m=rS (.c [vo b z l u]) (sM g q) ->a) ->(∀(b l u a5 Y o:Nat) (z c:List Nat) (g:List Int),us b z l u->wf (b+l) a5 c Y o->sU i g->m=rS (.c [vo b z l u,vo a5 c Y o]) (sM g q) ->a) ->a
theorem At.eI{i:Nat}{q:rR}{b:Nat}{l:Nat}{u:Nat}{z:List Nat}{g:List Int}(a:us b z l u)(S:sU i g)(c:m=rS (.c [vo b z l u]) (sM g q)):At i q m:=λ_ i _=>i b l u z g a S c
theorem At.dH{i:Nat}{q:rR}{b:Nat}{l:Nat}{u:Nat}{z:List Nat}{g:List Int}(c:us b z l u)(S:wf (b+l) a5 a Y o)(d:sU i g)(e:m=rS (.c [vo b z l u,vo a5 a Y o]) (sM g q)):At i q m:=λ_ _ i=>i b l u a5 Y o z a g c S d e
theorem JG(b5:sU i g)(e:i<=100000):Dq (i+80) q (rW (t+2) false 90 [.b 0,.d true]<|sM g q):=by
 have c:∀{L},L<80->i+L<100000000:=λa=>ar (ci a i)<|aa (bv e 80)<|af ..;refine uO (t:=t) (a:=false) (q:=q) (A:=8) b5 (c (L:=0)<|sz B) (af ..) _ λh j S m n=>?_;refine(As (t:=t) (a:=false) (d:=sM j q) (X:=1) (A:=255) (c:=6) (r:=0) (b7:=.a 3) (o:=[.rL<|.b 0,.rL<|.d true,.rL<|H<|4*h,.rL<|H 4,.rT,.rT,.rT,.rT]) B m (bl<|c<|by decide) (sz B) (af ..) λk=>sn _ B B) _ λz N o p r s=>?_;refine uO (t:=t) (a:=false) (q:=q) (A:=20) r (c<|by decide) (sz B) _ λO P v w x=>?_;refine uO (t:=t) (a:=false) (q:=q) (A:=4) w (c<|sz B) (af ..) _ λR y A E M=>?_;exact(Gd (d:=sM y q) A).elim λu d=>.eI (Ge S (af ..) o p v d.1) (E.bN<|bc (show 7<=80 by decide) i) <|sE (.a _ _<|.d _<|.f<|.p _ _<|.a _ _<|.f<|.a _ _<|.d _ .e) λf=>f n (tF B) s x M d.2
end
section
theorem JH(b:c<50)(d:z.length=a)(f:a<20)(g:∀N∈z,1<=N/\N<1+255)(h:i<30)(j:u=6\/u=4\/u=2):wf e (e+c) z (a+1+i) u:=by
 refine⟨ax ..,ci b e,?_,g,?_,?_,j⟩<;>rw[d]
 ·exact f
 ·exact ax ..
 ·refine J (bf ..) ?_;rw[bh 1];exact ci (hc h) a
theorem JI(b5:sU i g)(M:i<=100000):At (i+80) q (rW (t+2) false 90 [.b 0,.d false]<|sM g q):=by
 have b:∀{L},L<80->i+L<100000000:=λa=>ar (ci a i)<|aa (bv M 80)<|af ..;have l:∀{L},L<=80->i+L<=i+80:=λa=>bc a i;refine uO (t:=t) (a:=false) (q:=q) (A:=8) b5 (b (L:=0)<|sz B) (af ..) _ λc c2 S N m=>?_;refine uO (t:=t) (a:=false) (q:=q) (A:=24) N (b<|sz B) (af ..) _ λd O n P p=>?_;have e:=bc (ck n) 4;refine(As (t:=t) (a:=false) (d:=sM O q) (X:=1) (A:=255) (c:=6) (r:=0) (b7:=.a 3) (o:=[.rL<|.b 0,.rL<|.d false,.rL<|H<|4*c,.rL<|H<|4+d,.rT,.rT,.rT,.rT]) B P (aa (bc e<|i+2)<|bl<|b<|by decide) (by decide) (aa e<|sz B) λk=>sn _ B B) _ λz c3 R T U r=>?_;refine uO (t:=t) (a:=false) (q:=q) (A:=20) (U.bN (R:=i+29)<|bc e<|i+2) (b<|by decide) (by decide) _ λs c4 V W v=>?_;refine uO (t:=t) (a:=false) (q:=q) (A:=4) W (b<|sz B) (af ..) _ λc5 X Y a0 w=>?_;refine(Gd (d:=sM X q) Y).elim λu h=>?_;have a1:=Ge S n R T V h.1;refine uO (t:=t) (a:=false) (q:=q) (A:=3) a0 (b<|sz B) (by decide) _ λa2 c6 c7 x y=>?_;rcases ki a2 with rfl|a3
 ·exact .eI a1 (x.bN<|l (L:=32)<|sz B)<|sE (.a _ _<|.d _<|.a _ _<|.f<|.p _ _<|.a _ _<|.f<|.a _ _<|.d _<|.a _ _<|.f .e) λf=>f m (tF B) p r v w h.2 y
 ·refine uO (t:=t) (a:=false) (q:=q) (A:=50) x (b<|sz B) (sz B) _ λa4 c8 a5 a6 a7=>?_;refine uO (t:=t) (a:=false) (q:=q) (A:=20) a6 (b<|sz B) (by decide) _ λa8 a9 A a' b0=>?_;have j:=ck A;refine(As (t:=t) (a:=false) (d:=sM a9 q) (X:=1) (A:=255) (c:=7) (r:=0) (b7:=.a 3) (o:=[.rL<|.b 0,.rL<|.d false,.rL<|H<|4*c,.rL<|H a8,.sl<|.sr [vo (4*c) z (4+d+s) u],.rL<|H<|4*c+(4+d+s)+a4,.rT,.rT]) B a' (aa (bc j<|i+34)<|bl<|b<|by decide) (by decide) (aa j<|sz B) λk=>sn _ B B) _ λc9 c' b1 b2 b3 b4=>?_;refine uO (t:=t) (a:=false) (q:=q) (A:=30) (b3.bN (R:=i+53)<|bc j<|i+34) (b<|by decide) (af ..) _ λd0 d1 b6 b7 b8=>?_;refine uO (t:=t) (a:=false) (q:=q) (A:=3) b7 (b<|sz B) (by decide) _ λd2 b9 b' c0 c1=>?_;exact(JF (d:=sM b9 q) b').elim λo E=>.dH a1 (JH a5 b1 A b2 b6 E.1) (c0.bN<|l (L:=55)<|sz B) <|sE (.a _ _<|.d _<|.a _ _<|.f<|.p _ _<|.a _ _<|.f<|.a _ _<|.d _<|.a _ _<|.h true<|.f<|.f<|.f<|.a _ _<|.f<|.a _ _<|.p _ _<|.f<|.a _ _<|.f<|.a _ _<|.d _<|.f .e) λf=>f m (tF B) p r v w h.2 y (wV a3) a7 b0 b4 b8 c1 E.2
end
noncomputable def wy(V:List Nat):List Nat->List Nat
 |[]=>V
 |c::w=>wy (bif cn c 47 then[]else V++[c]) w
section
variable{t:Nat} {d:rR} {w V n:List Nat} {a5:List (List Nat)} {T a' b2:sm}
theorem JJ:∀{n:List Nat},(∀N∈n,1<=N) ->(n.map λg:Nat=>(g:Int)).contains 0=false:=@λn=>uP (@λ_=>B) (λN n b=>@λa=>by
  refine J ge ?_;refine ae lf ?_;refine ae (G _<|b λc A=>a c<|br _ A) ?_;exact ae (ng ..)<|cd λf=>c_ (a N bn) (fv f).symm) n
theorem JK:∀{a5:List (List Nat)} {a':sm},(∀n∈a5,∀N∈n,1<=N) ->∃M,ti (t+1) none [1] false EL (a5.map sk) [T,a'] d=ss [T,M] d:=by
 intro a5;induction a5 with
 |nil=>
  exact @λa' _=>⟨a',B⟩
 |cons n a5 b=>
  exact @λa' a=>(b λc A=>a c<|br _ A).imp λM m=>tl B (tg (.f<|.h false .e) λf=>f<|G D<|JJ<|a n bn) m
theorem Gf(a:a5.length<=16)(b:∀n∈a5,∀N∈n,1<=N):rW (t+2) false 81 [.c<|a5.map sk] d=rS .e d:=(JK b).elim λM m=>sE (.f<|.h false<|.o _ _ _ .e) λf=>f (vj<|aa (ao<|a_ ..) a) m
theorem Gg(a:c<256):uo d .j [H c]=D (.f [c]):=by
 refine(?_:si (decide (0<=c)&&decide ((c:Int)<256)) (D<|rN.f [c])=_);refine J (bd<|dx c)<|J (bd<|Int.ofNat_lt.mpr a) ?_;rfl
theorem JL(a:b.length+g.length<=1000000):tJ .a (.f b) (.f g)=D (.f<|b++g):=G (λh=>si h<|D<|rN.f<|b++g)<|vc a
theorem JM:∀{w V:List Nat} {b2:sm},sw w->V.length+w.length<=1000000->ti t none [2] false EM (w.map H) [T,.rL<|.f V,b2] d=ss [T,.rL<|.f<|wy V w,Aq b2 w] d:=by
 intro w;induction w with
 |nil=>
  exact @λV b2 _ _=>B
 |cons c w e=>
  exact @λV b2 g b=>by
   have h:sw w:=λM A=>g M<|br _ A;cases a:cn c 47 with
   |true=>
    have m:=e (V:=[]) (b2:=.rL<|H c) h<|aa (bv (cc V.length) _)<|aa (ea _) b;show _=ss [T,.rL<|.f<|wy (bif cn c 47 then[]else V++[c]) w,Aq (.rL<|H c) w] d;exact a▸(tl B (tg (.h true .e) λf=>f<|vu<|da a) m)
   |false=>
    have m:=e (V:=V++[c]) (b2:=.rL<|H c) h<|by refine J bm ?_;rw[bf];exact aa (ao<|G (V.length+·)<|bh ..) b
    show _=ss [T,.rL<|.f<|wy (bif cn c 47 then[]else V++[c]) w,Aq (.rL<|H c) w] d;exact(az a)▸(tl B (tg (.h false<|.d _<|.d _ .e) λf=>f (wk<|oi a) (Gg<|g c bn)<|JL<|aa (bc (af 1 w.length) _) b) m)
theorem Gh:tN (sk w)=D (w.map H):=G D<|fj ..
theorem JN(a:sw w)(b:w.length<=100000):rW (t+2) false 82 [sk w] d=rS (.f<|wy [] w) d:=sE (.f<|.t _<|.o _ _ _ .e) λf=>f Gh<|JM a<|aa (ao<|bt _)<|aa b<|af ..
theorem JO:∀{w V:List Nat},wy V (w++n)=wy (wy V w) n:=by
 intro w;induction w with
 |nil=>
  exact @λ_=>B
 |cons _ w a=>
  exact @λ_=>a
theorem Gi:∀{w V:List Nat},(∀c∈w,cn c 47=false) ->wy V w=V++w:=by
 intro w;induction w with
 |nil=>
  exact @λV _=>(dh V).symm
 |cons c w b=>
  exact @λV a=>by
   refine(?_:wy (bif cn c 47 then[]else V++[c]) w=_);exact J (a c bn)<|(b λM A=>a M<|br _ A).trans<|cp V [c] w
end
def Dr(E:sc)(O:rR)(y:Nat->Prop)(i:Nat)(m:Mine.rQ rN):Prop:=∀a:Prop,(∀(W:Nat) (p:sc),sB W p y i (th (λ_=>none) 0<|D W) (λ_=>0) (λ_=>0) ->sG rP y E p->m=rS (.b<|O.length+6) (rO p<|O++[sj W 0]) ->a) ->a
theorem Dr.mk{W:Nat}(a:sB W p y i (th (λ_=>none) 0<|D W) (λ_=>0) (λ_=>0))(S:sG rP y E p)(b:m=rS (.b<|O.length+6) (rO p<|O++[sj W 0])):Dr E O y i m:=λ_ i=>i W p a S b
section
variable{O:rR}
theorem Bq(a:sK.b h=D u)(a8:uR u=D N)(b:sK.e h=false)(c:rW i g u (.b d.length::V) (d++[.sW h []])=m)(e:Mine.rQ.aC m (λk a9=>k.aH (t:=sv (rN.b d.length) a9))=f):vb (i+1) g h V d=f:=by
 show(sK.b h).bind (λu=>(uR u).bind λN=>bif sK.e h then si N.c<|(uA N<|.e::V).bind λo=>(rY i (tZ g) N.d (o.set 0<|.sl<|.sW h []) d).bV else Mine.rQ.aC (rW i g u (.b d.length::V)<|d++[.sW h []]) λk a9=>k.aH (t:=sv (.b d.length) a9))=_;refine J a<|(?_:(uR u).bind (λN=>bif sK.e h then si N.c<|(uA N<|.e::V).bind λo=>(rY i (tZ g) N.d (o.set 0<|.sl<|.sW h []) d).bV else Mine.rQ.aC (rW i g u (.b d.length::V)<|d++[.sW h []]) λk a9=>k.aH (t:=sv (.b d.length) a9))=_);exact a8▸(b▸c▸e)
theorem Gj:vb (i+1) g 10 [.b 1,ta,.b 3] d=rS (tU) d:=zP B B B B B (tg .e λf=>f) B
theorem xy:(rO E<|O++[z])[O.length+6]?=D z:=gl
theorem wc(a:(sK.a h b&&vF a5)=true):vg (rO E<|O++[.sW h a5]) (.b<|O.length+6) b M=D (rO E<|O++[.sW h<|ut b M a5]):=(wQ xy a).trans<|G (λq=>D<|rO E q)<|by refine ae (oe _ _<|bg _) ?_;refine J (gk ..) ?_;rfl
theorem JP(a:rW (a6+4) false 21 [tU] (rO E<|O++[.sW 14 [(69,.b 3),(68,ta),(67,.b 1),(85,tU)]])=rS (H c) (rO p<|O++[.sW 14 [(69,.b 3),(68,ta),(67,.b 1),(85,tU)]])): vb (a6+6) false 14 [.b 3,ta] (rO E O)=rS (.b<|O.length+6) (rO p<|O++[.sW 14 [(69,.b 3),(68,ta),(67,.b 1),(85,tU),(86,H c),(63,H 0)]]):=have e:rW (a6+5) false 49 [.b<|O.length+6,.b 3,ta] (rO E<|O++[.sW 14 []])=rS .e (rO p<|O++[.sW 14 [(69,.b 3),(68,ta),(67,.b 1),(85,tU),(86,H c),(63,H 0)]]):=sE (.j _<|.j _<|.j _<|.a _ _<|.j _<|.i _<|.a _ _<|.j _<|.j _ .e) λf=>f (wc B) (wc B) (wc B) Gj (wc B) xy a (wc B) (wc B);Bq B B B e B
theorem Gk(a1:sA E (te y) (i+1))(g:sJ E.a):Dr E O y i (vb (a6+6) false 14 [.b 3,ta]<|rO E O):=by
 refine Cw (a6:=a6) (g:=false) (O:=O++[.sW 14 [(69,.b 3),(68,ta),(67,.b 1),(85,tU)]]) sf.aR a1 _ λW p s h o b a' b2 m=>?_;have g:=a'▸g;refine Cc (yZ (a6:=a6) (O:=O) g h) λa9 j f v=>?_;have d:∀q c,th (λ_=>none) 0 (D W) q=D c->q=0/\W=c:=λq c a=>by
  by_cases v:q=0
  ·subst v;rw[tC]at a;exact⟨B,ak a⟩
  ·have a:=(sZ v)▸a;exact sq a
 have k:∀q,th (λ_=>none) 0 (D W) (q+1)=none:=λq=>sZ<|gj q;have n:∀{q c:Nat} {b':Prop},th (λ_=>none) 0 (D W) (q+1)=D c->b':=λa=>sq<|(k _).symm.trans a;have b0:sV W (vw p.a (W*rP) rP) (th (λ_=>none) 0<|D W) (λ_=>0) (λ_=>0):=⟨a9,λq c a=>(d q c a).2▸⟨s,h⟩,λq l c a a3=>(d q c a).1.trans (d l c a3).1.symm,λq c a=>(d q c a).1▸bu _,tC,λr t=>(f r t).trans (G (wZ 1)<|k r).symm,λ_ _ _ a=>n a,λ_ _ _ _ _=>k _,λ_ _ a=>n a,λ_ _=>B,λ_ _ a=>n a⟩
 have e:(λc=>c=W\/y c)=λc=>y c\/∃q,th (λ_=>none) 0 (D W) q=D c:=funext λc=>propext ⟨λa=>a.elim (λa=>.inr ⟨0,tC.trans<|G D a.symm⟩) .inl,λa=>a.elim .inr λa=>.inl<|a.elim λq a=>(d q c a).2.symm⟩;rw[e]at b;exact .mk (p:=p.aV<|vw p.a (W*rP) rP) ⟨b0,⟨b.A,b.x,b.C,b.z,b.y⟩,λq c a=>(d q c a).2▸o⟩ (.aO (sa a' j) o b2)<|JP<|Fq m h g
theorem JQ(a1:sA E (te y) 0):∃j,vb (a6+6) false 14 [.b 3,ta] (rO E O)=tf 4 (rO E<|O++[j]):=have e:rW (a6+5) false 49 [.b<|O.length+6,.b 3,ta] (rO E<|O++[.sW 14 []])=tf 4 (rO E<|O++[.sW 14 [(69,.b 3),(68,ta),(67,.b 1),(85,tU)]]):=sE (.j _<|.j _<|.j _<|.a _ _<|.j _<|.i _<|.s _ _ .e) λf=>f (wc B) (wc B) (wc B) Gj (wc B) xy (Fs a1);⟨_,Bq B B B e B⟩
end
structure sF where
 b:Nat
 c:List Nat
 a:Nat
 d:Nat
structure sF.dX(x:sF):Prop where
 e:sw x.c
 b:x.c.length<=x.a
 d:0<x.a
 f:x.c.length<=4999
def sF.eE(x:sF):rN:=ve x.b x.c x.a x.d
def vC:List sF->(Nat->Nat) ->Nat->Nat
 |[],P=>P
 |x::U,P=>vC U<|tY P (vz x.d) (x.b/rM)<|ug rM x.b<|x.b+x.a
def xz:List sF->(Nat->Nat) ->Nat->Nat
 |[],A=>A
 |x::U,A=>xz U<|tW A x.b x.c
noncomputable def wz:List sF->Nat->Nat
 |[],l=>l
 |x::U,l=>wz U<|max l<|x.b+x.a
def uz(a:Nat):List sF->Nat
 |[]=>0
 |x::U=>ug a x.b (x.b+x.a)+uz a U
def Au(X:Nat)(E:sc)(O:rR)(y:Nat->Prop)(i:Nat)(P A:Nat->Nat)(j b5:Nat)(U:List sF)(a2:sm->sg)(m:rV):Prop:=∀a:Prop,(∀(p:sc) (R:Nat) (b0:Nat->Option Nat) (a4:sm),sB X p y R b0 (vC U P) (xz U A) ->vH (vC U P) (xz U A) ->sG rP y E p->i<=R+2*uz rM U->R<=i->(∀x∈U.head?,P (x.b/rM)=0->R+1<=i) ->m=ss (a2 a4) (rO p<|O.set j<|sj X<|wz U b5) ->a) ->(∀(p:sc) (R b:Nat) (b0:Nat->Option Nat) (c a7:Nat->Nat) (a4:sm),sB X p y R b0 c a7->sG rP y E p->i<2*uz rM U\/(∃x∈U,rM*rP*rP<x.b+x.a) ->m=uI 4 (a2 a4) (rO p<|O.set j<|sj X b) ->a) ->a
theorem Au.aJ{P:Nat->Nat}{b5:Nat}{a2:sm->sg}(a:sB X p y R b0 (vC U P) (xz U A))(S:vH (vC U P) (xz U A))(b:sG rP y E p)(c:i<=R+2*uz rM U)(d:R<=i)(e:(∀x∈U.head?,P (x.b/rM)=0->R+1<=i))(f:m=ss (a2 a4) (rO p<|O.set j<|sj X<|wz U b5)):Au X E O y i P A j b5 U a2 m:=λ_ i _=>i p R b0 a4 a S b c d e f
theorem Au.aI{P:Nat->Nat}{b5:Nat}{a2:sm->sg}(a:sB X p y R b0 b a7)(S:sG rP y E p)(c:i<2*uz rM U\/(∃x∈U,rM*rP*rP<x.b+x.a))(d:m=uI 4 (a2 a4) (rO p<|O.set j<|sj X e)):Au X E O y i P A j b5 U a2 m:=λ_ _ i=>i p R e b0 b a7 a4 a S c d
section
variable{b i X a6 b5 j:Nat} {x:Nat->Option Nat} {P A:Nat->Nat} {y:Nat->Prop} {E:sc} {O:rR} {w:List Nat} {U:List sF} {T a' b2 b6 a2 b8 a4 p n t o:sm}
theorem vH.kF(d:vH P A)(a:∀c,b<=c->c<b+w.length->P (c/rM)≠0):vH P (tW A b w):=λc e=>by
 refine(yw ?_).trans<|d c e;rcases cm c b with v|v
 ·exact .inl v
 ·exact .inr<|g_ λf=>a c v f e
theorem JR(S:b<=c)(a:c<e):tY P q (b/rM) (ug rM b e) (c/rM)≠0:=(show tY P q (b/rM) (ug rM b e) (c/rM)=uD q (P<|c/rM)from an<|CX S a)▸(Bf _ _)
theorem Br(a:O[j]?=D z):O.set j z=O:=re (List.getElem?_eq_some_iff.mp a).1|>λf=>sa ((List.getElem?_eq_some_iff.mp a).2) f
theorem xY(a:O[j]?=D z):(O.set j c)[j]?=D c:=hk (List.getElem?_eq_some_iff.mp a).1
theorem JS:∀{U:List sF} {i b5:Nat} {E:sc} {O:rR} {x:Nat->Option Nat} {P A:Nat->Nat} {a4:sm},(∀x∈U,x.dX) ->sB X E y i x P A->vH P A->O[j]?=D (sj X b5) -> Au X E O y i P A j b5 U (λa4=>[T,a',b2,b6,a2,b8,.rL<|.b<|j+6,a4,p,n,t,o]) (ti (a6+9) none [7] false Co (U.map sF.eE) [T,a',b2,b6,a2,b8,.rL<|.b<|j+6,a4,p,n,t,o]<|rO E O):=by
 intro U;induction U with
 |nil=>
  exact @λi b5 E O x P A a4 _ s k d=>.aJ s k .aX (bg _) (bg _) (λ_ a=>sq a)<|G (λq=>ss _<|rO E q) (Br d).symm
 |cons l U a0=>
  exact @λi b5 E O x P A a4 R s k d=>by
   have g:=R l bn;refine IS (a6:=a6) (u:=l.d) (b:=l.b) s d k g.e g.b g.d g.f _ (λu v z L r S a1 a3 m=>?_) λu v z V a5 L r a m=>?_
   ·have W:=tg (t:=a6+9) (a:=none) (a1:=Co) (o:=[T,a',b2,b6,a2,b8,.rL<|.b<|j+6,.rL l.eE,p,n,t,o]) (.a _ _ .e) λf=>f m;refine a0 (a4:=.rL l.eE) (b5:=max b5<|l.b+l.a) (λx A=>R x<|br _ A) L (k.iO.kF λc a7 a8=>JR a7<|ar a8<|bc g.b _) (xY d) _ (λu v z V M a9 N b0 Y _ h=>?_) λu v z V a5 b3 b4 M N a h=>?_
    ·rw[io]at h;exact .aJ M a9 (r.aM N) (aa S<|aa (bv b0 _)<|ao<|(bf ..).trans<|G _<|(bh ..).trans (iv ..).symm) (aa Y a1) (λx b1 e=>aa (bw Y)<|a3<|by refine J (ak b1) ?_;exact e)<|tl B W h
    ·rw[io]at h;exact .aI M (r.aM N) (a.imp (λa=>bb S<|ar (i_ a _)<|ao<|(bh ..).trans (iv ..).symm) λ⟨x,A,a⟩=>sn x (br _ A) a)<|tl B W h
   ·exact .aI L r (a.imp (λa=>ar a<|bx 2<|ax ..) λa=>sn l bn a)<|xP B<|tg (.s _ _ .e) λf=>(f m).trans<|G (λq=>uI 4 _<|rO _ q) (Br d).symm
end
def vD(l e n h q:Nat):rN:=.s 11 [(73,.b l),(7,H e),(74,H n),(75,H h),(43,H q)]
noncomputable def tx(a5:List (List Nat)):List (List Nat):=a5.map (·++[0])
def tq(d:Nat)(a5:List (List Nat)):Nat:=uN (u_ d<|tx a5) (vf<|s_ d<|tx a5).length
def vE(U:List sF)(z v:Nat):Nat->Nat:=tY (th (vC U λ_=>0) z 7) 22 (z+1)<|v -(z+1)
def wA(U:List sF)(d:Nat)(a5:List (List Nat)):Nat->Nat:=tW (ww (xz U λ_=>0) d<|tx a5) (tq d a5)<|vf<|s_ d<|tx a5
def yA(E:sc)(O:rR)(y:Nat->Prop)(i:Nat)(U:List sF)(z v e:Nat)(a5:List (List Nat))(m:Mine.rQ rN):Prop:=∀a:Prop,(∀(W R:Nat) (p:sc) (b0:Nat->Option Nat),sB W p y R b0 (vE U z v) (wA U (v*rM) a5) ->sG rP y E p->i<=R+(2*uz rM U+2*(v -z)+1) ->R+4<=i->(∀m∈s_ (v*rM) (tx a5),(z+1)*rM<=m) ->(z+1)*rM<=tq (v*rM) a5->m=rS (vD (O.length+6) e (tq (v*rM) a5) a5.length<|tq (v*rM) a5) (rO p<|(O++[sj W<|v*rM])++[uE O.length ((z+1)*rM)<|tq (v*rM) a5]) ->a) ->(∀(p:sc) (b:rR),sA p (te y) i->sJ p.a->sG rP y E p->(i<2*uz rM U+2*(v -z)+1\/(∃x∈U,rM*rP*rP<x.b+x.a))\/(rP*rP<v\/((∃m∈s_ (v*rM) (tx a5),m<(z+1)*rM)\/tq (v*rM) a5<(z+1)*rM)) ->m=tf 4 (rO p<|O++b) ->a) ->a
theorem yA.aJ{W:Nat}(a:sB W p y R b0 (vE U z v) (wA U (v*rM) a5))(S:sG rP y E p)(b:i<=R+(2*uz rM U+2*(v -z)+1))(c:R+4<=i)(d:(∀m∈s_ (v*rM) (tx a5),(z+1)*rM<=m))(f:(z+1)*rM<=tq (v*rM) a5)(g:m=rS (vD (O.length+6) e (tq (v*rM) a5) a5.length<|tq (v*rM) a5) (rO p<|(O++[sj W<|v*rM])++[uE O.length ((z+1)*rM)<|tq (v*rM) a5])):yA E O y i U z v e a5 m:=λ_ i _=>i W R p b0 a S b c d f g
theorem yA.aI(a:sA p (te y) i)(S:sJ p.a)(b:sG rP y E p)(c:(i<2*uz rM U+2*(v -z)+1\/(∃x∈U,rM*rP*rP<x.b+x.a))\/(rP*rP<v\/((∃m∈s_ (v*rM) (tx a5),m<(z+1)*rM)\/tq (v*rM) a5<(z+1)*rM)))(d:m=tf 4 (rO p<|O++f)):yA E O y i U z v e a5 m:=λ_ _ i=>i p f a S b c d
section
variable{O:rR} {w:List Nat}
theorem xZ{z:sC}:(O++[z]).set O.length a=O++[a]:=by refine ae (oe _ _<|bg _) ?_;refine J (gk ..) ?_;rfl
theorem Gl:vb (a6+2) g 15 [.b<|j+6,H k,H n] (rO E O)=rS (.b<|O.length+6) (rO E<|O++[uE j k n]):=Bq B B B (sE (.j _<|.j _<|.j _ .e) λf=>f (wc B) (wc B) (wc B):rW (a6+1) g 66 [.b<|O.length+6,.b<|j+6,H k,H n] (rO E<|O++[.sW 15 []])=rS .e (rO E<|O++[uE j k n])) B
theorem Gm{a0:Type}{c:Int}:∀{w:List (Int×a0)},tc c w=none->c∉uL w
 |[],_,a=>absurd a fe
 |(L,k)::w,e,a=>by
  rw[show tc c ((L,k)::w)=if c=L then D k else tc c w from B]at e;by_cases f:c=L
  ·rw[an f]at e;exact va e
  ·rw[am f]at e;exact(List.mem_cons.mp a).elim f<|Gm e
theorem sA.iA(a1:sA E b3 i):i+E.c.length=63:=zo a1.A λ_ _ _ _ S a=>S▸(bf ..).trans ((G _<|(bh ..).trans a).trans<|nv a1.x)
theorem sA.eJ(a1:sA E b3 i)(a:sA p b3 R):R=i:=by
 have e:p.c.length=E.c.length:=by
  have d:∀{E p:sc} {i R:Nat},sA E b3 i->sA p b3 R->∀c,c∈uL E.c->c∈uL p.c:=λa1 a c h=>rv λj=>by
   obtain⟨k,l⟩:∃k,tc c _=D k:=Option.ne_none_iff_exists'.mp λf=>Gm f h;refine wo (a1.z c k l) λb m v n v=>?_;subst m;exact sq<|(BK j).symm.trans<|a.y b n
  have:=((List.perm_ext_iff_of_nodup a.C a1.C).mpr λc=>⟨d a a1 c,d a1 a c⟩).length_eq
  rwa [a_,a_]at this
 have g:=a.iA;rw[e]at g;exact rE<|g.trans a1.iA.symm
theorem Ds{W:Nat}(a1:sA E (te y) i)(h:sB W c y R b0 p a7)(j:sG rP y E c)(k:(i<2*uz rM U+2*(v -z)+1\/(∃x∈U,rM*rP*rP<x.b+x.a))\/(rP*rP<v\/((∃m∈s_ (v*rM) (tx a5),m<(z+1)*rM)\/tq (v*rM) a5<(z+1)*rM))) (l:((O++[sj W a])++b)[O.length]?=D (sj W a) ->∀d,rW (a6+6) true 65 [.b<|O.length+6] (rO c<|(O++[sj W a])++b)=rS .e (rO d<|((O++[sj W a])++b).set O.length<|sj W 0) ->m=tf 4 (rO d<|((O++[sj W a])++b).set O.length<|sj W 0)):yA E O y i U z v e a5 m:=by
 have f:((O++[sj W a])++b)[O.length]?=D (sj W a):=by
  refine J (cp ..) ?_;refine ae (gg<|bg _) ?_;refine ae (G _<|gk ..) ?_;rfl
 refine Aa (a6:=a6) (g:=true) h f _ λq r g a9 n o=>?_;have m:=l f _ o;rw[cp,oe _ _<|bg _,gk]at m;exact .aI (sa (a1.eJ g)<|g) a9 (j.aM n) k m
end
section
variable{P:Nat->Nat}
theorem sV.hT(b0:sV X R x P A)(a:P k≠0):k<rP*rP:=by
 cases b:x (k+rP+1)with
 |none=>exact absurd (b0.Y k b) a
 |some s=>exact qw<|op<|b0.Qu _ _ b
theorem Dt(a:h<=k)(b:k<v):tY P q h (v -h) k≠0:=(show tY P q h (v -h) k=uD q (P k)from an ⟨a,ar b<|ao (ds<|aa a<|bl b).symm⟩)▸(Bf _ _)
theorem JT(b0:sV X R x (tY P q h<|v -h) A)(a:h<v):vx (tY P q h<|v -h) (h*rM) ((v -h)*rM):=by
 have e:=(of ..).symm.trans<|G (·*rM)<|ds<|bl a;refine bk (od<|c_<|bb (cc _) a) λb d=>?_;subst d;refine⟨by refine J e<|J xX ?_;exact cr rM<|b0.hT<|Dt (ck a)<|fz b,λc S f=>Dt ((rH sf.aR).mpr S)<|er<|ar f<|ao<|e.trans<|bs ..⟩
theorem JU(a1:sA E (te y) i)(a2:sJ E.a)(a':∀x∈l::U,x.dX)(S:wY (wz (l::U) 0)=z*rM)(b0:wY ((z+1)*rM+j)=v*rM)(t:z+1<v)(b1:∀k,z<=k->vC (l::U) (λ_=>0) k=0) (b2:∀c∈a5,sw c/\c.length<(z+1)*rM/\c.length<4999)(a3:a5.length<=16)(b4:∀n∈a5,∀N∈n,1<=N)(b5:(z+1)*rM<=u_ (v*rM) (tx a5) ->4*(a5.length+1)<=u_ (v*rM) (tx a5))(p:∀d,rW (a6+11) false 75 [b3] d=rS (xb e<|(l::U).map sF.eE) d): yA E O y i (l::U) z v e a5 (rW (a6+12) false 83 [.b 3,ta,b3,.c<|a5.map sk,H j]<|rO E O):=by
 have q:∀d,rW (a6+11) false 81 [.c<|a5.map sk] d=rS .e d:=λd=>Gf a3 b4;cases i with
 |zero=>exact(JQ a1).elim λc m=>.aI a1 a2 .aX (.inl<|.inl<|bu _)<|sE (.a _ _<|.a _ _<|.s _ _ .e) λf=>f (q _) (p _) m
 |succ i=>
 refine Gk (a6:=a6+5) (O:=O) a1 a2 _ λW c4 b6 u w=>?_;refine JS (a6:=a6+2) (T:=.rL<|.b 3) (a':=.rL<|ta) (b2:=.rL b3) (b6:=.rL<|.c<|a5.map sk) (a2:=.rL<|H j) (b8:=.rL<|xb e<|(l::U).map sF.eE) (a4:=.rT) (p:=.rT) (n:=.rT) (t:=.rT) (o:=.rT) a' b6 (λ_ _=>B) (gl:(O++[sj W 0])[O.length]?=D (sj W 0)) _ (λR c5 c6 a4 T b7 r A c7 V b=>?_) λX a7 a8 b8 b9 c8 c9 T r A b=>?_
 ·have V:=V l B B;have b:=xZ▸b;have b':(O++[sj W<|wz (l::U) 0])[O.length]?=D (sj W<|wz (l::U) 0):=gl;refine IV (a6:=a6+2) T b' b7 S b0 t b1 _ (λc' d0 d1 L M Y c0 h=>?_) λX a7 a8 b8 b9 L M Y h=>?_
  ·have h:=xZ▸h;have c1:((O++[sj W<|v*rM])++[uE O.length ((z+1)*rM)<|v*rM])[O.length]?=D (sj W<|v*rM):=by
    refine J (cp ..) ?_;refine ae (gg<|bg _) ?_;refine ae (G _<|gk ..) ?_;rfl
   have c2:(O++[sj W<|v*rM]).length=O.length+1:=bm;have a9:=I6 (a6:=a6+1) L c1 (λf=>pv _<|c2.symm.trans f) (List.getElem?_eq_some_iff.mp gl).1 (JT L.C t) b2 (cr rM<|bl t) (ao<|(G (·*rM) (ds<|bl t).symm).trans<|of ..) (aa a3<|af ..) b5;rw[xZ]at a9;refine a9 _ (λX s a0 c3 o=>?_) λX a7 a8 s a0 o=>?_
   ·have o:=xZ▸o;exact .aJ s.a (u.aM<|r.aM<|M.aM s.b) (bw<|aa A<|aa (bv Y _)<|ao<|(bf ..).trans<|G (_+·)<|bh ..) (bw<|aa (bw c0) V) a0 c3<|sE (.a _ _<|.a _ _<|.a _ _<|.o _ _ _<|.a _ _<|.a _ _<|.i _<|.a _ _<|.i _<|.d _<|.a _ _ .e) λf=>f (q _) (p _) w b h Gl xy o xy (G (λi=>D<|H i)<|a_ ..)<|zP B B B B B (tg .e λf=>f) B
   ·rw[xZ]at o;exact Ds a1 s.a (u.aM<|r.aM<|M.aM s.b) (.inr<|.inr a0) λg R m=>sE (.a _ _<|.a _ _<|.a _ _<|.o _ _ _<|.a _ _<|.a _ _<|.i _<|.s _ _<|.i _<|.a _ _ .e) λf=>f (q _) (p _) w b h Gl xy o g m
  ·exact Ds a1 L (u.aM<|r.aM M) (Y.elim (λa=>.inl<|.inl<|hc<|bb A<|ar (i_ a _)<|ao<|bh ..) λa=>.inr<|.inl a) λg R m=>by
    rw[dh]at g m⊢;exact sE (.a _ _<|.a _ _<|.a _ _<|.o _ _ _<|.s _ _<|.i _<|.a _ _ .e) λf=>f (q _) (p _) w b h g m
 ·rw[xZ]at b;exact Ds a1 T (u.aM r) (.inl<|A.imp (λa=>hc<|ar a<|ax ..) id) λg R m=>by
   rw[dh]at g m⊢;exact sE (.a _ _<|.a _ _<|.a _ _<|.o _ _ _<|.i _<|.a _ _ .e) λf=>f (q _) (p _) w b g m
end
def tr(l q h A:rN):sC:=.sW 16 [(93,H 1),(96,H 0),(98,.f [117,110,117,115,101,100]),(99,.e),(73,l),(100,q),(101,h),(102,.e),(103,.e),(104,A),(105,.e),(106,.d false),(107,H 0),(108,.e),(109,H 0),(110,.e),(111,.e),(112,.e),(113,H 0)]
def uv(n h q:Nat):List rN:=(((bi 32<|H 0).set 2<|H n).set 10<|H h).set 11<|H q
section
variable{t h c s:Nat} {O:rR} {a5:List (Nat×rN)}
theorem Bs:(rO E<|(O++[z])++[w])[O.length+6]?=D z:=by
 refine(?_:((O++[z])++[w])[O.length]?=_);refine J (cp ..) ?_;refine ae (gg<|bg _) ?_;refine ae (G _<|gk ..) ?_;rfl
theorem Gn{z:sC}{w:sC}:((O++[z])++[w]).set O.length a=(O++[a])++[w]:=by refine J (cp ..) ?_;refine ae (oe _ _<|bg _) ?_;refine J (gk ..)<|J (cp ..) ?_;rfl
noncomputable def Go(j:Option Nat)(k:rN):Q:=@eh Nat (λ_=>Q) j (.d k) λc=>.l c k
def Gp(U:List (Nat×Option Nat×rN))(a1:sp):sp:=U.foldr (λs a1=>.c (.g (.a 0) s.1<|Go s.2.1 s.2.2) a1) a1
def Bt(h:Nat):List (Nat×Option Nat×rN) ->List (Nat×rN) ->Option (List<|Nat×rN)
 |[],a5=>D a5
 |s::U,a5=>si (sK.a h s.1&&vF a5)<|Bt h U<|ut s.1 s.2.2 a5
theorem JV:rU t g (Go j k) o d=rS k d:=by cases j<;>rfl
theorem Gq{a:tu}{o:sg}{a1:sp}{i h:Nat}{q:rV}{f:List (Nat×rN)}:∀{U:List (Nat×Option Nat×rN)} {a5:List (Nat×rN)} {d:rR},Bt h U a5=D f->d[i]?=D (.sW h a5) ->rY t a a1 (.rL (.b i)::o) (d.set i<|.sW h f)=q->rY t a (Gp U a1) (.rL (.b i)::o) d=q:=by
 intro U;induction U with
 |nil=>
  exact @λa5 d e b m=>by
   obtain rfl:=ak e;rw[Br b]at m;exact m
 |cons s U j=>
  exact @λa5 d e b m=>by
   have e:si (sK.a h s.1&&vF a5) (Bt h U<|ut s.1 s.2.2 a5)=D f:=e;cases g:sK.a h s.1&&vF a5 with
   |false=>rw[g]at e;exact sq e
   |true=>
    rw[g]at e;exact za JV B (wQ b g)<|j e (xY b)<|by refine ae (G _<|io ..) ?_;exact m
def Gr:List (Nat×Option Nat×rN):=[(101,none,H 0),(102,none,.e),(103,none,.e),(104,none,.f []),(105,none,.e),(106,none,.d false),(107,none,H 0),(108,none,.e),(109,none,H 0),(110,none,.e),(111,none,.e),(112,none,.e),(113,none,H 0)]
theorem JW:Bt 16 Gr (ut 100 q [(93,H 1),(96,H 0),(98,.f [117,110,117,115,101,100]),(99,.e),(73,.e)])=D [(93,H 1),(96,H 0),(98,.f [117,110,117,115,101,100]),(99,.e),(73,.e),(100,q),(101,H 0),(102,.e),(103,.e),(104,.f []),(105,.e),(106,.d false),(107,H 0),(108,.e),(109,H 0),(110,.e),(111,.e),(112,.e),(113,H 0)]:=by kernel_rfl
theorem JX:rW (a6+1) false 70 [.b<|O.length+6] (rO E<|O++[.sW 16 [(93,H 1)]])=rS .e (rO E<|(O++[tr .e (.b<|O.length+7) (H 0)<|.f []])++[.sr<|bi 32<|H 0]):=by
 refine vi (a3:=[.rL<|.b<|O.length+6]) B B B<|Gq (U:=[(96,none,H 0),(98,D 97,.f [117,110,117,115,101,100]),(99,none,.e),(73,none,.e)]) B xy ?_;refine(?_:rY a6 none (.c (.g (.a 0) 100<|.dJ (.d<|H 0)<|.d<|H 32)<|Gp Gr .n) _ (rO E<|(O++[_]).set O.length _)=_);refine ae (G _<|G _ xZ) ?_;refine za (a9:=rO E<|(O++[_])++[.sr<|.replicate 32<|H 0]) (z:=.b<|O.length+7) ?_ B ((wQ Bs B).trans<|G (λq=>D<|rO E q) Gn)<|Gq JW Bs ?_
 ·refine(?_:D (uh.a<|rN.b<|(rO E<|O++[_]).length,rO E (O++[_])++[.sr<|.replicate 32<|H 0])=_);refine(az (G (·+6) bm:(rO E<|O++[_]).length=O.length+7))▸?_
  rfl
 ·refine(?_:ss _ (rO E<|((O++[_])++[_]).set O.length _)=_);refine ae (G _<|G _ Gn) ?_;rfl
end
section
variable{s:Nat} {E:sc} {O P:rR} {M l q A d:rN} {w:sC}
theorem Gs:vb (a6+3) false 16 [H 1] (rO E O)=rS (.b<|O.length+6) (rO E<|(O++[tr .e (.b<|O.length+7) (H 0)<|.f []])++[.sr<|bi 32<|H 0]):=Bq B B B (sE (.j _<|.i _<|.a _ _ .e) λf=>f (wc B) xy JX:rW (a6+2) false 69 [.b<|O.length+6,H 1] (rO E<|O++[.sW 16 []])=rS .e (rO E<|(O++[tr .e (.b<|O.length+7) (H 0)<|.f []])++[.sr<|.replicate 32<|H 0])) B
theorem wg(a:O[s]?=D z):(O++V)[s]?=D z:=(fu (List.getElem?_eq_some_iff.mp a).1).trans a
theorem wB(a:O[s]?=D z):(rO E<|O.set s b++V)[s+6]?=D b:=wg<|xY a
theorem yB(a:O[s]?=D z)(c:(sK.a h b&&vF a5)=true):vg (rO E<|O.set s (.sW h a5)++V) (.b<|s+6) b M=D (rO E<|O.set s (.sW h<|ut b M a5)++V):=(wQ (wB a) c).trans<|G (λq=>D<|rO E q)<|by refine ae (rI _ _ (List.getElem?_eq_some_iff.mp<|xY a).1) ?_;rw[io]
theorem Bu(a:P.length=b):rU t g (.dJ (.d k)<|.d<|H 32) o (rO E P)=rS (.b<|b+6) (rO E<|P++[.sr<|bi 32 k]):=sa a B
theorem zj(a:P.length=b)(c:wN w M k=D f):wO (rO E<|P++[w]) (.b<|b+6) M k=D (rO E<|P++[f]):=by
 subst a;refine(?_:(((rO E<|P++[w])[P.length+6]?).bind λj=>wN j M k).map (λj=>(rO E<|P++[w]).set (P.length+6) j)=_);exact J xy<|ae (G _ c)<|G (λq=>D<|rO E q) xZ
def uF(E:sc)(O:rR)(s:Nat)(l q M A:rN)(w:List rN):rR:=rO E<|O.set s (tr l q M A)++[.sr w]
theorem JY(a:O[s]?=D (tr .e q M A)):rW (a6+1) false 84 [.b<|s+6,vD N e n m b,d] (rO E O)=rS .e (uF E O s (.b N) (.b<|O.length+6) (H e) d<|uv n m b):=sE (.i _<|.j (rO E<|O.set s<|tr (.b N) q M A)<|.p (.b<|O.length+6) (uF E O s (.b N) q M A<|.replicate 32<|H 0)<|.j (uF E O s (.b N) (.b<|O.length+6) M A<|.replicate 32<|H 0)<|.i _<|.j (uF E O s (.b N) (.b<|O.length+6) M A<|(bi 32<|H 0).set 2<|H n)<|.i _<|.j (uF E O s (.b N) (.b<|O.length+6) M A<|((bi 32<|H 0).set 2<|H n).set 10<|H m)<|.i _<|.j (uF E O s (.b N) (.b<|O.length+6) M A<|uv n m b)<|.j (uF E O s (.b N) (.b<|O.length+6) (H e) A<|uv n m b)<|.j (uF E O s (.b N) (.b<|O.length+6) (H e) d<|uv n m b)<|.f .e) λf=>f (sI a E) (wQ (sI a E) B) (Bu eu) (yB a B) (wB a) (zj eu B) (wB a) (zj eu B) (wB a) (zj eu B) (yB a B)<|yB a B
theorem JZ{b5:Nat}(a:O[s]?=D (tr (.b<|r+6) q M A))(c:(uF E O s (.b N) (.b<|O.length+6) (H e) d<|uv n m b)[r+6]?=D (sj X b5))(g:rW a6 false 65 [.b<|r+6] (uF E O s (.b N) (.b<|O.length+6) (H e) d<|uv n m b)=rS .e h):rW (a6+1) false 84 [.b<|s+6,vD N e n m b,d] (rO E O)=rS .e h:=sE (.i _<|.j (rO E<|O.set s<|tr (.b N) q M A)<|.p (.b<|O.length+6) (uF E O s (.b N) q M A<|.replicate 32<|H 0)<|.j (uF E O s (.b N) (.b<|O.length+6) M A<|.replicate 32<|H 0)<|.i _<|.j (uF E O s (.b N) (.b<|O.length+6) M A<|(bi 32<|H 0).set 2<|H n)<|.i _<|.j (uF E O s (.b N) (.b<|O.length+6) M A<|((bi 32<|H 0).set 2<|H n).set 10<|H m)<|.i _<|.j (uF E O s (.b N) (.b<|O.length+6) M A<|uv n m b)<|.j (uF E O s (.b N) (.b<|O.length+6) (H e) A<|uv n m b)<|.j (uF E O s (.b N) (.b<|O.length+6) (H e) d<|uv n m b)<|.f<|.i _<|.a _ _ .e) λf=>f (sI a E) (wQ (sI a E) B) (Bu eu) (yB a B) (wB a) (zj eu B) (wB a) (zj eu B) (wB a) (zj eu B) (yB a B) (yB a B) c g
end
def Du(X:Nat)(E:sc)(O:rR)(y:Nat->Prop)(j b5:Nat)(m:Mine.rQ rN):Prop:=∀a:Prop,(∀(p:sc) (R:Nat) (b0:Nat->Option Nat) (b a7:Nat->Nat),sB X p y R b0 b a7->sG rP y E p->m=rS (H 1) (rO p<|O.set j<|sj X<|max b5 1) ->a) ->a
theorem Du.mk{b5:Nat}(a:sB X p y R b0 b a7)(S:sG rP y E p)(c:m=rS (H 1) (rO p<|O.set j<|sj X<|max b5 1)):Du X E O y j b5 m:=λ_ i=>i p R b0 b a7 a S c
section
variable{b b5:Nat}
theorem Gt:wY 1=rM:=by refine ae Af ?_;rw[bh 1];exact J (qy ..)<|J (Nat.div_self sf.aR)<|ju ..
theorem J0{P:Nat->Nat}(l:sB X E y i x P A)(a:O[j]?=D (sj X b5))(n:P 0=0)(o:2<=i):Du X E O y j b5 (rW (a6+9) false 56 [.b<|j+6,H 0,H 1]<|rO E O):=by
 have p:vG 0 0 0:=by have:=z_<|oa sf.dG sf.dG;rwa [kg,qj,Nat.zero_mod]at this
 refine CD (a6:=a6+2) (u:=30) l a p (by rw[kg];exact n) (by decide) _ (λg q d h r s k m=>?_) λt u v h g k m=>?_
 ·have e:vd (a6+8) none (.aG .b (.a 4)<|.f 52 (.aD (.a 0) 68)<|.c (.a 2) .n) EA 5000 [.rL<|.b<|j+6,.rL<|H 0,.rL<|H 1,.rL<|H 30,.rL<|H 0] (rO E O)=ss [.rL<|.b<|j+6,.rL<|H 0,.rL<|H 1,.rL<|H 30,.rL<|H rM] (rO d O):=yn (vQ (.i _<|.a _ _<|.h true .e) λf=>f (sI a E) (zQ)<|vv<|J Gt<|sf.aR) (tg (.i _<|.a _ _<|.i _<|.d (H rM) .e) λf=>f (sI a E) m (sI a d)<|G (λc=>D<|H c)<|bt rM) <|xj<|vQ (.i _<|.a _ _<|.h false .e) λf=>f (sI a d) (zQ)<|uK<|ao<|Gt;exact .mk h k<|sE (.i _<|.a _ _<|.i _<|.a (H 0) (rO E O)<|.o _ _ _<|.i _<|.d _<|.j _ .e) λf=>f (sI a E) (sE (.f<|.f<|.i _<|.h false .e) λf=>f (sI a E)<|vj<|oa (oa sf.aR sf.dG) sf.dG) (sI a E) ((zQ).trans<|G (λc=>rS (H c)<|rO E O)<|by refine ae Af ?_;exact J (bt ..)<|J (kc<|mi sf.aR fp)<|kg ..) e (sI a d) CY<|wQ (sI a d) B
 ·exact absurd o<|Nat.not_le.mpr g
end
def Av(g s:Nat)(z:List (List Nat))(V:List Nat)(T b2 Y:sm)(d:rR)(m:rV):Prop:=∀a:Prop,(∀(b6 b8:sm),(∀m∈s_ s z,g<=m) ->m=ss [T,.rL<|H g,b2,b6,.sl<|.sr<|(V++s_ s z).map H,b8,Y] d->a) ->(∀(o:sg),(∃m∈s_ s z,m<g) ->m=vt .e o d->a) ->a
theorem Av.aJ(a:(∀m∈s_ s z,g<=m))(S:m=ss [T,.rL<|H g,b2,b6,.sl<|.sr<|(V++s_ s z).map H,b8,Y] d):Av g s z V T b2 Y d m:=λ_ i _=>i b6 b8 a S
theorem Av.aI(a:(∃m∈s_ s z,m<g))(S:m=vt .e o d):Av g s z V T b2 Y d m:=λ_ _ i=>i o a S
section
variable{t g s n:Nat} {z a5:List (List Nat)} {V:List Nat} {T b2 b8 Y:sm} {d:rR}
theorem Dv(a:dt h 18446744073709551616=true):tJ .b (H b) (H h)=D (H<|b*h):=tF<|ae (G _ a)<|(iu ..)
theorem J1{a0:Type}{b h:a0->rN}(a:∀c,u (b c) d=rS (h c) d):∀{w:List a0},tO u (w.map b) d=uf (w.map h) d:=@λw=>uP (B) (λc w e=>uZ (a c)<|e) w
theorem J2(a:V.length<=1000000):xO (H s) (.sr<|V.map H)=D (.sr<|(V++[s]).map H):=(zY<|aa (ao<|a_ _) a).trans<|G (λw=>D<|sC.sr w) (fg (l₂:=[s])).symm
theorem J3:∀{z:List (List Nat)} {s:Nat} {V:List Nat} {b8:sm},(∀c∈z,c.length<=g) ->g<=s->V.length+z.length<=1000000->Av g s z V T b2 Y d (ti t none [5] false Cp (z.map λc=>H c.length) [T,.rL<|H g,b2,.rL<|H s,.sl<|.sr<|V.map H,b8,Y] d):=by
 intro z;induction z with
 |nil=>
  exact @λs V b8 _ _ _=>.aJ (λ_ a=>absurd a fe) (by rw[show s_ s []=[]from B,dh];rfl)
 |cons c z j=>
  exact @λs V b8 h a7 i=>by
   have S:=aa (h c bn) a7;rcases cm (uN s c.length) g with f|f
   ·exact .aI (sn _ bn f)<|Ek B<|tg (.d _<|.d _<|.d _<|.h true .e) λM=>M (tS S) (wT<|by decide) (Dv B)<|vv f
   ·have e:=tg (t:=t) (a:=none) (a1:=Cp) (o:=[T,.rL<|H g,b2,.rL<|H s,.sl<|.sr<|V.map H,.rL<|H c.length,Y]) (d:=d) (.d _<|.d _<|.d _<|.h false<|.i _ .e) λM=>M (tS S) (wT<|by decide) (Dv B) (uK f)<|J2<|aa (ax _ _) i;refine j (V:=V++[uN s c.length]) (b8:=.rL<|H c.length) (λM b=>h M<|br _ b) f (aa (ao<|by refine J bm ?_;refine ae (bf ..) ?_;exact G (V.length+·)<|bh ..) i) _ (λk l a m=>?_) λk a m=>?_
    ·rw[cp]at m;exact .aJ (λM b=>(List.mem_cons.mp b).elim (λv=>J v f)<|a M)<|tl B e m
    ·exact .aI (a.imp λM a=>⟨br _ a.1,a.2⟩)<|tl B e m
theorem Gu:∀{b h:List (List Nat)} {s:Nat},s_ s (b++h)=s_ s b++s_ (u_ s b) h:=by
 intro b;induction b with
 |nil=>
  exact @λ_ _=>B
 |cons c b a=>
  exact @λ_ s=>G (uN s c.length::·) a
def uW(n:Nat)(a5:List (List Nat)):List Nat:=s_ n (tx a5)++[tq n a5]
def J4(g n:Nat)(a5:List (List Nat))(d:rR)(m:rQ rN):Prop:=∀a:Prop,((∀m∈uW n a5,g<=m) ->m=rS (sd<|uW n a5) d->a) ->((∃m∈uW n a5,m<g) ->m=rS .e d->a) ->a
theorem J5(o:∀c∈a5,c.length<g)(p:4*(a5.length+1)<=g)(j:a5.length<=16)(a7:g<=n):J4 g n a5 d (rW (t+1) false 92 [.c<|a5.map sd,H g,H n] d):=by
 have k:(vf<|s_ n<|tx a5).length=4*(a5.length+1):=Ah.trans<|G (λt=>4*(t+1))<|C3.trans<|a_ _;have e:uW n a5=s_ n (tx a5++[vf<|s_ n<|tx a5]):=(Gu (h:=[vf<|s_ n<|tx a5])).symm;have b7:((tx a5++[vf<|s_ n<|tx a5]).map λc=>H c.length)=(a5.map λc=>H<|c.length+1)++[H<|4*(a5.length+1)]:=by
  refine ae fg ?_;refine sa k<|G (·++_)<|(fj ..).trans<|G (λu=>a5.map u)<|funext λc=>G H bm
 have b:∀c∈tx a5++[vf<|s_ n<|tx a5],c.length<=g:=λc b=>(List.mem_append.mp b).elim (λb=>(List.mem_map.mp b).elim λM f=>f.2▸aa (ao bm) (o M f.1)) λb=>J (List.mem_singleton.mp b)<|J k p;have w:=J3 (t:=t) (d:=d) (V:=[]) (T:=.rL<|.c<|a5.map sd) (b2:=.rL<|H n) (b8:=.rT) (Y:=.rT) b a7<|aa (ao<|by refine ae (G _ bm) ?_;refine J (a_ _) ?_;exact bt _)<|aa (bw j)<|by decide
 have h:rU t false (.o [6] false [] (.a 0)<|.aB .a (.k .a<|.c (.a 6) .n)<|.d<|H 1) [.rL<|.c<|a5.map sd,.rL<|H g,.rL<|H n,.rL<|H n,.sl<|.sr [],.rT,.rT] d=rS (.c<|a5.map λc=>H<|c.length+1) d:=vR B B (by rw[a_];exact aa j<|sz B)<|J1 λc=>vQ (t:=t) (g:=false) (e:=.aB .a (.k .a<|.c (.a 6) .n)<|.d<|H 1) (o:=[.rT,.rT,.rT,.rT,.rT,.rT,.rL<|sd c]) (.d _<|.f .e) λf=>f Ar;rw[b7]at w;have x:tJ .a (.c<|a5.map λc=>H<|c.length+1) (.c [H<|4*(a5.length+1)])=D (.c<|(a5.map λc=>H<|c.length+1)++[H<|4*(a5.length+1)]):=G (λg=>si g<|D<|rN.c<|(a5.map λc=>H<|c.length+1)++[H<|4*(a5.length+1)])<|vc<|by rw[a_];exact aa (bw j)<|by decide
 have l:uo d .a [.c<|a5.map sd]=D (H a5.length):=G (λt=>D<|H t)<|a_ _;refine w _ (λq r a m=>?_) λq a m=>?_
 ·exactλ_ i _=>i (e▸a) (by
   exact J e<|sE (.p _ d<|.d _<|.f<|.d _<|.d _<|.o _ _ _ .e) λf=>f h l (tF B) x m)
 ·exactλ_ _ i=>i (J e a)<|sE (.p _ d<|.d _<|.f<|.d _<|.d _<|.o _ _ _ .e) λf=>f h l (tF B) x m
end
noncomputable def uG(k h:Nat):Bool:=decide<|k&&&h=h
def vJ(k:Nat):rN:=.j [.d<|uG k 19,.d<|uG k 21,.d<|uG k 25]
def wC(k:Nat):Bool:=cn k 0||(dt k 256&&uG k 17)
def Dw(u k:Nat):Bool:=!wC k||(wC (uD (vz u) k)&&(cn (uD (vz u) k) 0==false&&((uG (uD (vz u) k) 19==(uG k 19||decide (1<u)))&&((uG (uD (vz u) k) 21==(uG k 21||decide (u/2 %2=1)))&&(uG (uD (vz u) k) 25==(uG k 25||decide (u %2=1)))))))
theorem Gv:(b_ 8).all (λu=>(b_ 256).all λk=>Dw u k)=true:=by decide+kernel
structure wh(W:List (Int×rN))(P:Nat->Nat)(i:Nat):Prop where
 d:W.length<=i
 g:∀c,wC (P c)=true
 h:∀c:Nat,tc ((c*rM:Nat):Int) W=bif cn (P c) 0 then none else D<|vJ<|P c
section
variable{h i a6 c u:Nat} {P:Nat->Nat} {W:List (Int×rN)} {d:rR} {T a' b2 b6 b8 Y a4 p n t:sm}
theorem Gw(a:wC k=true):k<256:=by
 rcases Bool.or_eq_true_iff.mp a with a|a
 ·refine J (da a) ?_;decide
 ·exact di (Bool.and_eq_true_iff.mp a).1
theorem Dx(g:u<8)(a:wC k=true):wC (uD (vz u) k)=true/\cn (uD (vz u) k) 0=false/\vJ (uD (vz u) k)=.j [.d<|uG k 19||decide (1<u),.d<|uG k 21||decide (u/2 %2=1),.d<|uG k 25||decide (u %2=1)]:=by
 have l:=List.all_eq_true.mp (List.all_eq_true.mp Gv u<|List.mem_range.mpr g) k<|List.mem_range.mpr<|Gw a;unfold Dw at l
 rw[a]at l;have l:=Bool.and_eq_true_iff.mp l;have b:=Bool.and_eq_true_iff.mp l.2;have e:=Bool.and_eq_true_iff.mp b.2;have f:=Bool.and_eq_true_iff.mp e.2;refine tG l.1 (ei b.1)<|?_;exact sa (ei e.1)<|sa (ei f.1)<|(ei f.2)▸B
theorem Gx{i:Int}:∀{w:List (Int×a0)},(un i k w).length<=w.length+1
 |[]=>bg _
 |(r,z)::q=>by
  refine(?_:(if i=r then(r,k)::q else(r,z)::un i k q).length<=_);by_cases a:i=r
  ·exact(an a)▸(ea _)
  ·exact J (am a)<|bw Gx
theorem wh.fD(b:0<rM)(b4:wh W P i)(a:wC k=true\/k=7)(e:cn k 0=false):W.length<=i/\∀M:Nat,tc ((M*rM:Nat):Int) (un ((c*rM:Nat):Int) (vJ k) W)=bif cn (th P c k M) 0 then none else D<|vJ<|th P c k M:=by
 refine⟨b4.d,λM=>?_⟩;refine ae (yS ..) ?_;by_cases f:M=c
 ·refine J f ?_;refine ae (an B) ?_;refine tC▸e▸?_;rfl
 ·refine(sZ f)▸?_;refine ae (am (λv=>f (ny b<|fv v):¬((M*rM:Nat):Int)=((c*rM:Nat):Int))) ?_;exact b4.h M
theorem wh.aU(b:0<rM)(b4:wh W P i)(a:wC k=true)(e:cn k 0=false):wh (un ((c*rM:Nat):Int) (vJ k) W) (th P c k) (i+1):=⟨aa Gx<|bw b4.d,λM=>by
  by_cases f:M=c
  ·refine ae (G _<|G _ f) ?_;exact ae (G _ tC) a
  ·refine ae (G _<|sZ f) ?_;exact b4.g M,(b4.fD b (.inl a) e).2⟩
theorem Dy(a:W.length<=1000000):wN (.tw W) (H b) z=D (.tw<|un (b:Int) z W):=G (λg=>si g<|D<|sC.tw<|un b z W)<|vc a
theorem Dz(a:rU a6 b e o d=rS (.d g) d)(f:rU a6 b c0 o d=rS (.d N) d):rU a6 b (.bL<|.c e<|.c c0 .n) o d=rS (.d<|g||N) d:=by
 cases g
 ·exact vk<|vP a<|wl f
 ·exact vk<|zF a
theorem J6(g:0<rM)(b4:wh W P i)(b:i<=1000000)(e:u<8):rY a6 none Cq [T,a',b2,b6,.sl<|.tw W,b8,Y,a4,.rL<|H u,.rL<|H<|c*rM,t] d=ss [T,a',b2,b6,.sl<|.tw<|un ((c*rM:Nat):Int) (vJ<|uD (vz u)<|P c) W,b8,Y,a4,.rL<|H u,.rL<|H<|c*rM,.rL<|vJ<|P c] d:=by
 have x:(tc ((c*rM:Nat):Int) W).getD (.j [.d false,.d false,.d false])=vJ (P c):=by
  refine J (b4.h c) ?_;cases a:cn (P c) 0 with
  |true=>refine J (da a) ?_;rfl
  |false=>rfl
 exact J ((Dx e<|b4.g c).2.2)<|tg (.p (vJ<|P c) d<|.p _ d<|.p _ d<|.p _ d<|.i _ .e) λf=>f (G (λk=>rS k d) x) (Dz (wj B B B B)<|sD B B<|yQ (d:=d)) (Dz (wj B B B B)<|sD (sb (sb B B<|wT<|by decide) B<|vO<|by decide) B zD) (Dz (wj B B B B)<|sD (sb B B<|vO<|by decide) B zD)<|Dy<|aa b4.d b
theorem J7(f:0<rM)(g:u<8):∀{h c i:Nat} {W:List (Int×rN)} {P:Nat->Nat} {n t:sm},wh W P i->i+h<=1000000->∃a b e,wh a (tY P (vz u) c h) (i+h)/\ti a6 none [9] false Cq ((eb c h).map λc=>H<|c*rM) [T,a',b2,b6,.sl<|.tw W,b8,Y,a4,.rL<|H u,n,t] d=ss [T,a',b2,b6,.sl<|.tw a,b8,Y,a4,.rL<|H u,b,e] d:=by
 intro h;induction h with
 |zero=>
  exact @λc i W P n t b4 _=>⟨W,n,t,by refine J zb ?_;exact b4,B⟩
 |succ h o=>
  exact @λc i W P n t b4 j=>by
   have q:i+1+h<=1000000:=by refine J (bf ..) ?_;rw[bh 1];exact j
   have l:=Dx g<|b4.g c;refine zp (o (c:=c+1) (n:=.rL<|H<|c*rM) (t:=.rL<|vJ<|P c) (b4.aU (c:=c) f l.1 l.2.1) q) λa b e k m=>?_;rw[zc,bf,bh 1]at k;exact zq a b e k<|tl B (J6 f b4 (aa (ax ..) j) g) m
theorem J8(q:0<rM):∀{h c i:Nat} {W:List (Int×rN)} {P:Nat->Nat} {n:sm},wh W P i->i+h<=1000000->(∀k,c<=k->P k=0) ->∃b g,wh b (tY P 22 c h) (i+h)/\ti a6 none [9] false EQ ((eb c h).map λc=>H<|c*rM) [T,a',b2,b6,.sl<|.tw W,b8,Y,a4,p,n,t] d=ss [T,a',b2,b6,.sl<|.tw b,b8,Y,a4,p,g,t] d:=by
 intro h;induction h with
 |zero=>
  exact @λc i W P n b4 _ _=>⟨W,n,by refine J zb ?_;exact b4,B⟩
 |succ h r=>
  exact @λc i W P n b4 j a=>by
   have s:i+1+h<=1000000:=by refine J (bf ..) ?_;rw[bh 1];exact j
   have e:uD 22 (P c)=23:=by refine ae (G _<|a c<|bg c) ?_;rfl
   refine tP (r (c:=c+1) (n:=.rL<|H<|c*rM) (b4.aU (k:=23) q B B) s λk l=>(sZ<|c_ l).trans<|a k<|f_ l) λb g o m=>?_;rw[<-e,zc,bf,bh 1]at o;exact uw b g o<|tl B (tg (.i _ .e) λf=>f<|Dy<|aa b4.d<|aa (ax ..) j) m
end
def sF.bG(x:sF):rN:=vo x.b x.c x.a x.d
def DA(P:Nat->Nat)(i:Nat)(T b2 b6:sm)(d:rR)(m:rV):Prop:=∀a:Prop,(∀(W:List (Int×rN)) (b8 Y a4 p n t:sm),wh W P i->m=ss [T,.rL<|H rM,b2,b6,.sl<|.tw W,b8,Y,a4,p,n,t] d->a) ->a
theorem DA.mk{P:Nat->Nat}(a:wh W P i)(S:m=ss [T,.rL<|H rM,b2,b6,.sl<|.tw W,b8,Y,a4,p,n,t] d):DA P i T b2 b6 d m:=λ_ i=>i W b8 Y a4 p n t a S
def DB(W:List (Int×rN))(P:Nat->Nat):Prop:=∀c:Nat,tc ((c*rM:Nat):Int) W=bif cn (P c) 0 then none else D<|vJ<|P c
section
variable{i a6:Nat} {P:Nat->Nat} {d:rR} {T b2 b6:sm} {U:List sF}
theorem DC(a:b<e)(f:e<=1000000):tN (.o ((b/rM*rM:Nat):Int) e rM)=D ((eb (b/rM)<|ug rM b e).map λc=>H<|c*rM):=by
 rw[Nat.div_mul_self_eq_mod_sub_self,E_ (aa (el ..)<|aa (bl a) f) f sf.aR<|aa sf.cH<|af ..,FN a]
theorem J9:∀{U:List sF} {i:Nat} {W:List (Int×rN)} {P:Nat->Nat} {b8 Y a4 p n t:sm},(∀l∈U,0<l.a/\(l.b+l.a<=1000000/\l.d<8)) ->wh W P i->i+uz rM U<=1000000->DA (vC U P) (i+uz rM U) T b2 b6 d (ti a6 none [5,6,7,8] true EP (U.map sF.bG) [T,.rL<|H rM,b2,b6,.sl<|.tw W,b8,Y,a4,p,n,t] d):=by
 intro U;induction U with
 |nil=>
  exact @λi W P b8 Y a4 p n t _ b4 _=>.mk b4 B
 |cons l U e=>
  exact @λi W P b8 Y a4 p n t a b4 b=>by
   have c:=a l bn;have g:i+uz rM (l::U)=i+ug rM l.b (l.b+l.a)+uz rM U:=(bf ..).symm;rw[g]at b⊢;refine zp (J7 (a6:=a6) (d:=d) (T:=T) (a':=.rL<|H rM) (b2:=b2) (b6:=b6) (b8:=.rL<|H l.b) (Y:=.rL<|sd l.c) (a4:=.rL<|H l.a) (c:=l.b/rM) (n:=n) (t:=t) sf.aR c.2.2 b4<|aa (ax ..) b) λo q r h j=>?_;exact e (λx A=>a x<|br _ A) h b _ λs u v w y z E k m=>(.mk k<|tl B (tg (.d _<|.d _<|.f<|.d _<|.t _<|.o _ _ _ .e) λf=>f (wT sf.aR) (Dv<|nx<|bb sf.cH<|af ..) (AU sf.aR) (DC (cz c.1) c.2.1) j) m)
theorem J':vE U z v=th (tY (vC U λ_=>0) 22 (z+1)<|v -(z+1)) z 7:=funext λk=>by
 unfold vE tY;by_cases f:k=z
 ·refine(az f)▸?_;refine ae (am λa=>rG _ a.1) ?_;exact ae tC<|J tC B
 ·exact(sZ f)▸(J (sZ f) B)
theorem J_(a:∀l∈U,0<l.a/\(l.b+l.a<=1000000/\l.d<8))(h:uz rM U<=500000)(e:z+1<v)(j:v*rM<=1000000)(m:v<=400000)(o:∀k,z<=k->vC U (λ_=>0) k=0):∃W,DB W (vE U z v)/\rW (a6+1) false 93 [.c<|U.map sF.bG,H rM,H<|(z+1)*rM,H<|v*rM] d=rS (.p W) d:=by
 have b:0+uz rM U+(v -(z+1))<=1000000:=aa (cu (aa (ao<|bt _) h)<|aa (el ..) m)<|af ..;refine J9 (a6:=a6) (d:=d) (T:=.rL<|.c<|U.map sF.bG) (b2:=.rL<|H<|(z+1)*rM) (b6:=.rL<|H<|v*rM) (b8:=.rT) (Y:=.rT) (a4:=.rT) (p:=.rT) (n:=.rT) (t:=.rT) (W:=[]) (P:=λ_=>0) a ⟨bg 0,λ_=>B,λ_=>B⟩ (aa (ax ..) b) _ λw b8 Y a4 p n t q r=>?_;refine tP (J8 (a6:=a6) (d:=d) (T:=.rL<|.c<|U.map sF.bG) (a':=.rL<|H rM) (b2:=.rL<|H<|(z+1)*rM) (b6:=.rL<|H<|v*rM) (b8:=b8) (Y:=Y) (a4:=a4) (p:=p) (n:=n) (t:=t) (c:=z+1) sf.aR q b λk s=>o k<|f_ s) λx y g u=>?_;have c:=DC (ml e sf.aR) j;have c:=(ho _ sf.aR)▸(CZ e)▸c;refine sn _ (J J'<|(g.fD sf.aR (.inr B) B).2)<|sE (.o _ _ _<|.d _<|.t _<|.o _ _ _<|.d (H<|z*rM)<|.i _ .e) λf=>f r (AU sf.aR) c u ((tS ?_).trans ?_)<|Dy<|aa g.d b
 ·exact(cw ..)▸(af ..)
 ·exact(cw ..)▸(J (qy ..) B)
end
section
variable{h a6 c j b5 X:Nat} {P A:Nat->Nat} {x:Nat->Option Nat} {E:sc} {O:rR} {a' b2 b6 a2 b8 Y p n t o u i q b:sm} {W:List (Int×rN)}
theorem Ka:tm d .a (.d g) (.d g)=D false:=by cases g<;>rfl
theorem Kb:tm d .a (vJ k) (vJ k)=D false:=by
 unfold vJ;cases uG k 19<;>cases uG k 21<;>cases uG k 25<;>rfl
theorem Kc(b0:sV X E.a x P A)(a:O[j]?=D (sj X b5))(b4:DB W P)(v:c<rP*rP):∃y,rY (a6+8) none Cr [.rL<|.b<|j+6,a',b2,b6,a2,b8,Y,.rL<|.p W,.rL<|H<|c*rM,n,t,o,u,i,q,b] (rO E O)=ss [.rL<|.b<|j+6,a',b2,b6,a2,b8,Y,.rL<|.p W,.rL<|H<|c*rM,y,t,o,u,i,q,b] (rO E O):=by
 have s:=z_ v;have w:∀h,17|||h<1024->rW (a6+8) false 62 [.b<|j+6,H<|c*rM,H h] (rO E O)=rS (.d<|decide<|P c&&&(17|||h)=17|||h) (rO E O):=λh d=>by
  have:=Fw (a6:=a6+1) (g:=false) (q:=j+6) b0 a s d<|b0.gO _
  rwa [wb]at this
 have l:∀h,17|||h<1024->vm (a6+8) false [15] false [0,8] (.f 21 (.a 0)<|.c (.a 8)<|.c (.a 15) .n) [.rL<|.b<|j+6,a',b2,b6,a2,b8,Y,.rL<|.p W,.rL<|H<|c*rM,n,t,o,u,i,q,b] (H h) (rO E O)=rS (.d<|decide<|P c&&&(17|||h)=17|||h) (rO E O):=λh d=>vQ (o:=[.rL<|.b<|j+6,.rT,.rT,.rT,.rT,.rT,.rT,.rT,.rL<|H<|c*rM,.rT,.rT,.rT,.rT,.rT,.rT,.rL<|H h]) (.i _<|.a _ _ .e) λf=>f a<|w h d;have m:rU (a6+8) false (.o [15] false [0,8] (.m<|.c (.l 91<|H 2)<|.c (.l 87<|H 4)<|.c (.l 129<|H 8) .n)<|.f 21 (.a 0)<|.c (.a 8)<|.c (.a 15) .n) [.rL<|.b<|j+6,a',b2,b6,a2,b8,Y,.rL<|.p W,.rL<|H<|c*rM,n,t,o,u,i,q,b] (rO E O)=rS (.c [.d<|uG (P c) 19,.d<|uG (P c) 21,.d<|uG (P c) 25]) (rO E O):=vR B B (show 3<=1000000 by decide)<|uZ (l 2<|sz B)<|uZ (l 4<|sz B)<|uZ (l 8<|sz B) A4;have M:=CC (a6:=a6+1) (g:=false) (q:=j+6) b0 a s;have r:∀{b':Bool->Prop},(P c=0->b' false) ->(P c≠0->b' true) ->b' (!cn (P c) 0):=λS z=>by
  cases e:cn (P c) 0 with
  |true=>exact S<|da e
  |false=>exact z<|oi e
 have N:=b4 c;rw[wb,r (b':=λg=>(!decide (P c&&&1=0))=g) (λe=>by refine J e ?_;rfl) λe=>by refine J (b0.gN e) ?_;rfl]at M;exact⟨_,tg (.p (vJ<|P c) _<|.i _<|.a _ _<|.h (!cn (P c) 0)<|.h false<|.a (vJ<|P c) _<|.h false .e) λf=>f (tA (rZ m B) B B) a M (G D<|by refine ae (G _ N) ?_;cases cn (P c) 0<;>rfl) Ka (G (λk=>rS k<|rO E O) (by
  refine J N ?_;cases e:cn (P c) 0 with
  |true=>refine J (da e) ?_;rfl
  |false=>rfl)) Kb⟩
theorem Kd(b0:sV X E.a x P A)(f:O[j]?=D (sj X b5))(b4:DB W P):∀{h c:Nat} {p n:sm},c+h<=rP*rP->∃e d,ti (a6+8) none [8] false Cr ((eb c h).map λc=>H<|c*rM) [.rL<|.b<|j+6,a',b2,b6,a2,b8,Y,.rL<|.p W,p,n,t,o,u,i,q,b] (rO E O)=ss [.rL<|.b<|j+6,a',b2,b6,a2,b8,Y,.rL<|.p W,e,d,t,o,u,i,q,b] (rO E O):=by
 intro h;induction h with
 |zero=>
  exact @λc p n _=>⟨p,n,B⟩
 |succ h g=>
  exact @λc p n a=>by
   exact bk (Kc (a6:=a6) (a':=a') (b2:=b2) (b6:=b6) (a2:=a2) (b8:=b8) (Y:=Y) (n:=n) (t:=t) (o:=o) (u:=u) (i:=i) (q:=q) (b:=b) b0 f b4<|ar (cz<|bu h) a) λd m=>vT (g (c:=c+1) (p:=.rL<|H<|c*rM) (n:=d)<|aa (ao<|(bf ..).trans<|G (c+·)<|bh ..) a) λe d k=>vK e d<|tl B m k
end
def xd:Nat->List (List Nat) ->Prop
 |_,[]=>True
 |s,c::q=>uN s c.length+c.length<=s/\xd (uN s c.length) q
section
variable{s w g k r m i b n:Nat} {z U:List (List Nat)} {A:Nat->Nat} {c:List Nat} {a5:List (List Nat)}
theorem Ke:∀{z:List (List Nat)} {s:Nat},(∀c∈z,c.length<=g) ->g<=s->(∀m∈s_ s z,g<=m) ->xd s z:=by
 intro z;induction z with
 |nil=>
  exact @λ_ _ _ _=>trivial
 |cons c z e=>
  exact @λs a a7 d=>⟨(Nat.add_le_of_le_sub (aa (a c bn) a7)<|Nat.div_mul_le_self ..),e (λM f=>a M<|br _ f) (d _ bn) λm h=>d m<|br _ h⟩
theorem Kf:∀{z:List (List Nat)} {s:Nat} {A:Nat->Nat},xd s z->s<=k->ww A s z k=A k:=by
 intro z;induction z with
 |nil=>
  exact @λ_ _ _ _=>B
 |cons c z e=>
  exact @λs A d a=>(e d.2<|aa (aa (ax ..) d.1) a).trans<|yw<|.inr<|aa d.1 a
theorem Kg:∀{z:List (List Nat)} {s:Nat} {A:Nat->Nat},(∀m∈s_ s z,g<=m) ->k<g->ww A s z k=A k:=by
 intro z;induction z with
 |nil=>
  exact @λ_ _ _ _=>B
 |cons c z e=>
  exact @λs A a d=>(e (λm f=>a m<|br _ f) d).trans<|yw<|.inl<|ar d<|a _ bn
theorem DD:∀{z:List (List Nat)} {s i:Nat} {A:Nat->Nat},xd s z->z[i]?=D c->(s_ s z)[i]?=D m->r<c.length->ww A s z (m+r)=c.getD r 0
 |M::z,s,0,A,a,S,d,e=>by
  obtain rfl:=ak S;obtain rfl:=ak d;exact(Kf a.2<|ax ..).trans<|Fm e
 |M::z,s,i+1,A,a,S,d,e=>DD (A:=tW A (uN s M.length) M) a.2 S d e
theorem DE:∀{z:List (List Nat)} {s i:Nat},xd s z->z[i]?=D c->(s_ s z)[i]?=D m->m+c.length<=s
 |M::z,s,0,a,S,d=>by
  obtain rfl:=ak S;obtain rfl:=ak d;exact a.1
 |M::z,s,i+1,a,S,d=>aa (DE a.2 S d)<|aa (ax ..) a.1
theorem Kh:∀{b:List (List Nat)} {s:Nat} {A:Nat->Nat},ww A s (b++U)=ww (ww A s b) (u_ s b) U:=by
 intro b;induction b with
 |nil=>
  exact @λ_ _=>B
 |cons c b a=>
  exact @λs A=>a
def xe(n:Nat)(a5:List (List Nat)):List (List Nat):=tx a5++[vf<|s_ n<|tx a5]
theorem DF:uW n a5=s_ n (xe n a5):=(Gu (h:=[vf<|s_ n<|tx a5])).symm
theorem DG:∀{w:List Nat} {b:Nat},(∀r,r<w.length->A (b+r)=w.getD r 0) ->tI A b w.length=w:=by
 intro w;induction w with
 |nil=>
  exact @λ_ _=>B
 |cons c w d=>
  exact @λb a=>by
   refine(?_:A b::tI A (b+1) w.length=_);exact ae (G _<|d λr e=>(G A<|ed b r).trans<|a (r+1)<|hc e)<|(show A b=c from a 0<|bu _)▸B
theorem Gy:∀{V:List Nat} {i:Nat},V[i]?=D k->r<4->(V.flatMap tn).getD (4*i+r) 0=(tn k).getD r 0
 |v::V,0,a,d=>by
  obtain rfl:=ak a;refine J List.flatMap_cons ?_;refine ae (fq) ?_;rw[pl];refine J (bt ..) ?_;rw[fu d];rfl
 |v::V,i+1,a,d=>by
  rw[List.flatMap_cons,fq,show 4*(i+1)+r=(tn v).length+(4*i+r)from by refine(gz ..)▸(bh (4*i) 4)▸?_;refine ae (bf ..) ?_;rfl,gg<|ax ..,e_,<-fq];exact Gy a d
end
section
variable{h:Nat} {w:List Nat}
theorem Gz:∀{w:List Nat},vU (vL 8) (w.map H) (w.map H)=D true:=@λw=>uP (B) (λc w a=>by
  have e:vL 8 (H c) (H c)=D true:=G D<|bd B;refine(?_:(vL 8 (H c)<|H c).bind (λh=>si h<|vU (vL 8) (w.map H)<|w.map H)=_);exact J e a) w
theorem zk:tm d .a (sd w) (sd w)=D false:=G (cx (!·)) Gz
theorem DH:uo d .e [sk w]=D (sd w):=G (cx rN.c) Gh
theorem Ki{a0:Type}{c:a0}:∀{h:Nat},(bi h [c]).flatten=bi h c:=@λh=>A3 (B) (λh a=>G (c::·) a) h
theorem Kj(a:h<=1000000):tJ .b (.c [H 0]) (H h)=D (sd<|bi h 0):=by
 refine(?_:si (tQ (1*h)&&(decide (0<=(h:Int))&&decide ((h:Int)<=1000000))) (D<|rN.c<|oo<|bi h [H 0])=_);exact(ju ..)▸(vc a)▸(az<|bd<|dx h)▸(az<|bd<|Int.ofNat_le.mpr a)▸(az Ki)▸(G (λw=>D<|rN.c w) List.map_replicate.symm)
theorem GA{i:Nat}(a:i<b7)(b:i<1000000):uS (i:Int) b7=D i:=by
 unfold uS ic;rw[am<|Int.not_lt.mpr<|dx i,bd<|hu (by decide)<|dx i,bd<|show(i:Int)<4611686018427387904 from Int.ofNat_lt.mpr<|ce b<|af ..];show(if(decide ((0:Int)<=i)&&decide ((i:Int)<b7))=true then D i else none)=_;rw[bd<|dx i,bd<|Int.ofNat_lt.mpr a]
 rfl
theorem GB:uS (-1) (b7+1)=D b7:=by
 have e:(-1)+((b7+1:Nat):Int)=b7:=by refine ae (G _<|lm ..) ?_;rw[oz b7];exact ae (az<|Int.add_assoc ..)<|Int.zero_add _
 refine(?_:(if(decide (0<=(-1)+((b7+1:Nat):Int))&&decide ((-1)+((b7+1:Nat):Int)<((b7+1:Nat):Int)))=true then D ((-1)+((b7+1:Nat):Int)).toNat else none)=_);refine J e<|J (bd<|dx _)<|J (bd (Int.ofNat_lt.mpr (fz _):b7<((b7+1:Nat):Int))) ?_
 rfl
theorem DI(a:uS M U.length=D i)(b:U[i]?=D z):uY d (.c U) (.i M)=D z:=(G (λj=>kt j λi=>U[i]?) a).trans b
theorem zl(a:U[i]?=D z)(b:i<1000000):uY d (.c U) (H i)=D z:=DI (GA (List.getElem?_eq_some_iff.mp a).1 b) a
theorem Aw(a:w[i]?=D k)(b:i<1000000):uY d (sd w) (H i)=D (H k):=zl (by refine ae (ew) ?_;refine ae (G _ a) ?_;rfl) b
theorem Kk(a:uS M U.length=D i)(b:U[i]?=D z):uY d (.m U) (.i M)=D (.i z):=(G (λj=>cx rN.i<|.bind j λi=>U[i]?) a).trans<|G (cx rN.i) b
theorem Kl(a:w[i]?=D k)(b:i<1000000):uY d (sk w) (H i)=D (H k):=have e:(w.map λg:Nat=>(g:Int))[i]?=D (k:Int):=by refine ae (ew) ?_;refine ae (G _ a) ?_;rfl
 Kk (GA (List.getElem?_eq_some_iff.mp e).1 b) e
theorem x_(a:up U E M (xn S o)=D a3):vm t g U E S b' o M d=rU t g b' a3 d:=by unfold vm;refine J a ?_;rfl
theorem Km(a:r<4):(tn k)[r]?=D (k/2^(8*r) %256):=match r,a with
 |0,_=>B
 |1,_=>B
 |2,_=>B
 |3,_=>B
theorem Kn(a:r<4):rU a6 false (.aB .b (.aP (.a 2)<|.a 3)<|.aB .j (.d<|H 256)<|.a 3) [.rT,.rT,.rL<|sk<|tn k,.rL<|H r] d=rS (H<|k/2^(8*r) %256*256^r) d:=sb (wj B B B<|G (se · d)<|Kl (Km a)<|ce a<|sz B) (sb B B<|yP (aa (bl a)<|sz B)<|by decide)<|tF<|B'<|ce (cv _<|sz B)<|by decide
theorem Ko{k b g h s m q:Nat}(S:b=256)(a:g=256*256)(d:h=256*256*256)(e:s=256)(f:m=256*256)(i:q=256*256*256)(j:k<h*256):k/1 %256*1+(k/b %256*s+(k/g %256*m+(k/h %256*q+0)))=k:=by
 subst S;subst a;subst d;subst e;subst f;subst i;have A:∀c,c %256+c/256*256=c:=λc=>(bs (c/256) 256)▸Nat.mod_add_div c 256;have N:∀g,k/(g*256)=k/g/256:=λg=>(ix k g 256).symm;refine(?_:_+(_+(_+k/(256*256*256) %256*_))=k);rw[iz,Nat.mul_one,fi<|er j,N<|256*256,bs<|256*256,<-fo _ 256 (256*256),<-of,A,N 256,<-fo _ 256 256,<-of,A,A]
theorem DJ{b5:Nat}{P:Nat->Nat}(b0:sV X E.a x P A)(c:O[j]?=D (sj X b5))(b4:vy P b 4)(a:tI A b 4=tn k)(d:k<4294967296):rW (a6+9) false 94 [.b<|j+6,H b] (rO E O)=rS (H k) (rO E O):=by
 have m:=Bd (a6:=a6) b0 c b4<|af ..;rw[a]at m;have l:∀r,r<4->vm (a6+8) false [3] false [2] (.aB .b (.aP (.a 2)<|.a 3)<|.aB .j (.d<|H 256)<|.a 3) [.rL<|.b<|j+6,.rL<|H b,.rL<|sk<|tn k,.rT] (H r) (rO E O)=rS (H<|k/2^(8*r) %256*256^r) (rO E O):=λr e=>(x_ B).trans<|Kn e;refine sE (.i _<|.a _ _<|.p (H k) _ .e) λf=>f (sI c E) m<|tA (rZ (vR (tA (rZ B B) B B) (v_<|show 4<=1000000 by decide) (sz B)<|uZ (l 0<|af ..)<|uZ (l 1<|af ..)<|uZ (l 2<|af ..)<|uZ (l 3<|af ..) A4) B) B ?_;refine(?_:D (rN.i<|((k/2^(8*0) %256*256^0:Nat):Int)+(((k/2^(8*1) %256*256^1:Nat):Int)+(((k/2^(8*2) %256*256^2:Nat):Int)+(((k/2^(8*3) %256*256^3:Nat):Int)+0))))=_);exact vX<|G fx<|Ko B B B B B B d
end
structure Bv(P A:Nat->Nat)(s m:Nat)(c:List Nat)(r:Nat):Prop where
 a:vy P m (c.length+1)
 b:tI A m c.length=c
 d:A (m+c.length)=0
 e:∀L,L<c.length->A (m+L)≠0
 f:c.length<99
 g:vy P (s+4*r) 4
 h:tI A (s+4*r) 4=tn m
 i:m<4294967296
section
variable{h a6 r s j b5 X b7:Nat} {P A:Nat->Nat} {x:Nat->Option Nat} {E:sc} {O:rR} {a' b2 b6 a2 b8 Y a4 p n t o u i q b:sm} {U:List sF} {a5:List (List Nat)} {a1:List Nat}
theorem Kp(b0:sV X E.a x P A)(v:O[j]?=D (sj X b5)):∀{U:List sF} {t o u i:sm},(∀l∈U,l.c.length<=l.a/\l.a<=4999/\(1<l.d->vy P l.b l.a)/\tI A l.b l.a=l.c++bi (l.a -l.c.length) 0) -> ∃d e g k,ti (a6+8) none [10,11,12,13] true ER (U.map sF.bG) [.rL<|.b<|j+6,a',b2,b6,a2,b8,Y,a4,p,n,t,o,u,i,q,b] (rO E O)=ss [.rL<|.b<|j+6,a',b2,b6,a2,b8,Y,a4,p,n,d,e,g,k,q,b] (rO E O):=by
 intro U;induction U with
 |nil=>
  exact @λt o u i _=>⟨t,o,u,i,B⟩
 |cons l U w=>
  exact @λt o u i a=>by
   have c:=a l bn;exact Em (w (t:=.rL<|H l.b) (o:=.rL<|sd l.c) (u:=.rL<|H l.a) (i:=.rL<|H l.d) λx A=>a x<|br _ A) λd e g k m=>IN d e g k (tl B (by
      rcases cm 1 l.d with a|a
      ·exact tg (.h true<|.i _<|.a (sk<|l.c++.replicate (l.a -l.c.length) 0) _<|.d _<|.d _<|.d _<|.d _<|.d _<|.h false .e) λf=>f (wV a) (sI v E) (c.2.2.2▸Bd b0 v (c.2.2.1 a) c.2.1) DH Ar (tS c.1) (Kj<|aa (el ..)<|aa c.2.1<|by decide) (xw<|by refine J pc<|J (ds c.1) ?_;exact aa c.2.1<|by decide) zk
      ·exact tg (.h false .e) λf=>f<|vj a) m)
theorem ya(a:M= -1):uY d (sd<|a1++[s]) (.i M)=D (H s):=by
 subst a;unfold sd;exact J fg<|DI (by refine ae (G _ bm) ?_;exact GB) gl
theorem Kq(b0:sV X E.a x P A)(a:O[j]?=D (sj X b5))(l:a5[r]?=D M)(c:a1[r]?=D m)(e:r<1000000)(y:Bv P A s m M r):rY (a6+10) none Cs [.rL<|.b<|j+6,a',.rL<|.c<|a5.map sd,.rL<|sd<|a1++[s],a2,b8,Y,a4,p,n,t,o,u,i,.rL<|H r,b] (rO E O)=ss [.rL<|.b<|j+6,a',.rL<|.c<|a5.map sd,.rL<|sd<|a1++[s],a2,b8,Y,a4,p,n,t,o,u,i,.rL<|H r,b] (rO E O):=by
 have g:∀d,uY d (sd<|a1++[s]) (H r)=D (H m):=λd=>Aw ((fu (List.getElem?_eq_some_iff.mp c).1).trans c) e;have k:=FK (a6:=a6+1) b0 a y.a y.d y.e y.f<|aa (bl y.f)<|sz B;rw[y.b]at k;exact tg (.i _<|.d _<|.a _ _<|.d _<|.d _<|.h false<|.d _<|.d _<|.f<|.a _ _<|.d _<|.h false .e) λf=>f (sI a E) (g _) k DH (zl (by refine ae (ew) ?_;refine ae (G _ l) ?_;rfl) e) zk (ya B) (tF B) (DJ b0 a y.g y.h y.i) (g _)<|wU B
theorem Kr(b0:sV X E.a x P A)(e:O[j]?=D (sj X b5))(f:∀r,r<b7->∃M m,a5[r]?=D M/\a1[r]?=D m/\Bv P A s m M r)(g:b7<=1000):∀{h r:Nat} {q:sm},r+h=b7->∃c,ti (a6+10) none [14] false Cs ((eb r h).map H) [.rL<|.b<|j+6,a',.rL<|.c<|a5.map sd,.rL<|sd<|a1++[s],a2,b8,Y,a4,p,n,t,o,u,i,q,b] (rO E O)=ss [.rL<|.b<|j+6,a',.rL<|.c<|a5.map sd,.rL<|sd<|a1++[s],a2,b8,Y,a4,p,n,t,o,u,i,c,b] (rO E O):=by
 intro h;induction h with
 |zero=>
  exact @λr q _=>⟨q,B⟩
 |succ h k=>
  exact @λr q a=>by
   have d:r<b7:=sa a<|cz<|bu h;refine ul (f r d) λM m S l v=>?_;exact(k<|(ed r h).trans a).imp λc m=>tl B (Kq b0 e S l (ar d<|aa g<|af ..) v) m
end
section
theorem Ks(a:v*rM+rM<=1000000):tN (.o ((0:Nat):Int) ((v*rM+rM:Nat):Int) rM)=D ((eb 0<|v+1).map λc=>H<|c*rM):=by
 have r:=DC (ml (bu v) sf.aR)<|J (cw ..)<|a;rw[CZ<|bu v,ho _ sf.aR,kg,cw]at r;exact r
theorem Kt{a5:List (List Nat)}(b0:sV X E.a x (vE U z v) A)(a:O[j]?=D (sj X<|v*rM))(h:∀l∈U,0<l.a/\(l.b+l.a<=1000000/\l.d<8))(w:uz rM U<=500000)(y:z+1<v)(c:v<rP*rP)(e:v*rM+rM<=1000000)(L:∀k,z<=k->vC U (λ_=>0) k=0) (N:∀l∈U,l.c.length<=l.a/\l.a<=4999/\(1<l.d->vy (vE U z v) l.b l.a)/\tI A l.b l.a=l.c++bi (l.a -l.c.length) 0)(P:∀r,r<a5.length->∃M m,a5[r]?=D M/\a1[r]?=D m/\Bv (vE U z v) A s m M r)(g:a5.length<=1000)(R:vy (vE U z v) (s+4*a5.length) 4)(S:tI A (s+4*a5.length) 4=tn 0): rW (a6+11) false 95 [.b<|j+6,.c<|U.map sF.bG,.c<|a5.map sd,sd<|a1++[s],H rM,H<|(z+1)*rM,H<|v*rM] (rO E O)=rS (.d true) (rO E O):=by
 have a3:=rJ v sf.aR;refine sh (J_ (a6:=a6+9) (d:=rO E O) h w y (aa (ax ..) e) (aa (bl<|ar c<|hp sf.d sf.d)<|sz B) L) λW b4 T=>?_;refine vT (Kd (a6:=a6+2) (a':=.rL<|.c<|U.map sF.bG) (b2:=.rL<|.c<|a5.map sd) (b6:=.rL<|sd<|a1++[s]) (a2:=.rL<|H rM) (b8:=.rL<|H<|(z+1)*rM) (Y:=.rL<|H<|v*rM) (p:=.rT) (n:=.rT) (t:=.rT) (o:=.rT) (u:=.rT) (i:=.rT) (q:=.rT) (b:=.rT) (c:=0) (h:=v+1) b0 a b4<|by refine J (bt ..) ?_;exact c) λp n Y=>?_;refine Em (Kp (a6:=a6+2) (a':=.rL<|.c<|U.map sF.bG) (b2:=.rL<|.c<|a5.map sd) (b6:=.rL<|sd<|a1++[s]) (a2:=.rL<|H rM) (b8:=.rL<|H<|(z+1)*rM) (Y:=.rL<|H<|v*rM) (a4:=.rL<|.p W) (p:=p) (n:=n) (t:=.rT) (o:=.rT) (u:=.rT) (i:=.rT) (q:=.rT) (b:=.rT) b0 a N) λt o u i a0=>?_;obtain⟨q,b⟩:=Kr b0 a P g<|bt _;have b:=lq▸b;have V:∀d,uo d .a [.c<|a5.map sd]=D (H a5.length):=λd=>G (λa2=>D<|H a2)<|a_ _;exact sE (.a _ _<|.f<|.d _<|.t _<|.o _ _ _<|.o _ _ _<|.d _<|.f<|.t _<|.o _ _ _<|.d _<|.d _<|.d _<|.f<|.a _ _<|.h true<|.i _<|.h true .e) λf=>f T (AU sf.aR) (Ks e) Y a0 (V _) (v_<|aa g<|sz B) b (ya B) (V _) (tF B) (DJ b0 a R S<|af ..) (vu B) (sI a E)<|vu B
end
def Bw(U:List sF):Prop:=U.Pairwise λc M=>c.b+c.a<=M.b
section
variable{r k:Nat} {P A:Nat->Nat} {U:List sF} {l:sF}
theorem GC(b:u<8)(a:wC k=true):uG (uD (vz u) k) 19=(uG k 19||decide (1<u)):=by
 have l:=List.all_eq_true.mp (List.all_eq_true.mp Gv u<|List.mem_range.mpr b) k<|List.mem_range.mpr<|Gw a;unfold Dw at l
 rw[a]at l;exact ei (Bool.and_eq_true_iff.mp (Bool.and_eq_true_iff.mp (Bool.and_eq_true_iff.mp l).2).2).1
theorem Ku(a:∀c,wC (P c)=true)(b:u<8):wC (tY P (vz u) c h k)=true:=by
 by_cases f:c<=k/\k<c+h
 ·exact ae (G _<|an f)<|(Dx b<|a k).1
 ·exact ae (G _<|am f)<|a k
theorem Kv:∀{U:List sF} {P:Nat->Nat},(∀c,wC (P c)=true) ->(∀l∈U,l.d<8) ->(uG (P k) 19=true\/∃l∈U,1<l.d/\(l.b/rM<=k/\k<l.b/rM+ug rM l.b (l.b+l.a))) ->uG (vC U P k) 19=true:=by
 intro U;induction U with
 |nil=>
  exact @λP _ _ a=>a.elim id λ⟨l,A,_⟩=>absurd A fe
 |cons x U i=>
  exact @λP S d a=>by
   have b:=d x bn;refine i (λc=>Ku S b) (λl A=>d l<|br _ A) ?_;rcases a with a|⟨l,A,g,h⟩
   ·refine .inl ?_;unfold tY;by_cases f:x.b/rM<=k/\k<x.b/rM+ug rM x.b (x.b+x.a)
    ·refine J (an f) ?_;refine ae (GC b<|S k) ?_;refine J a ?_;rfl
    ·exact(am f)▸a
   ·rcases List.mem_cons.mp A with e|A
    ·subst e;refine .inl ?_;unfold tY;refine J (an h) ?_;refine ae (GC b<|S k) ?_;exact ae (G _<|bd g)<|iu ..
    ·exact .inr<|tv l A g h
theorem Kw(a:k<z):vE U z v k=vC U (λ_=>0) k:=(am λf=>Nat.not_le.mpr (oc a) f.1).trans<|sZ<|et a
theorem GD(d:∀l∈U,l.d<8)(e:l∈U)(S:1<l.d)(a:l.b+l.a<=z*rM)(f:z<=rP*rP):vy (vE U z v) l.b l.a:=⟨aa a<|by refine J xX ?_;exact cr rM f,λc g b=>by
  refine J (Kw<|er<|ar b<|aa a<|ao<|bs ..) ?_;exact av<|Kv (λ_=>B) d<|.inr<|tv l e S<|CX g b⟩
theorem DK(f:∀k,z<=k->vC U (λ_=>0) k=0)(g:v<=rP*rP)(i:(z+1)*rM<=b)(d:b+h<=v*rM):vy (vE U z v) b h:=⟨aa d<|by refine J xX ?_;exact cr rM g,λc j m=>by
  have a:=(rH sf.aR).mpr<|aa i j;have e:=er<|ar m<|aa d<|ao<|bs ..;refine(show vE U z v (c/rM)=uD 22 (th (vC U λ_=>0) z 7<|c/rM)from an ⟨a,ar e<|ao (ds<|bl<|bb a e).symm⟩)▸(sZ<|c_ a)▸(az<|f _<|f_ a)▸?_
  rfl⟩
theorem Kx:∀{U:List sF} {A:Nat->Nat},(∀l∈U,k<l.b) ->xz U A k=A k:=by
 intro U;induction U with
 |nil=>
  exact @λ_ _=>B
 |cons l U b=>
  exact @λA a=>(b λx c=>a x<|br _ c).trans<|yw<|.inl<|a l bn
theorem GE(h:r<l.a):∀{U:List sF} {A:Nat->Nat},Bw U->(∀l∈U,l.c.length<=l.a) ->l∈U->(∀k,l.b<=k->A k=0) ->xz U A (l.b+r)=l.c.getD r 0
 |c::U,A,y,a,b,i=>by
  have d:=List.pairwise_cons.mp y;rcases List.mem_cons.mp b with e|b
  ·subst e;refine(Kx λx g=>ar (ci h _)<|d.1 x g).trans ?_;rcases cm r l.c.length with f|f
   ·exact Fm f
   ·exact J (fq)<|J (ir f)<|(yw<|.inr<|bc f _).trans<|i _<|ax ..
  ·exact GE (U:=U) h d.2 (λx g=>a x<|br _ g) b λk j=>(yw<|.inr<|aa (bc (a c bn) _)<|aa (d.1 l b) j).trans<|i k j
theorem Ky:(M++bi h 0).getD r 0=M.getD r 0:=by
 refine ae (fq) ?_;refine J (fq) ?_;rcases cm r M.length with a|a
 ·exact sa (fu a) B
 ·refine J (gg a)<|J (ir a)<|J (List.getElem?_replicate) ?_;by_cases f:r -M.length<h
  ·refine(an f)▸?_;rfl
  ·exact(am f)▸B
end
structure wD(g n:Nat)(a5:List (List Nat)):Prop where
 b:∀c∈a5,∀N∈c,1<=N/\N<256
 d:∀c∈a5,c.length<99/\c.length<g
 a:a5.length<=16
 e:g<=u_ n (tx a5) ->4*(a5.length+1)<=u_ n (tx a5)
structure Bx(U:List sF)(z:Nat):Prop where
 c:∀l∈U,l.dX/\(l.d<8/\(l.a<=4999/\l.b+l.a<=z*rM))
 f:Bw U
 e:∀k,z<=k->vC U (λ_=>0) k=0
section
variable{b s:Nat} {g:Nat}
theorem DL:wA U n a5=ww (xz U λ_=>0) n (xe n a5):=(Kh (U:=[vf<|s_ n<|tx a5])).symm
theorem GF:(tx a5).length=a5.length:=a_ _
theorem Ax:(s_ n<|tx a5).length=a5.length:=C3.trans GF
theorem GG:(xe n a5)[a5.length]?=D (vf<|s_ n<|tx a5):=(G (λt=>(xe n a5)[t]?) GF.symm).trans gl
theorem GH:(s_ n<|xe n a5)[a5.length]?=D (tq n a5):=sa DF<|(G (λt=>(uW n a5)[t]?) (Ax).symm).trans gl
theorem Kz{c:List Nat}:∀{b:List (List Nat)} {s:Nat},xd s b->c.length<=u_ s b->xd s (b++[c]):=by
 intro b;induction b with
 |nil=>
  exact @λ_ _ a=>⟨C0 a,trivial⟩
 |cons _ b d=>
  exact @λ_ a a3=>⟨a.1,d a.2 a3⟩
theorem KA:∀{b:List (List Nat)} {s:Nat},(∀m∈s_ s b,g<=m) ->g<=s->g<=u_ s b:=by
 intro b;induction b with
 |nil=>
  exact @λ_ _ a=>a
 |cons c b d=>
  exact @λ_ a _=>d (λm A=>a m<|br _ A)<|a _ bn
theorem GI(a:wD g n a5)(a7:g<=n)(e:∀m∈uW n a5,g<=m):xd n (xe n a5):=have d:=λm A=>e m (n_ _ A);Kz (Ke (λc h=>(List.mem_map.mp h).elim λM f=>sa f.2<|aa (ao bm) (a.d M f.1).2) a7 d) (aa (ao<|Ah.trans<|G (λt=>4*(t+1)) Ax)<|a.e<|KA d a7)
theorem GJ(a:(s_ n (tx a5)++[0])[r]?=D k)(d:xd n (xe n a5)):tI (wA U n a5) (tq n a5+4*r) 4=tn k:=DG (w:=tn k) λL c=>by
  have e:4*r+L<(vf<|s_ n<|tx a5).length:=by
   refine J Ah ?_;have:=(List.getElem?_eq_some_iff.mp a).1;rw[bm]at this;exact ar (ci c<|4*r)<|bx 4 this
  exact J DL<|J (bf ..)<|J (DD d GG GH e)<|Gy a c
theorem GK(a:xd n (xe n a5)):tq n a5+4*(a5.length+1)<=n:=by
 have:=DE a GG GH
 rwa [Ah,Ax]at this
theorem GL(a:wD ((z+1)*rM) (v*rM) a5)(b3:Bx U z)(n:v<=rP*rP)(w:z+1<v)(j:∀m∈uW (v*rM) a5,(z+1)*rM<=m)(x:v*rM<=1000000)(e:r<a5.length):∃M m,a5[r]?=D M/\(s_ (v*rM)<|tx a5)[r]?=D m/\Bv (vE U z v) (wA U (v*rM) a5) (tq (v*rM) a5) m M r:=by
 have h:=GI a (cr rM<|bl w) j;have i:=d_ e;have k:(s_ (v*rM)<|tx a5).length=a5.length:=Ax;have f:(s_ (v*rM)<|tx a5)[r]?=D ((s_ (v*rM)<|tx a5)[r]'(J k e)):=d_ _;generalize a5[r]=M at i
 generalize (s_ (v*rM)<|tx a5)[r]'_=m at f
 have o:=gy i;have p:(tx a5)[r]?=D (M++[0]):=by refine ae (ew) ?_;refine ae (G _ i) ?_;rfl
 have S:(xe (v*rM) a5)[r]?=D (M++[0]):=(fu (List.getElem?_eq_some_iff.mp p).1).trans p;have q:(s_ (v*rM)<|xe (v*rM) a5)[r]?=D m:=DF▸((fu<|k▸e).trans f);have t:(M++[0]).length=M.length+1:=bm;have y:=j m<|n_ _<|gy f;have l:=DE h S q;rw[t]at l;have c:∀L,L<M.length+1->wA U (v*rM) a5 (m+L)=(M++[0]).getD L 0:=λL d=>ae (hl DL _)<|DD h S q<|J t d;have u:∀L,(d:L<M.length) ->wA U (v*rM) a5 (m+L)=M[L]:=λL d=>(c L<|oc d).trans<|by refine ae (fq) ?_;refine J (fu d)<|J (d_ d) ?_;rfl
 refine⟨M,m,i,f,DK b3.e n y l,DG λL d=>(u L d).trans<|by refine J (fq)<|J (d_ d) ?_;rfl,(c _<|fz _).trans<|by refine ae (fq) ?_;refine J (gl) ?_;rfl,λL d=>?_,(a.d M o).1,?_,GJ ((fu<|k▸e).trans f) h,?_⟩
 ·exact J (u L d)<|c_ (a.b M o _<|kh d).1
 ·exact DK b3.e n (aa (j _<|nz _ bn)<|ax ..)<|aa (ao<|bf ..)<|aa (bc (bx 4<|bw<|bl e) _)<|GK h
 ·exact bb (aa (ax ..)<|aa l x)<|af ..
end
section
theorem GM(b3:Bx U z)(f:∀m∈uW n a5,(z+1)*rM<=m)(b:l∈U):tI (wA U n a5) l.b l.a=l.c++bi (l.a -l.c.length) 0:=by
 have c:=b3.c l b;have d:(l.c++.replicate (l.a -l.c.length) 0).length=l.a:=by refine ae bm ?_;exact ae (G _ pc)<|ds c.1.b
 have e:=DG (A:=wA U n a5) λr a=>by
  rw[d]at a;refine ae (hl DL _) ?_;refine ae (Kg (λm g=>f m<|J DF g)<|ar (ci a _)<|aa c.2.2.2<|cr rM<|ea z) ?_;exact ae (GE a b3.f (λx h=>(b3.c x h).1.b) b λ_ _=>B)<|J Ky B
 rwa [d]at e
theorem KB{W:Nat}(k:sB W p y R b0 (vE U z v) (wA U (v*rM) a5))(n:O[j]?=D (sj W<|v*rM))(a:wD ((z+1)*rM) (v*rM) a5)(b3:Bx U z)(b:z+1<v)(e:v<rP*rP)(f:v*rM+rM<=1000000)(o:uz rM U<=500000)(c:∀m∈uW (v*rM) a5,(z+1)*rM<=m): rW (a6+11) false 95 [.b<|j+6,.c<|U.map sF.bG,.c<|a5.map sd,sd<|uW (v*rM) a5,H rM,H<|(z+1)*rM,H<|v*rM] (rO p O)=rS (.d true) (rO p O):=by
 have g:=GI a (cr rM<|bl b) c;have h:=aa (ax ..) f;have d:=bl e;have i:=bl<|qF b;exact Kt k.C n (λl A=>tG ((b3.c l A).1.d) (aa (b3.c l A).2.2.2<|aa (cr rM i) h)<|(b3.c l A).2.1) o b e f b3.e (λl A=>vS ((b3.c l A).1.b) ((b3.c l A).2.2.1) (λS=>GD (λx A=>(b3.c x A).2.1) A S (b3.c l A).2.2.2<|aa i d)<|GM b3 c A) (λr q=>GL a b3 d b c h q) (aa a.a<|af ..) (DK b3.e d (aa (c _<|nz _ bn)<|ax ..)<|aa (ao<|bf ..)<|GK g) <|GJ ((G (λs=>(s_ (v*rM) (tx a5)++[0])[s]?) (Ax).symm).trans gl) g
end
def KC:sp:=(r_.c (sp.x 6 (Q.d<|H 0)<|Q.d<|H 32)<|r_.c (sp.w 6 [2,10,11]<|Q.q<|rX.c (Q.aD (Q.a 2) 74)<|rX.c (Q.aD (Q.a 2) 75)<|rX.c (Q.aD (Q.a 2) 43) rX.n)<|r_.c (sp.t 6)<|r_.c (sp.b (Q.bL<|rX.c (Q.aG tM.a (Q.aD (Q.a 5) 100)<|Q.a 6)<|rX.c (Q.aG tM.a (Q.aD (Q.a 5) 101)<|Q.aD (Q.a 2) 7)<|rX.c (Q.aG tM.a (Q.aD (Q.a 5) 104)<|Q.d<|rN.f [110,97,109,101])<|rX.c (Q.aG tM.i (Q.aD (Q.a 5) 73)<|Q.aD (Q.a 2) 73) rX.n) (r_.c sp.f r_.n) r_.n)<|r_.c (sp.e<|Q.f 10 (Q.aD (Q.a 5) 73) rX.n)<|r_.c (sp.d<|Q.aG tM.c (Q.f 11 (Q.a 0) rX.n)<|Q.a 3) r_.n)
noncomputable def wE:rN:=.f [110,97,109,101]
def Ay(E:sc)(y:Nat->Prop)(i:Nat)(m:Mine.rQ rN):Prop:=∀a:Prop,(∀(p:sc) (b:rR),sA p (te y) i->sJ p.a->sG rP y E p->m=rS (.d true) (rO p b) ->a) ->a
theorem Ay.mk(a:sA p (te y) i)(S:sJ p.a)(b:sG rP y E p)(c:m=rS (.d true) (rO p d)):Ay E y i m:=λ_ i=>i p d a S b c
section
variable{P:rR}
theorem sV.aS{b:Nat->Prop}(b0:sV X R x i A)(a9:sJ d)(h:∀q c,x q=D c->b c)(a:∀c,b (c/rP) ->tL d c=tL R c):sV X d x i A:=⟨a9,b0.F,b0.inj,b0.Qu,b0.I,λr g=>(a _<|by refine J (wa g) ?_;exact h _ _ b0.I).trans<|b0.Z r g,λr n g e L f=>(a _<|by refine J (wa f) ?_;exact h _ _ e).trans<|b0.Qs r n g e L f,b0.Qt,b0.V,b0.Y,λk s e L f=>(G (ud ·<|(s*rM+L) %4)<|a _<|by refine J Ch<|J (wa f) ?_;exact h _ _ e).trans<|b0.Qv k s e L f⟩
theorem DM(a:O[s]?=D (.sW h a5))(c:(sK.a h b&&vF a5)=true):vg (rO E<|O++V) (.b<|s+6) b M=D (rO E<|O.set s (.sW h<|ut b M a5)++V):=by
 have:=yB (E:=E) (M:=M) (V:=V) a c
 rwa [Br a]at this
theorem KD(a:(rO E P)[m]?=D (.sr w))(b:vU (vL 8) w w=D true):tm (rO E P) .a (.b m) (.c w)=D false:=by
 have e:yj (rO E P) (.b m)=.c w:=G (λj:Option sC=>((j.bind λj=>j.tb (w:=λU=>D<|rN.c U)).getD<|.b m)) a;refine(?_:(vL 9 (yj (rO E P)<|.b m)<|.c w).map (!·)=_);exact J e<|G (cx (!·)) b
theorem KE(a:(rO E P)[m]?=D (.sW h a5)):tm (rO E P) .i (.b m) (.b m)=D false:=(G (λj:Option sC=>j.bind λj=>j.tb (h:=λ_ _=>D<|!decide (m=m))) a).trans<|G (λg=>D<|!g)<|bd B
theorem KF:vU (vL 8) (uv n h b) (uv n h b)=D true:=by
 have e:uv n h b=[0,0,n,0,0,0,0,0,0,0,h,b,0,0,0,0,0,0,0,0,0,0,0,0,0,0,0,0,0,0,0,0].map H:=B;exact J e Gz
theorem GN{b5:Nat}{W:Nat}(k:sB W E y R x v A)(c:(uF E P s (.b<|j+6) (.b<|P.length+6) (H e) wE<|uv n h b)[j+6]?=D (sj W b5))(a:P[s]?=D w)(l:sA g (te y) i)(m:sG rP y g E)(a2:rN): ∃p a3 o,sA p (te y) i/\sJ p.a/\sG rP y g p/\rY (a6+7) none KC [.rL<|.b 3,.rL<|ta,.rL<|vD (j+6) e n h b,.rL<|H i,.rL a2,.rL<|.b<|s+6,.rT] (uF E P s (.b<|j+6) (.b<|P.length+6) (H e) wE<|uv n h b)=vt (.d true) a3 (rO p o):=by
 refine Aa (a6:=a6+1) (g:=false) (O:=P.set s (tr (.b<|j+6) (.b<|P.length+6) (H e) wE)++[.sr<|uv n h b]) k c _ λq d a1 a9 r t=>?_;have a':=l.eJ a1;subst a';refine xk q [.rL<|.b 3,.rL<|ta,.rL<|vD (j+6) e n h b,.rL<|H d,.rL a2,.rL<|.b<|s+6,.rL<|.c<|uv n h b] ((P.set s (tr (.b<|j+6) (.b<|P.length+6) (H e) wE)++[sC.sr<|uv n h b]).set j<|sj W 0) a1 a9 (m.aM r)<|?_;have u:(uF E P s (.b<|j+6) (.b<|P.length+6) (H e) wE<|uv n h b)[P.length+6]?=D (.sr<|uv n h b):=by
  have:=gl (l:=P.set s<|tr (.b<|j+6) (.b<|P.length+6) (H e) wE) (a:=.sr<|uv n h b)
  rwa [eu]at this
 exact tg (.o .sS [.rL<|.b 3,.rL<|ta,.rL<|vD (j+6) e n h b,.rL<|H d,.rL a2,.rL<|.b<|s+6,.sl<|.sr<|.replicate 32<|H 0] (uF E P s (.b<|j+6) (.b<|P.length+6) (H e) wE<|uv n h b)<|.o .sS [.rL<|.b 3,.rL<|ta,.rL<|vD (j+6) e n h b,.rL<|H d,.rL a2,.rL<|.b<|s+6,.sl<|.sr<|uv n h b] (uF E P s (.b<|j+6) (.b<|P.length+6) (H e) wE<|uv n h b)<|.i _<|.h false<|.i _<|.h false<|.i _<|.h false<|.i _<|.h false<|.i _<|.i _<|.a _ _<|.a _ _<|.h true .e) λf=>f B B (wB a) (KD u KF) (wB a) (wU B) (wB a) B (wB a) (KE c) (wB a) c t (xq a1)<|vu B
end
section
variable{b5 W:Nat} {O P:rR}
theorem xA(a:s≠j)(b:O[j]?=D c):(O.set s d)[j]?=D c:=(jg a).trans b
theorem Az(a:O[j]?=D b):j<O.length:=(List.getElem?_eq_some_iff.mp a).1
theorem DN(a:P[j]?=D b)(d:s≠j):(uF E P s l q M c w)[j+6]?=D b:=wg<|xA d a
theorem KG(g:sB W E y R x w A)(a:O[j]?=D (sj W b5))(k:sA c (te y) i)(l:sG rP y c E):Ay c y i (rW (a6+8) false 96 [.b 3,ta,vD (j+6) e n h b,H i,.d true]<|rO E O):=by
 have o:=Gs (a6:=a6+4) (E:=E) (O:=O);have S:((O++[tr .e (.b<|O.length+7) (H 0)<|.f []])++[.sr<|bi 32<|H 0])[O.length]?=D (tr .e (.b<|O.length+7) (H 0)<|.f []):=Bs (E:=E);have q:((O++[tr .e (.b<|O.length+7) (H 0)<|.f []])++[.sr<|bi 32<|H 0])[j]?=D (sj W b5):=wg<|wg a;generalize (O++[tr .e (.b<|O.length+7) (H 0)<|.f []])++[.sr<|bi 32<|H 0]=P at*
 have d:O.length≠j:=c_<|Az a;have f:(P.set O.length (tr .e (.b<|P.length+6) (H 0)<|.f [])++[sC.sr<|bi 32<|H 9])[O.length]?=D (tr .e (.b<|P.length+6) (H 0)<|.f []):=wg<|xY S;have r:(P.set O.length (tr .e (.b<|P.length+6) (H 0)<|.f [])++[sC.sr<|bi 32<|H 9])[j]?=D (sj W b5):=wg<|xA d q;have s:vg (rO E<|P++[sC.sr<|bi 32<|H 9]) (.b<|O.length+6) 100 (.b<|P.length+6)=D (rO E<|P.set O.length (tr .e (.b<|P.length+6) (H 0)<|.f [])++[sC.sr<|bi 32<|H 9]):=DM S B;generalize z:P.set O.length (tr .e (.b<|P.length+6) (H 0)<|.f [])++[sC.sr<|bi 32<|H 9]=a4 at*
 refine wq (GN (a6:=a6) (e:=e) (n:=n) (h:=h) (b:=b) g (DN r d) f k l<|.d true) λp a3 L t u v m=>?_;exact .mk t u v<|t_ B B B<|sO (yJ (rZ B B) o)<|tK (xF (M:=true) B B)<|za (Bu B) B s<|tt (vh (rZ B<|rZ B<|rZ B B)<|JY (E:=E) (a6:=a6+6) (N:=j+6) (e:=e) (n:=n) (m:=h) (b:=b) (d:=wE) f) m
theorem sG.aP(d:sG t b E p)(a:∀c,y c->b c):sG t y E p:=⟨d.f,λc m=>d.h c<|a _ m⟩
theorem KH(a:r<P.length)(b:s≠r):(P.set s (tr l q M c)++[sC.sr w]).set r d=(P.set r d).set s (tr l q M c)++[sC.sr w]:=by
 rw[rI _ _<|by refine J eu ?_;exact a,List.set_comm _ _ b]
theorem GO(l:sB W E y R x d0 A)(w:O[j]?=D (sj W b5))(a0:sA z (te y) i)(a2:sG rP y z E)(a5:3<=R):Ay z y i (rW (a6+12) false 96 [.b 3,ta,vD (j+6) e n h b,H i,.d false]<|rO E O):=by
 have a8:=Gs (a6:=a6+8) (E:=E) (O:=O);have S:((O++[tr .e (.b<|O.length+7) (H 0)<|.f []])++[.sr<|bi 32<|H 0])[O.length]?=D (tr .e (.b<|O.length+7) (H 0)<|.f []):=Bs (E:=E);have L:((O++[tr .e (.b<|O.length+7) (H 0)<|.f []])++[.sr<|bi 32<|H 0])[j]?=D (sj W b5):=wg<|wg w;generalize (O++[tr .e (.b<|O.length+7) (H 0)<|.f []])++[.sr<|bi 32<|H 0]=P at*
 have u:O.length≠j:=c_<|Az w;have a':=Az L;obtain⟨b1,rfl⟩:=Nat.exists_eq_add_of_le' a5;refine Gk (a6:=a6+5) (O:=P) l.F l.C.C _ λd s b2 b3 b4=>?_;have b6:vg (rO s<|P++[sj d 0]) (.b<|O.length+6) 73 (.b<|P.length+6)=D (rO s<|P.set O.length (tr (.b<|P.length+6) (.b<|O.length+7) (H 0)<|.f [])++[sj d 0]):=DM S B;have M:(P.set O.length (tr (.b<|P.length+6) (.b<|O.length+7) (H 0)<|.f [])++[sj d 0])[O.length]?=D (tr (.b<|P.length+6) (.b<|O.length+7) (H 0)<|.f []):=wg<|xY S;have b7:(P.set O.length (tr (.b<|P.length+6) (.b<|O.length+7) (H 0)<|.f [])++[sj d 0])[j]?=D (sj W b5):=wg<|xA u L;have v:(P.set O.length (tr (.b<|P.length+6) (.b<|O.length+7) (H 0)<|.f [])++[sj d 0])[P.length]?=D (sj d 0):=by
  have:=gl (l:=P.set O.length<|tr (.b<|P.length+6) (.b<|O.length+7) (H 0)<|.f []) (a:=sj d 0)
  rwa [eu]at this
 generalize d1:P.set O.length (tr (.b<|P.length+6) (.b<|O.length+7) (H 0)<|.f [])++[sj d 0]=a4 at*
 refine J0 (a6:=a6+2) b2 v B (af 2 b1) _ λt d2 b0 d3 a7 b8 b9 b'=>?_;have o:O.length≠P.length:=et<|Az S;have N:P.length≠j:=c_ a';have T:(a4.set P.length<|sj d<|max 0 1)[O.length]?=D (tr (.b<|P.length+6) (.b<|O.length+7) (H 0)<|.f []):=xA o.symm M;have c0:(a4.set P.length<|sj d<|max 0 1)[j]?=D (sj W b5):=xA N b7;have c1:(a4.set P.length<|sj d<|max 0 1)[P.length]?=D (sj d<|max 0 1):=xY v;generalize d4:a4.set P.length (sj d<|max 0 1)=k at*
 have c2:vg (rO t<|k++[sC.sr<|bi 32<|H 9]) (.b<|O.length+6) 100 (.b<|k.length+6)=D (rO t<|k.set O.length (tr (.b<|P.length+6) (.b<|k.length+6) (H 0)<|.f [])++[sC.sr<|bi 32<|H 9]):=DM T B;have U:(k.set O.length (tr (.b<|P.length+6) (.b<|k.length+6) (H 0)<|.f [])++[sC.sr<|bi 32<|H 9])[O.length]?=D (tr (.b<|P.length+6) (.b<|k.length+6) (H 0)<|.f []):=wg<|xY T;have c3:(k.set O.length (tr (.b<|P.length+6) (.b<|k.length+6) (H 0)<|.f [])++[sC.sr<|bi 32<|H 9])[j]?=D (sj W b5):=wg<|xA u c0;have V:(k.set O.length (tr (.b<|P.length+6) (.b<|k.length+6) (H 0)<|.f [])++[sC.sr<|bi 32<|H 9])[P.length]?=D (sj d<|max 0 1):=wg<|xA o c1;generalize d5:k.set O.length (tr (.b<|P.length+6) (.b<|k.length+6) (H 0)<|.f [])++[sC.sr<|bi 32<|H 9]=r at*
 have X:=DN (E:=t) (l:=.b<|j+6) (q:=.b<|r.length+6) (M:=H e) (c:=wE) (w:=uv n h b) V o;refine Aa (a6:=a6+4) (g:=false) (O:=r.set O.length (tr (.b<|j+6) (.b<|r.length+6) (H e) wE)++[.sr<|uv n h b]) b8 X _ λc4 d6 a1 a9 c5 c6=>?_;have g:=JZ (E:=t) (a6:=a6+10) (r:=P.length) (N:=j+6) (e:=e) (n:=n) (m:=h) (b:=b) (d:=wE) U X c6;have Y:sG rP (λW=>y W\/∃q,x q=D W) E c4:=b3.aM<|b9.aM c5;rw[KH (Az V) o]at g;have c7:(r.set P.length<|sj d 0)[j]?=D (sj W b5):=xA N c3;refine wq (GN (a6:=a6+4) (P:=r.set P.length<|sj d 0) (e:=e) (n:=n) (h:=h) (b:=b) (⟨l.C.aS (b:=λW=>y W\/∃q,x q=D W) a9 (λq c e=>.inr ⟨q,e⟩) Y.h,(J (l.F.eJ a1) a1),l.I⟩) (DN c7 u) (xA o.symm U) a0 (a2.aM<|Y.aP λc a=>.inl a)<|.d false) λp a3 d7 c8 c9 c' m=>?_;rw[eu]at m;exact .mk c8 c9 c'<|t_ B B B<|sO (yJ (rZ B B) a8)<|vW (M:=true) (xF (M:=false) B B) (tg (.a _ _<|.j _<|.i _<|.i _<|.a _ _ .e) λf=>f b4 b6 (sI M s) (sI v s) b')<|za (Bu B) B c2<|tt (vh (rZ B<|rZ B<|rZ B B) g) m
end
noncomputable def yC(h:Nat):rN:=bif cn h 5 then .f [99,97,108,108]else bif cn h 2 then .f [112,114,111,103,114,97,109]else .f [114,111,111,109]
section
variable{b:Nat} {d:rR} {w:List Nat} {a5:List (List Nat)}
theorem GP:∀{w:List Nat},vq (w.map H)=D (w.map λg:Nat=>(g:Int)):=@λw=>uP (B) (λc w a=>G (cx ((c:Int)::·))<|a) w
theorem KI:∀{w:List Nat},sw w->Bb (w.map λg:Nat=>(g:Int))=true:=@λw=>uP (@λ_=>B) (λc w e=>@λa=>Bool.and_eq_true_iff.mpr ⟨Bool.and_eq_true_iff.mpr ⟨bd<|dx c,bd<|Int.ofNat_lt.mpr<|a c bn⟩,e λM A=>a M<|br _ A⟩) w
theorem xf(a:sw w):uo d .b [sd w]=D (sk w):=(G (λj=>kt j λw=>si (Bb w)<|D<|rN.m w) GP).trans<|G (λg=>si g<|D<|sk w)<|KI a
theorem By{a0:Type}{u:rN->rR->rQ rN}{b h:a0->rN}:∀{w:List a0},(∀c∈w,u (b c) d=rS (h c) d) ->tO u (w.map b) d=uf (w.map h) d:=@λw=>uP (@λ_=>B) (λc w e=>@λa=>uZ (a c bn)<|e λM A=>a M<|br _ A) w
theorem GQ(a:um o r=D (.c<|a5.map sd))(c:∀k,∃a3,up [L] false k (xn [] o)=D a3/\um a3 L=D k)(a7:∀n∈a5,sw n)(e:a5.length<=1000000):rU t false (.o [L] false [] (.a r)<|.k .b<|.c (.a L) .n) o d=rS (.c<|a5.map sk) d:=vR (G (se · d) a) B (by rw[a_];exact e)<|By λn A=>(c<|sd n).elim λa3 f=>(x_ f.1).trans<|tA (rZ (G (se · d) f.2) B) B<|xf<|a7 n A
theorem Bz(c:h=5\/h=2\/h=4)(a:sw b3)(a7:∀n∈a5,sw n)(e:a5.length<=1000000)(m:rW (t+1) false 83 [.b 3,ta,sk b3,.c<|a5.map sk,H j] d=tf h a9):rW (t+2) false 97 [.b 3,ta,sd b3,.c<|a5.map sd,H j] d=rS (yC h) a9:=by
 have n:rU (t+1) false (.o [5] false [] (.a 3)<|.k .b<|.c (.a 5) .n) [.rL<|.b 3,.rL<|ta,.rL<|sd b3,.rL<|.c<|a5.map sd,.rL<|H j,.rT] d=rS (.c<|a5.map sk) d:=GQ B (λk=>sn _ B B) a7 e;rcases c with rfl|rfl|rfl
 ·exact sE (.d _<|.p _ _<|.s _ _ .e) λf=>f (xf a) n m
 ·exact sE (.d _<|.p _ _<|.s _ _ .e) λf=>f (xf a) n m
 ·exact sE (.d _<|.p _ _<|.s _ _ .e) λf=>f (xf a) n m
theorem GR:yH (.c U) (H s) .e=D (.c<|U.drop s):=G (λw=>D<|rN.c<|.drop s w)<|ob
theorem KJ:∀b,b<256->(b|||4)=(b^^^4)+(b&&&4):=by decide+kernel
end
structure xg(b3:List Nat)(e:Nat)(U:List sF):Prop where
 a:sw b3
 b:b3.length<=1000
 c:42<b3.length
 f:∀t d,rW (t+6) false 75 [sk b3] d=rS (xb e<|U.map sF.eE) d
 g:∀t d n,n<b3.length->rW (t+6) false 75 [sk<|b3.take n] d=tf 2 d
 h:∀t d s,s∈yz->rW (t+6) false 75 [sk<|Ap b3 s] d=tf 2 d
structure xB(U:List sF)(z v j:Nat):Prop where
 b:Bx U z
 d:wY (wz U 0)=z*rM
 e:wY ((z+1)*rM+j)=v*rM
 c:z+1<v
 f:∃l a,U=l::a
def DO(E:sc)(O:rR)(y:Nat->Prop)(i:Nat)(U:List sF)(z v e:Nat)(a5:List (List Nat))(m:Mine.rQ rN):Prop:=∀a:Prop,(∀(W R:Nat) (p:sc) (b0:Nat->Option Nat) (c:sC),sB W p y R b0 (vE U z v) (wA U (v*rM) a5) ->sG rP y E p->i<=R+(2*uz rM U+2*(v -z)+1) ->m=rS (vD (O.length+6) e (tq (v*rM) a5) a5.length<|tq (v*rM) a5) (rO p<|(O++[sj W<|v*rM])++[c]) ->a) ->a
theorem DO.mk{W:Nat}(a:sB W p y R b0 (vE U z v) (wA U (v*rM) a5))(S:sG rP y E p)(b:i<=R+(2*uz rM U+2*(v -z)+1))(d:m=rS (vD (O.length+6) e (tq (v*rM) a5) a5.length<|tq (v*rM) a5) (rO p<|(O++[sj W<|v*rM])++[c])):DO E O y i U z v e a5 m:=λ_ i=>i W R p b0 c a S b d
def AA(E:sc)(O:rR)(y:Nat->Prop)(i:Nat)(u:rR->Mine.rQ rN)(m:Mine.rQ rN):Prop:=∀a:Prop,(∀(p:sc) (b:rR),sA p (te y) i->sJ p.a->sG rP y E p->m=u (rO p<|O++b) ->a) ->a
theorem AA.mk(a:sA p (te y) i)(S:sJ p.a)(b:sG rP y E p)(c:m=u (rO p<|O++d)):AA E O y i u m:=λ_ i=>i p d a S b c
section
theorem GS(a1:sA E (te y) i)(b:sJ E.a)(a:xB U z v j)(b0:wD ((z+1)*rM) (v*rM) a5)(f:xg b3 e U):yA E O y i U z v e a5 (rW (a6+12) false 83 [.b 3,ta,sk b3,.c<|a5.map sk,H j]<|rO E O):=by
 refine vT a.f λl h g=>?_;subst g;exact JU a1 b (λx A=>(a.b.c x A).1) a.d a.e a.c a.b.e (λc A=>tG (λN a8=>(b0.b c A N a8).2) ((b0.d c A).2)<|ce (b0.d c A).1<|af ..) b0.a (λn A N a8=>(b0.b n A N a8).1) b0.e λd=>f.f (a6+5) d
theorem DP(a1:sA E (te y) i)(g:sJ E.a)(b:xB U z v j)(b0:wD ((z+1)*rM) (v*rM) a5)(c:xg b3 e U)(d:v<=rP*rP)(h:2*uz rM U+2*(v -z)+1<=i)(f:∀m∈uW (v*rM) a5,(z+1)*rM<=m):DO E O y i U z v e a5 (rW (a6+12) false 83 [.b 3,ta,sk b3,.c<|a5.map sk,H j]<|rO E O):=by
 refine GS (a6:=a6) (O:=O) a1 g b b0 c _ (λk l o p n c S _ _ _ m=>?_) λk l _ _ _ a _=>?_
 ·exact .mk n c S m
 ·refine absurd a λa=>?_;rcases a with(a|⟨x,A,a⟩)|a|⟨m,A,a⟩|a
  ·exact Nat.not_lt.mpr h a
  ·exact Nat.not_lt.mpr (aa (b.b.c x A).2.2.2<|by refine J xX ?_;exact cr rM<|aa (bl<|qF b.c) d) a
  ·exact Nat.not_lt.mpr d a
  ·exact Nat.not_lt.mpr (f m<|n_ _ A) a
  ·exact Nat.not_lt.mpr (f _<|nz _ bn) a
theorem KL(a1:sA E (te y) i)(d:sJ E.a)(c:xB U z v j)(b0:wD ((z+1)*rM) (v*rM) a5)(b:xg b3 e U)(f:(∃m∈uW (v*rM) a5,m<(z+1)*rM)\/(i<=3\/rP*rP<v)):AA E O y i (tf 4) (rW (a6+12) false 83 [.b 3,ta,sk b3,.c<|a5.map sk,H j]<|rO E O):=by
 refine GS (a6:=a6) (O:=O) a1 d c b0 b _ (λg h r s k b S l n o m=>?_) λg h p a9 b _ m=>?_
 ·refine absurd f λa=>?_;rcases a with⟨m,A,a⟩|a|a
  ·exact(List.mem_append.mp A).elim (λA=>Nat.not_lt.mpr (n m A) a) λA=>Nat.not_lt.mpr (List.mem_singleton.mp A▸o) a
  ·exact Nat.not_lt.mpr a<|ar (Nat.lt_of_succ_le<|af 4 _) l
  ·obtain⟨q,rfl⟩:=od<|c_<|bb (cc _) a;exact Nat.not_lt.mpr (ck a)<|k.C.hT<|Dt (ck c.c)<|fz q
 ·exact .mk p a9 b m
theorem DQ(a1:sA E (te y) i)(b:sJ E.a)(c:xB U z v j)(b0:wD ((z+1)*rM) (v*rM) a5)(a:xg b3 e U)(d:(∃m∈uW (v*rM) a5,m<(z+1)*rM)\/(i<=3\/rP*rP<v)):AA E O y i (rS<|yC 4) (rW (a6+13) false 97 [.b 3,ta,sd b3,.c<|a5.map sd,H j]<|rO E O):=KL a1 b c b0 a d _ λh k f a9 g m=>(.mk f a9 g<|Bz (.inr<|.inr B) a.a (λn A N a8=>(b0.b n A N a8).2) (aa b0.a<|af ..) m)
theorem DR(b0:wD b h a5)(a:sw b3)(m:rW (a6+11) false 75 [sk b3] d=tf 2 d):rW (a6+13) false 97 [.b 3,ta,sd b3,.c<|a5.map sd,H j] d=rS (yC 2) d:=Bz (.inr<|.inl B) a (λn A N a8=>(b0.b n A N a8).2) (aa b0.a<|af ..)<|sE (.a _ _<|.s _ _ .e) λf=>f (Gf b0.a λn A N a8=>(b0.b n A N a8).1) m
theorem KM(a:sw b3):rW (a6+13) false 97 [.b 3,ta,sd b3,.c<|[[97,0]].map sd,H j] d=rS (yC 5) d:=Bz (.inl B) a (λn A=>J (List.mem_singleton.mp A)<|by decide) (af ..)<|sE (.s _ _ .e) λf=>f<|sE (.f<|.f<|.o _ _ _ .e) λf=>f<|xP B<|tg (.f<|.f .e) λf=>f
end
noncomputable def sc.bD(E:sc)(g:List Int):sc:=⟨g,E.a,E.d,E.e,E.c⟩
def DS(E:sc)(O:rR)(b3:Nat->Prop)(i:Nat)(m:rQ (List rN)):Prop:=∀a:Prop,(∀(w:List Nat) (p:sc),w.Nodup->(∀b∈w,yX b/\¬b3 b) ->sA p (λc=>c∈w\/b3 c) i->p.a=E.a->m=uf (w.map H) (rO p O) ->a) ->a
theorem DS.mk{w:List Nat}(a:w.Nodup)(S:(∀b∈w,yX b/\¬b3 b))(d:sA p (λc=>c∈w\/b3 c) i)(e:p.a=E.a)(f:m=uf (w.map H) (rO p O)):DS E O b3 i m:=λ_ i=>i w p a S d e f
section
variable{t i:Nat} {E:sc} {O:rR} {b3:Nat->Prop} {u:rN->rR->rQ rN} {a2:sm->sg} {e:sm}
theorem sA.bD(a1:sA E b3 i)(g:List Int):sA (E.bD g) b3 i:=⟨a1.A,a1.x,a1.C,a1.z,a1.y⟩
theorem zm(b5:sU L E.b)(a:L<100000000)(b:0<A):∃N g,N<A/\sU (L+1) g/\rW (t+1) false 87 [.b 0,H A] (rO E O)=rS (H N) (rO (E.bD g) O):=by
 exact uO (t:=t) (a:=false) (q:=wW::.tw E.a::yc E.d::.sr E.e::.tw E.c::O) b5 a b _ λd f S c m=>uQ _ _ S c m
theorem KN(h:0<rM)(j:∀k E,u k (rO E O)=rW (t+3) false 47 [.b 3] (rO E O)):∀{w:List rN} {E:sc} {b3:Nat->Prop},sA E b3 (i+w.length) ->DS E O b3 i (tO u w<|rO E O):=by
 intro w;induction w with
 |nil=>
  exact @λE b3 a1=>.mk og (λ_ a=>absurd a fe) ((funext λc=>propext ⟨.inr,λa=>a.elim (λa=>absurd a fe) id⟩:b3=λc=>c∈([])\/b3 c)▸a1) B B
 |cons k w l=>
  exact @λE b3 a1=>by
   refine Ff (t:=t) (g:=false) (O:=O) h a1 _ λb v S m n o _ p=>l n _ λR x q d g r s=>?_;rw[(funext λc=>propext ⟨λa=>a.elim (λa=>.inl<|br _ a) λa=>a.imp (λa:c=b=>J a bn) id,λa=>a.elim (λa=>(List.mem_cons.mp a).elim (λa=>.inr<|.inl a) .inl) λa=>.inr<|.inr a⟩:(λc=>c∈R\/(c=b\/b3 c))=λc=>c∈b::R\/b3 c)]at g;exact .mk (List.nodup_cons.mpr ⟨λa=>(d b a).2<|.inl B,q⟩) (List.forall_mem_cons.mpr ⟨⟨S,m⟩,λc a=>⟨(d c a).1,λf=>(d c a).2<|.inr f⟩⟩) g (r.trans o)<|uZ ((j k E).trans p) s
theorem KO(j:0<rM)(l:∀e k,(a2 e).set 14 k=a2 k)(S:∀e,um (a2 e) 1=D (.b 3))(m:∀k,um (a2<|.rL k) 14=D k):∀{w:List Nat} {i:Nat} {E:sc} {e:sm},w.Nodup->(∀b∈w,¬b3 b) ->sA E (λc=>c∈w\/b3 c) i->∃p c0,sA p b3 (i+w.length)/\ti (t+4) none [14] false ES (w.map H) (a2 e) (rO E O)=ss (a2 c0) (rO p O):=by
 intro w;induction w with
 |nil=>
  exact @λi E e _ _ a1=>⟨E,e,(funext λc=>propext ⟨λa=>a.elim (λa=>absurd a fe) id,.inr⟩:(λc=>c∈([])\/b3 c)=b3)▸a1,B⟩
 |cons b w n=>
  exact @λi E e N a a1=>by
   have d:=List.nodup_cons.mp N;refine Fh (t:=t) (g:=false) (O:=O) j a1 (.inl bn) _ λs g _ _ o=>?_;rw[(funext λc=>propext ⟨λf=>f.1.imp (λv=>(List.mem_cons.mp v).resolve_left f.2) id,λf=>f.elim (λv=>⟨.inl<|br _ v,λe=>d.1<|e▸v⟩) λv=>⟨.inr v,λe=>a b bn<|e▸v⟩⟩:(λM=>(M∈b::w\/b3 M)/\M≠b)=λc=>c∈w\/b3 c)]at g;refine tP (n (e:=.rL<|H b) d.2 (λc A=>a c<|br _ A) g) λq b2 h r=>?_;rw[bf,bh 1]at h;exact uw q b2 h<|tl (G D<|l e<|.rL<|H b) (tt (sN (G (se ·<|rO E O)<|S<|.rL<|H b) B (rZ (G (se ·<|rO E O)<|m<|H b) B) o) sY) r
theorem GT{w:List Nat}(a:∀b∈w,yX b):(λc=>c∈w\/te y c)=te λW=>W*rM∈w\/y W:=funext λc=>propext ⟨λf=>f.elim (λf=>(a c f).elim λL v=>sn (L+1) (v.2.trans<|(bh ..).trans (cw L rM).symm)<|.inl<|by refine J (cw ..)<|J (bh ..) ?_;exact v.2▸f) λ⟨W,e,f⟩=>sn W e<|.inr f,λ⟨W,e,f⟩=>f.elim (λf=>.inl<|J e f) λf=>.inr<|sn W e f⟩
end
section
theorem us.dS(a:us b z l u):sw z:=λN A=>(a.j N A).2
theorem us.dA(a:us b z l u):b+l<1000000:=ce (Nat.add_lt_add a.g<|ar a.i<|bv a.c 20)<|af ..
theorem us.cQ(a:us b z l u):0<l:=ar (sz B)<|aa a.h a.d
theorem us.dC(a:us b z l u):u<8/\u&&&1=1:=by rcases a.k with e|e|e<;>rw[e]<;>decide
theorem GU(a:sw z)(a3:sw c):sw (xx e b z l u a5 c Y o):=uy (Dc<|af ..)<|uy Ak<|uy Ak<|uy a a3
theorem KP(a:us b z l u):rW (t+6) false 75 [sk<|xx b b z l u b [5] 1 6] d=tf 2 d:=by
 have m:=De (t:=t) (d:=d) (o:=6) (uy (Dc<|af ..)<|uy Ak<|uy Ak<|uy a.dS<|show sw [5]by decide) a.d a.cQ a.dA a.dC.1 (bg b) (cz a.cQ) a.dC.2 a.f (bg 1) fp (bb (bc a.cQ b) a.dA) (af ..)<|bb (bc a.c 116)<|af ..;rw[cd<|Nat.not_le.mpr<|cz a.cQ,jw,jw]at m;exact m
theorem KQ(a:b<256):tJ .k (H b) (H 4)=D (H<|b^^^4):=by
 have a':=ui (b:=b) (g:=4);have c:=rN.i.inj<|ak a';have d:=rN.i.inj<|ak (B:tJ .c (H b) (H 4)=D (H<|b&&&4));refine(?_:D (rN.i<|ms b (4:Int) -je b ((4:Nat):Int))=_);exact J c<|J d<|J (KJ b a)<|vX<|by exact(lm ..)▸((o_ ..))
theorem GV:wt .a (sd w) .e (H s) d=rS (sd<|w.take s) d:=G (λw=>rS (.c w) d) List.map_take.symm
theorem KR:wt .a (sd w) (H s) .e d=rS (sd<|w.drop s) d:=(G (se · d) GR).trans<|G (λw=>rS (.c w) d) List.map_drop.symm
end
section
variable{N:Nat}
theorem KS:∀{N:Nat},N<7->∃s,yz[N]?=D s/\s∈yz/\s<=42:=λ{N} a=>⟨yz[N],d_ a,kh a,(by decide:∀s∈yz,s<=42) _<|kh a⟩
theorem KT(a1:sA E (te y) i)(b7:sJ E.a)(b5:sU L E.b)(b8:L<=1000000)(b9:xB (x::U) z v j)(b0:wD ((z+1)*rM) (v*rM) a5)(d:xg b3 e (x::U))(b':us x.b x.c x.a x.d)(c0:4<=i)(Y:i<=63):∃a9,rW (a6+14) false 98 [.b 0,.b 3,ta,sd b3,.c<|(x::U).map sF.bG,.c<|a5.map sd,H j] (rO E O)=rS (.d true) a9:=by
 have T:∀{r},r<10->L+r<100000000:=λa=>bb (cu b8<|bl a)<|by decide
 obtain⟨N,m,S,V,o⟩:=zm (t:=a6+12) (E:=E) (O:=O) b5 (T (r:=0)<|by decide)<|show 0<5 by decide
 have g:=a1.bD m;have l:∀{p:sc} {a0:rR},sA p (te y) i->rW (a6+13) false 44 [.b 3] (rO p a0)=rS (H i) (rO p a0):=λa1=>xq (t:=a6+12) a1
 revert o;refine Eh ?_ ?_ ?_ ?_ ?_ S<;>intro o
 ·exact⟨_,sE (.a _ _<|.a _ _<|.f<|.d (.c<|(bi 17 [97]).map sd)<|.a _ _<|.a _ _<|.h true<|.a _ _<|.h true .e) λf=>f o (l g) B (Bz (.inl B) d.a (λn A=>qH A▸by decide) (af ..)<|sE (.s _ _ .e) λf=>f<|sE (.f<|.f .e) λf=>f) (KM d.a) B (l g)<|vu B⟩
 ·obtain⟨u,M,t,a2,P⟩:=zm (t:=a6+12) (E:=E.bD m) (O:=O) V (T (r:=1)<|by decide)<|show 0<7 by decide
  obtain⟨s,a',b2,b6⟩:=KS t;have a3:=bb b6 d.c;have a4:b3[s]?=D (b3.getD s 0):=by refine(fq)▸(d_ a3)▸?_;rfl
  exact⟨_,sE (.a _ _<|.a _ _<|.f<|.f<|.a _ _<|.d _<|.a _ _<|.d _<|.d _<|.d (sd<|b3.take s++[b3.getD s 0^^^4])<|.d (H<|s+1)<|.a _ _<|.d _<|.a _ _<|.h true<|.a _ _<|.h true .e) λf=>f o (l g) P (Aw (w:=yz) a'<|ce t<|by decide) GV (Aw (w:=b3) a4<|bb b6<|by decide) (KQ<|d.a _<|gy a4) (xw (P:=[b3.getD s 0^^^4])<|by refine ek▸?_;exact aa (bw<|aa (lh ..) d.b)<|by decide) B KR ((xw<|by refine(az bm)▸ek▸hw▸?_;exact aa (cu (bw<|aa (lh ..) d.b)<|aa (el ..) d.b)<|af ..).trans<|G (λw=>D<|sd w)<|cp ..) (DR b0 (F9 d.a a3)<|d.h (a6+5) _ s b2) B (l<|g.bD M)<|vu B⟩
 ·obtain⟨u,M,t,a2,P⟩:=zm (t:=a6+12) (E:=E.bD m) (O:=O) V (T (r:=1)<|by decide)<|bb (cc _) d.c;exact⟨_,sE (.a _ _<|.a _ _<|.f<|.f<|.f<|.d _<|.a _ _<|.a _ _<|.a _ _<|.h true<|.a _ _<|.h true .e) λf=>f o (l g) Ar P GV (DR b0 (λc A=>d.a c<|he A)<|d.g (a6+5) _ u t) B (l<|g.bD M)<|vu B⟩
 ·have h:rU (a6+13) false (.o [15,16,17,18] true [] (.cL (.a 4) .z<|.d<|H 1)<|.q<|.c (.a 15)<|.c (.a 16)<|.c (.a 17)<|.c (.a 18) .n) [.rL<|.b 0,.rL<|.b 3,.rL<|ta,.rL<|sd b3,.rL<|.c<|(x::U).map sF.bG,.rL<|.c<|a5.map sd,.rL<|H j,.rL<|H 3,.rL<|H i,.rT,.rT,.rT,.rT,.rT,.rT,.rT,.rT,.rT,.rT,.rT] (rO (E.bD m) O)=rS (.c [x.bG]) (rO (E.bD m) O):=vR (xG B B B B B) B (show 1<=1000000 by decide)<|uZ ((x_ B).trans<|yY B) A4;exact⟨_,sE (.a _ _<|.a _ _<|.f<|.f<|.f<|.f<|.p _ _<|.d _<|.f<|.d (.c [x.bG,vo x.b [5] 1 6])<|.d _<|.f<|.a _ _<|.a _ _<|.h true<|.a _ _<|.h true .e) λf=>f o (l g) h (zl (z:=x.bG) B<|by decide) B (zl (z:=x.bG) B<|by decide) (Gc (t:=a6+11) (aa b'.c<|by decide)<|by decide) (DR b0 (GU b'.dS<|by decide)<|KP (t:=a6+5) b') B (l g)<|vu B⟩
 ·obtain⟨u,M,t,a2,P⟩:=zm (t:=a6+12) (E:=E.bD m) (O:=O) V (T (r:=1)<|by decide)<|show 0<4 by decide
  have a7:u<=i:=aa (bl t) c0;have c1:sA ((E.bD m).bD M) (te y) (u+((b_<|i -u).map H).length):=by rw[a_];refine fl▸(az<|ds a7)▸?_;exact g.bD M
  refine KN (t:=a6+10) (O:=O) (u:=vm (a6+13) false [19] false [1] (.f 50 (.a 1) .n) [.rL<|.b 0,.rL<|.b 3,.rL<|ta,.rL<|sd b3,.rL<|.c<|(x::U).map sF.bG,.rL<|.c<|a5.map sd,.rL<|H j,.rL<|H 4,.rL<|H i,.rT,.rT,.rT,.rT,.rT,.rT,.rT,.rT,.rT,.rT,.rT]) sf.aR (λk E=>(x_ B).trans<|sN B B B B) c1 _ λR a8 c2 W b1 c3 c4=>?_;have h:rU (a6+13) false (.o [19] false [1] (.k .c<|.c (.aB .d (.a 8)<|.i 87<|.c (.a 0)<|.c (.d<|H 4) .n) .n)<|.f 50 (.a 1) .n) [.rL<|.b 0,.rL<|.b 3,.rL<|ta,.rL<|sd b3,.rL<|.c<|(x::U).map sF.bG,.rL<|.c<|a5.map sd,.rL<|H j,.rL<|H 4,.rL<|H i,.rT,.rT,.rT,.rT,.rT,.rT,.rT,.rT,.rT,.rT,.rT] (rO (E.bD m) O)=rS (.c<|R.map H) (rO a8 O):=vR (tA (rZ (sb B (vh (rZ B<|rZ B B) P)<|tS a7) B) B B) (v_<|aa (el ..)<|aa Y<|by decide) (by rw[a_];refine fl▸?_;exact aa (el ..)<|aa Y<|by decide) c4;rw[GT λb A=>(W b A).1]at b1;refine DQ (a6:=a6) (O:=O) (E:=a8) b1 (c3▸b7) b9 b0 d (.inr<|.inl<|ck t) _ λc8 c5 b4 c9 c' c6=>?_;rw[<-GT λb A=>(W b A).1]at b4;obtain⟨d0,q,X,c7⟩:=KO (t:=a6+9) (O:=O++c5) (a2:=λe=>[.rL<|.b 0,.rL<|.b 3,.rL<|ta,.rL<|sd b3,.rL<|.c<|(x::U).map sF.bG,.rL<|.c<|a5.map sd,.rL<|H j,.rL<|H 4,.rL<|H i,.rL<|.c [yC 4],.rL<|.c [yC 4],.rT,.rT,.rL<|.c<|R.map H,e,.rT,.rT,.rT,.rT,.rT]) (e:=.rT) sf.aR (λ_ _=>B) (λ_=>B) (λ_=>B) c2 (λb A=>(W b A).2) b4;rw[(a1.eJ X)]at X;exact⟨_,sE (.a _ _<|.a _ _<|.f<|.f<|.f<|.f<|.p _ _<|.a _ _<|.o _ _ _<|.h true<|.a _ _<|.h true .e) λf=>f o (l g) h c6 c7 B (l X)<|vu B⟩
end
noncomputable def zs(b:List Nat):List (List Nat) ->List Nat
 |[]=>b
 |s::a6=>zs ((b++[47])++s) a6
noncomputable def BB(s:List Nat):List (List Nat) ->List Nat
 |[]=>s
 |m::a6=>BB m a6
def DT(s:List Nat):Prop:=s.length<=3/\∀N∈s,97<=N/\N<123
def DU(i h:Nat)(q:rR)(m:rQ (List rN)):Prop:=∀a:Prop,(∀(a6:List (List Nat)) (g:List Int),a6.length=h->(∀s∈a6,DT s) ->sU (i+4*h) g->m=uf (a6.map sd) (sM g q) ->a) ->a
theorem DU.mk{a6:List (List Nat)}(a:a6.length=h)(S:(∀s∈a6,DT s))(b:sU (i+4*h) g)(c:m=uf (a6.map sd) (sM g q)):DU i h q m:=λ_ i=>i a6 g a S b c
section
variable{t:Nat} {b s w:List Nat} {a6:List (List Nat)} {d:rR} {T a' b6 a2 b8 Y:sm}
theorem KU:∀{a6:List (List Nat)} {b s:List Nat},(∀m∈a6,∀c∈m,cn c 47=false) ->wy [] b=s->wy [] (zs b a6)=BB s a6:=by
 intro a6;induction a6 with
 |nil=>
  exact @λ_ _ _ a=>a
 |cons m a6 f=>
  exact @λb s e a=>f (s:=m) (λc A=>e c<|br _ A)<|by exact ae (G _<|cp ..)<|JO.trans<|Gi<|e m bn
theorem KV:∀{a6:List (List Nat)} {b:List Nat},(∀m∈a6,m.length<=3) ->(zs b a6).length<=b.length+4*a6.length:=by
 intro a6;induction a6 with
 |nil=>
  exact @λ_ _=>bg _
 |cons m a6 e=>
  exact @λb a=>aa (e λc A=>a c<|br _ A) (by
   have f:=a m bn;refine J bm<|J bm<|(?_:b.length+1+m.length+4*a6.length<=b.length+4*(a6.length+1));rw[gz,bf b.length,bf b.length,bh<|4*_];exact bc (bv (bh 1 m.length▸bw f) _) _)
theorem KW:∀{a6:List (List Nat)} {b:List Nat},sw b->(∀m∈a6,sw m) ->sw (zs b a6):=by
 intro a6;induction a6 with
 |nil=>
  exact @λ_ a _=>a
 |cons m a6 e=>
  exact @λb a a3=>e (uy (uy a<|show sw [47]by decide)<|a3 m bn) λc A=>a3 c<|br _ A
theorem KX:∀{a6:List (List Nat)} {s:List Nat},(s::a6)[a6.length]?=D (BB s a6):=by
 intro a6;induction a6 with
 |nil=>
  exact @λ_=>B
 |cons m a6 a=>
  exact @λs=>a (s:=m)
theorem KY:∀{a6:List (List Nat)} {b:List Nat} {b6:sm},(∀m∈a6,m.length<=3) ->b.length+4*a6.length<=1000->∃i,ti t none [3] false EU (a6.map sd) [T,a',.rL<|sd b,b6,a2,b8,Y] d=ss [T,a',.rL<|sd<|zs b a6,i,a2,b8,Y] d:=by
 intro a6;induction a6 with
 |nil=>
  exact @λb b6 _ _=>⟨b6,B⟩
 |cons s a6 j=>
  exact @λb b6 a k=>by
   have e:(b++[47]).length+s.length<=b.length+4:=by refine J bm ?_;rw[bf];exact bc (aa (bc (a s bn) 1)<|bg 4) _
   have g:b.length+4+4*a6.length<=1000:=aa (ao<|by refine ae (bf ..) ?_;rw[bh 4];rfl) k;have h:=aa (ax (b.length+4)<|4*a6.length) g;exact(j (λc A=>a c<|br _ A)<|by refine J bm ?_;exact aa (bv e _) g).imp λ_ m=>tl B (tg (.d _<|.d _ .e) λf=>f (xw (P:=[47])<|aa (bc (by decide) _)<|aa h<|by decide)<|xw<|aa e<|aa h<|by decide) m
theorem KZ:∀{w:List Nat},yi (w.map λc=>rN.f [c])=D (w.map λc=>[c]):=@λw=>uP (B) (λc w a=>G (cx ([c]::·))<|a) w
theorem K0:∀{w:List Nat},(w.map λc=>[c]).flatten=w:=@λw=>uP (B) (λc w a=>G (c::·) a) w
theorem K1(a:w.length<=1000000):uo d .d [.c<|w.map λc=>rN.f [c]]=D (.f w):=by
 show(yi<|w.map λc=>.f [c]).bind (λw=>si (Cu w)<|D<|rN.f w.flatten)=_;refine J KZ<|(?_:si ((w.map λc=>[c]).all (λl=>decide<|l.length<=16)&&(tQ (w.map λc=>[c]).length&&tQ (w.map λc=>[c]).flatten.length)) (D<|rN.f (w.map λc=>[c]).flatten)=_);refine J K0 ?_;rw[a_];refine J (vc a)<|J List.all_map<|J (List.all_eq_true.mpr λc _=>B) ?_
 rfl
end
section
variable{i:Nat} {w:List Nat} {q:rR} {g:List Int} {u:rN->rR->rQ rN}
theorem K2{g:Nat}(a:b≠g):cn b g=false:=by
 cases e:cn b g with
 |false=>rfl
 |true=>exact absurd (da e) a
theorem K3(d:∀k g i,sU i g->i<100000->∃s b,DT s/\sU (i+4) b/\u k (sM g q)=rS (sd s) (sM b q)):∀(w:List rN) {g:List Int} {i:Nat},sU i g->i+4*w.length<100000->DU i w.length q (tO u w<|sM g q):=by
 intro w;induction w with
 |nil=>
  exact @λg i b5 _=>.mk B (λ_ a=>absurd a fe) b5 B
 |cons k w f=>
  exact @λg i b5 c=>by
   refine ul (d k g i b5<|bb (ax ..) c) λs p S h j=>?_;have e:i+4*(w.length+1)=i+4+4*w.length:=by refine ae (G _<|gz ..) ?_;rw[bh<|4*w.length];exact sa (bf ..) B
   exact f h (sa e c) _ λr t l m n o=>(.mk (G _ l) (List.forall_mem_cons.mpr ⟨S,m⟩) (J e n)<|uZ j o)
theorem K4(b5:sU i g)(j:i<=10000):∃L,sU (i+13) L/\rW (t+4) false 100 [.b 0] (sM g q)=rS (.d true) (sM L q):=by
 refine uO (t:=t+2) (a:=false) (q:=q) (A:=3) b5 (bb j<|by decide) (af ..) _ λN V S r x=>?_;have y:((b_<|1+N).map H).length=1+N:=ae (a_ ..) fl;have l:1+N<=3:=bc (ck S) 1;refine K3 (q:=q) (u:=vm (t+3) false [4] false [0] _ [.rL _,.rT,.rT,.rT,.rT,.rT,.rT]) (λk g i b5 j=>by
  refine uO (t:=t+2) (a:=false) (q:=q) (A:=4) b5 (ce j<|by decide) (by decide) _ λA V S r x=>?_;have o:A<=3:=ck S;exact(As (t:=t+2) (a:=false) (X:=97) (A:=26) (h:=A) (c:=5) (r:=0) (b7:=.i 87<|.c (.a 0)<|.c (.d<|H 4) .n) (o:=[.rL<|.b 0,.rT,.rT,.rT,.rL k,.rT,.rT]) (vh (rZ B<|rZ B B) x) r (aa (cu (Nat.succ_le_of_lt j) o)<|by decide) (by decide) (aa o<|by decide) λk=>sn _ B B) _ λs e n a p z=>uQ s e ⟨(J n o),a⟩ (p.bN<|aa (ao<|bf ..)<|bc (bc o 1) i)<|(x_ B).trans z) ((b_<|1+N).map H) r (by refine J y ?_;exact bb (cu (bw j)<|bx 4 l)<|by decide) _ λa6 e n a p z=>?_
 rw[y]at n p;have h:rU (t+3) false (.o [4] false [0] (.k .c<|.c (.aB .a (.d _)<|.i 87<|.c (.a 0)<|.c (.d _) .n) .n) _) _ _=rS _ _:=vR (tA (rZ (sb B (vh (rZ B<|rZ B B) x) zh) B) B B) (v_<|aa l<|by decide) (by refine J y ?_;exact aa l<|by decide) z;cases a6 with
 |nil=>exact absurd n (by exact J (bh ..)<|λf=>Nat.noConfusion f)
 |cons b a6=>
  have W:=a b bn;have M:=λm A c E=>K2<|c_<|ar (by decide:47<97) ((a m A).2 c E).1;have b3:∀m∈b::a6,sw m:=λm A c E=>ce ((a m A).2 c E).2<|by decide
  have O:=cu W.1<|bx 4<|Nat.le_of_succ_le_succ<|aa (ao n) l;have P:=KW (a6:=a6) (b3 b bn) λm A=>b3 m<|br _ A;have X:=KU (b:=b) (s:=b) (λm A=>M m<|br _ A)<|Gi<|M b bn;have R:=KX (a6:=a6) (s:=b);have T:=gy R;have d:=JN (t:=t+1) (d:=sM e q) P<|aa (KV (a6:=a6) (b:=b) λm A=>(a m<|br _ A).1)<|aa O<|by decide
  rw[X]at d;have U:=(a _ T).1;generalize BB b a6=v at*
  refine bk (KY (t:=t+3) (d:=sM e q) (T:=.rL<|.b 0) (a':=.rL<|.c<|(b::a6).map sd) (b6:=.rT) (a2:=.rT) (b8:=.rT) (Y:=.rT) (a6:=a6) (b:=b) (λm A=>(a m<|br _ A).1)<|aa O<|by decide) λb6 Y=>?_;have a0:rU (t+3) false (.o [6] false [] (.aP (.a 1)<|.bW<|.d<|H 1)<|.k .j<|.c (.a 6) .n) [.rL<|.b 0,.rL _,.rL<|sd<|zs b a6,b6,.rT,.rT,.rT] _=rS (.c<|v.map λc=>rN.f [c]) _:=vR (wj B B (wS B B B)<|G (se · _) (DI (by refine ae (G _<|a_ ..) ?_;exact GB) (by refine ae (ew) ?_;refine ae (G _ R) ?_;rfl):uY (sM e q) (.c<|(b::a6).map sd) _=D _)) B (by rw[a_];exact aa U<|by decide)<|By λc A=>(x_ B).trans<|tA (rZ B B) B<|Gg<|b3 _ T c A;exact sn e (p.bN<|aa (ao<|bf ..)<|bc (bc (bx 4 l) 1) i)<|sE (.p _ _<|.d _<|.d (sd b)<|.a _ _<|.o _ _ _<|.d _<|.a _ _<|.p _ _<|.h true .e) λf=>f h (zl (z:=sd b) B<|by decide) B (G (se · _) GR) Y (xf P) d (tA (rZ a0 B) B<|K1<|aa U<|by decide)<|G D<|bd B
end
noncomputable def ty(a c:Nat):Nat:=(c+a -1)/a
def vp(a:Nat)(U:List sF):Nat:=ty a<|wz U 0
def xh(a:Nat)(U:List sF)(j:Nat):Nat:=ty a<|(vp a U+1)*a+j
section
variable{z k l:Nat} {U:List sF} {P:Nat->Nat}
theorem uB.dH{c:Nat}(b:uB c t):(t=8/\c=32)\/(t=16/\c=64):=by
 have a:∀t,t<=16->8<=t->2^t.log2=t->t=8\/t=16:=by decide
 rcases a t b.d b.j b.i with rfl|rfl
 ·exact .inl ⟨B,b.e.symm⟩
 ·exact .inr ⟨B,b.e.symm⟩
theorem K5(a:0<rM):c<=ty rM c*rM:=qo (b:=rM)<|Nat.le_of_pred_lt<|Nat.lt_div_mul_add (a:=c+rM -1) a
theorem K6:∀{U:List sF} {l:Nat},l<=wz U l:=by
 intro U;induction U with
 |nil=>
  exact @λ_=>bg _
 |cons x U a=>
  exact @λl=>aa (Nat.le_max_left ..) a
theorem BC:∀{U:List sF} {l:Nat} {x:sF},x∈U->x.b+x.a<=wz U l
 |c::U,l,x,A=>(List.mem_cons.mp A).elim (λe=>e▸aa (Nat.le_max_right ..) (K6))<|BC
theorem GW(d:0<rM)(a:b<e)(c:e<=z*rM):b/rM+ug rM b e<=z:=J (CW a)<|er<|ar (mi (bb (cc _) a) fp)<|aa c<|ao<|bs ..
theorem K7(b:0<rM)(d:z<=k):∀{U:List sF} {P:Nat->Nat},(∀x∈U,0<x.a/\x.b+x.a<=z*rM) ->P k=0->vC U P k=0:=by
 intro U;induction U with
 |nil=>
  exact @λ_ _ a=>a
 |cons x U e=>
  exact @λP a g=>e (λc A=>a c<|br _ A)<|(am λf=>Nat.not_le.mpr f.2<|aa (GW b (cz (a x bn).1) (a x bn).2) d).trans g
theorem K8(b:0<rM):∀{U:List sF},(∀x∈U,0<x.a/\x.b+x.a<=z*rM) ->uz rM U<=U.length*z:=@λU=>uP (@λ_=>cc _) (λx U d=>@λa=>aa (cu (aa (af ..)<|GW b (cz (a x bn).1) (a x bn).2)<|d λc A=>a c<|br _ A)<|ao<|(bh ..).trans (cw ..).symm) U
theorem GX(a:0<rM):ty rM (k*rM+c)=k+ty rM c:=by
 unfold ty;rcases ki<|c+rM with f|f
 ·exact absurd a<|Nat.not_lt.mpr<|aa (af ..)<|ao f
 ·refine J (bf ..) ?_;rw[nq<|Nat.succ_le_of_lt f];refine J (bs ..) ?_;rw[kb a]
theorem DV(a:∀x∈U,x.dX/\(x.d<8/\x.a<=4999))(y:Bw U)(c:∃x d,U=x::d)(e:0<j):xB U (vp rM U) (xh rM U j) j:=by
 have b:∀x∈U,x.b+x.a<=vp rM U*rM:=λx A=>aa (BC A)<|K5 sf.aR;refine⟨⟨λx A=>vS ((a x A).1) ((a x A).2.1) ((a x A).2.2)<|b x A,y,λk f=>K7 sf.aR f (λx A=>⟨(a x A).1.d,b x A⟩) B⟩,Af,Af,?_,c⟩;unfold xh;exact J (GX sf.aR)<|cz<|Nat.div_pos (ke<|aa (ao<|bh ..)<|bv e rM) sf.aR
end
section
variable{a1:List Nat}
theorem K9(a:n<h+32):n -h<32:=ja<|qq<|bh h 31▸ck a
theorem K'(f:84<=n)(a:n<h+84):n -52 -32<h:=J (mh n 52 32)<|rK f a
theorem GY(a:i<h):¬h<=(a1.take i).length:=Nat.not_le.mpr<|bb (aa (ao<|ek ..)<|hi ..) a
theorem AB(a:w.length<=n):(w++a1).take n=w++a1.take (n -w.length):=by refine ae List.take_append ?_;rw[qZ a]
theorem GZ(a:n<52)(a3:sw a1):rW (t+6) false 75 [sk<|a1.take n] d=tf 2 d:=Jr (λc A=>a3 c<|he A)<|bb (aa (ao<|ek ..)<|hi ..) a
theorem DW(a:n<h+32):(a1.take<|n -h).length<32:=bb (aa (ao<|ek ..)<|hi ..)<|K9 a
theorem DX(a7:sw z)(i:z.length<=l)(j:0<l)(k:b+l<1000000)(o:u<8)(S:b<=e)(p:e<b+l)(q:u&&&1=1)(r:e %4=0)(w:z.length<=100):xg (vB e b z l u) e [⟨b,z,l,u⟩]:=by
 have a:sw (vB e b z l u):=uy (Dc<|af ..)<|uy Ak a7;have v:(vB e b z l u).length=z.length+84:=B;refine⟨a,by refine v▸?_;exact aa (bv w 84)<|af ..,by refine v▸?_;exact ar (sz B)<|af 84 _,λt d=>?_,λt d n x=>?_,λt d s A=>F' A a⟩
 ·have m:=F7 (t:=t) (d:=d) a i j k o S p q r;rw[bd<|bg _,ob]at m;exact m
 ·have g:sw ((vB e b z l u).take n):=λc A=>a c<|he A;rcases cm n 52 with f|f
  ·exact GZ f a
  have a':(vB e b z l u).take n=tB e 1++(ts 84 b z.length l u++z).take (n -52):=AB f;rcases cm n 84 with h|h
  ·rw[a']at g⊢;exact F8 B fp (af ..) g<|DW h
  ·have b2:(ts 84 b z.length l u++z).take (n -52)=ts 84 b z.length l u++z.take (n -52 -32):=AB<|ke h;rw[a',b2]at g⊢;have m:=F7 (t:=t) (d:=d) g i j k o S p q r;rw[cd (GY (K' h x):¬z.length<=(z.take<|n -52 -32).length)]at m;exact m
theorem K_(f:116<=n)(a:n<h+116):n -52 -32 -32<h:=J (mh _ 32 32)<|J (mh n 52 64)<|rK f a
theorem La(a7:sw z)(k:z.length<=l)(p:0<l)(q:b+l<1000000)(r:u<8)(S:b<=e)(w:e<b+l)(x:u&&&1=1)(y:e %4=0)(E:z.length<=100)(T:sw a)(L:a.length<=Y)(M:0<Y)(N:a5+Y<1000000)(O:o<8)(U:a.length<=100)(a8:b+l<=a5):xg (xx e b z l u a5 a Y o) e [⟨b,z,l,u⟩,⟨a5,a,Y,o⟩]:=by
 have h:sw (xx e b z l u a5 a Y o):=GU a7 T;have P:(xx e b z l u a5 a Y o).length=(z++a).length+116:=B;have R:116+z.length<1000000:=bb (bc E 116)<|af ..;have i:(z++a).length=z.length+a.length:=bm;refine⟨h,by refine J P<|J i ?_;exact aa (bv (cu E U) 116)<|af ..,by refine P▸?_;exact ar (sz B)<|af 116 _,λt d=>?_,λt d n V=>?_,λt d s A=>F' A h⟩
 ·have m:=De (t:=t) (d:=d) h k p q r S w x y L M N O R;have m:=List.drop_left▸ob▸i▸List.take_left▸(bd a8)▸(bd<|show z.length+a.length<=(z++a).length from ao i.symm)▸(bd<|show z.length<=(z++a).length from i▸ax ..)▸m;exact m
 ·have g:sw ((xx e b z l u a5 a Y o).take n):=λc A=>h c<|he A;rcases cm n 52 with f|f
  ·exact GZ f h
  have a':(xx e b z l u a5 a Y o).take n=tB e 2++(ts 116 b z.length l u++(ts (116+z.length) a5 a.length Y o++(z++a))).take (n -52):=AB f;rcases cm n 84 with v|v
  ·rw[a']at g⊢;exact F8 B (af ..) (af ..) g<|DW v
  have b2:(ts 116 b z.length l u++(ts (116+z.length) a5 a.length Y o++(z++a))).take (n -52)=ts 116 b z.length l u++(ts (116+z.length) a5 a.length Y o++(z++a)).take (n -52 -32):=AB<|ke v;rcases cm n 116 with j|j
  ·rw[a',b2]at g⊢;exact Js g k p q r<|DW<|rA f j
  ·have b6:(ts (116+z.length) a5 a.length Y o++(z++a)).take (n -52 -32)=ts (116+z.length) a5 a.length Y o++(z++a).take (n -52 -32 -32):=AB<|ke<|ke j;rw[a',b2,b6]at g⊢;have m:=De (t:=t) (d:=d) g k p q r S w x y L M N O R;rw[cd (GY (K_ j<|sa i V):¬z.length+a.length<=((z++a).take<|n -52 -32 -32).length),qf,jw]at m;exact m
end
structure DY(a b7 n z:Nat):Prop where
 b:z+(1+n)=b7
 c:8<=z*a
 h:b7*a -(1+n)*a=z*a
 i:(1+n)*a<=b7*a
 j:ug a (z*a -8) (z*a -8+8)<=2
 e:(z*a -8) %4=0
 f:(b7*a -4) %4=0
 k:ty a (max 0<|z*a -8+8)=z
 l:ty a (max 0<|z*a -8+9)=z+1
 m:ty a (max 0<|b7*a -4+8)=b7+1
 o:ty a (max 0<|b7*a -4+4)=b7
 g:b7*a+100<=1000000
 d:4<=b7*a
 p:(z+1)*a<=uN (b7*a) 4
noncomputable def wi(b l:Nat):sF:=⟨b,[7,7,7,7],l,5⟩
noncomputable def xC:List (List Nat):=bi 16 [97]
noncomputable def yD:sF:=⟨0,[1],4,5⟩
structure Lb(a b7 v:Nat):Prop where
 d:xh a [yD] 336=v
 e:vp a [yD]=1
 b:v<=b7
 f:2*uz a [yD]+2*(v -1)+1<=40
 c:∀m∈uW (v*a) xC,(1+1)*a<=m
 g:4*(xC.length+1)<=u_ (v*a) (tx xC)
 h:v*a<=1000000
 i:1<(1+1)*a
section
variable{n:Nat}
theorem Lc:∀n,1<=n->n<=4->DY 32 64 n (64 -(1+n)):=λn x a=>by
 revert x;refine Eh (λx=>absurd x<|by decide) ?_ ?_ ?_ ?_<|ja a
 all_goals exactλ_=>⟨B,sz B,B,sz B,sz B,B,by decide,B,B,by decide,by decide,by decide,by decide,sz B⟩
theorem Ld:∀n,1<=n->n<=2->DY 64 256 n (256 -(1+n)):=λn x a=>by
 revert x;refine Ca (λx=>absurd x<|by decide) ?_ ?_<|ja a
 all_goals exactλ_=>⟨B,sz B,B,sz B,sz B,B,by decide,B,B,by decide,by decide,by decide,by decide,sz B⟩
theorem Le{b:Nat}(c:uB b t)(S:32<=j)(d:j<=111):ty b j<=4/\∃z,DY b (t*t) (ty b j) z:=by
 have a:ty b j<=ty b 111:=ha<|qI (bv d b) 1;have a3:ty b 32<=ty b j:=ha<|qI (bv S b) 1;rcases c.dH with⟨rfl,rfl⟩|⟨rfl,rfl⟩
 ·exact⟨a,_,Lc _ a3 a⟩
 ·exact⟨aa a<|af ..,_,Ld _ a3 a⟩
theorem Lf{a:Nat}(b:uB a t):∃v,Lb a (t*t) v:=by
 rcases b.dH with⟨rfl,rfl⟩|⟨rfl,rfl⟩
 ·exact⟨13,B,B,sz B,sz B,by decide,sz B,sz B,by decide⟩
 ·exact⟨8,B,B,sz B,sz B,by decide,sz B,sz B,by decide⟩
theorem G0(a:4<=l)(c:l<=9)(d:0<j):xB [wi b l] (vp rM [wi b l]) (xh rM [wi b l] j) j:=DV (λx A=>J (List.mem_singleton.mp A)<|tG ⟨show sw [7,7,7,7]by decide,a,ar (sz B) a,show 4<=4999 by decide⟩ (show 5<8 by decide)<|aa c<|af ..) (oh ..) (vK _ _ B) d
theorem G1(c:4<=l)(d:l<=9)(a:b+100<=1000000)(e:b %4=0):xg (vB b b [7,7,7,7] l 5) b [wi b l]:=DX (by decide) c (ar (by decide) c) (ar (ci (bb d<|sz B) b) a) (af ..) (bg b) (cz<|ar (by decide) c) B e<|af ..
theorem G2(a:4<=n):wD b n []:=⟨nofun,nofun,sz B,λ_=>a⟩
theorem BD:xh rM U j=vp rM U+1+ty rM j:=GX sf.aR
theorem Lg(a1:sA E (te y) i)(f:sJ E.a)(c:4<=l)(d:l<=9)(g:0<j)(a:b+100<=1000000)(h:b %4=0)(e:rP*rP<vp rM [wi b l]+1+ty rM j):AA E O y i (rS<|yC 4) (rW (a6+13) false 97 [.b 3,ta,sd<|vB b b [7,7,7,7] l 5,.c [],H j]<|rO E O):=DQ (a5:=[]) a1 f (G0 c d g) (G2<|aa (by refine sa sf.e ?_;exact rJ 4 sf.dG)<|Nat.le_mul_of_pos_left rM<|by refine BD▸?_;exact bb (cc _) e) (G1 c d a h)<|.inr<|.inr<|BD▸e
theorem G3(a:l<=9):rW (a6+2) false 89 [H b,.c [vo b [7,7,7,7] l 5]] (rO E O)=rS (sd<|vB b b [7,7,7,7] l 5) (rO E O):=Dm<|af ..
end
section
theorem DZ(a1:sA E (te y) i)(g:sJ E.a)(h:4<=l)(d:l<=9)(k:0<j)(a:b+100<=1000000)(n:b %4=0)(q:rP*rP<vp rM [wi b l]+1+ty rM j):∃p c w,sA p (te y) i/\sJ p.a/\sG rP y E p/\rY (a6+13) none ET [.rL<|.b 3,.rL<|ta,.rL<|H j,b6,.rL<|H i,b8,Y,a4,.rL<|H b,.rL<|H l,t,o,u] (rO E O)=ss [.rL<|.b 3,.rL<|ta,.rL<|H j,b6,.rL<|H i,b8,Y,a4,.rL<|H b,.rL<|H l,.rL<|sd w,o,u] (rO p<|O++c):=by
 refine Lg (a6:=a6) (O:=O) (b:=b) (l:=l) a1 g h d k a n q _ λp c e a9 r m=>?_;exact⟨p,c,(vB b b [7,7,7,7] l 5),e,a9,r,tg (.d (sd [7,7,7,7])<|.a _ _<|.a _ _<|.h false<|.a _ _<|.h false .e) λf=>f B (G3 (a6:=a6+11) d) m B (xq (t:=a6+12) e)<|wU B⟩
theorem Lh(a1:sA E (te y) i)(b':sJ E.a)(S:32<=j)(c0:j<=111)(T:40<=i):Ay E y i (rW (a6+14) false 99 [.b 3,ta,H j]<|rO E O):=by
 have k:0<j:=ar (by decide) S;obtain⟨U,z,a2⟩:=Le sf S c0;obtain⟨v,b⟩:=Lf sf;have V:∀{p:sc} {X:rR},sA p (te y) i->rW (a6+13) false 44 [.b 3] (rO p X)=rS (H i) (rO p X):=λa1=>xq (t:=a6+12) a1;have Y:z*rM -8+100<=1000000:=aa (bv (aa (el ..)<|cr rM<|aa (ax z _)<|ao a2.b) 100) a2.g;have a0:rP*rP*rM -4+100<=1000000:=aa (bv (el ..) 100) a2.g;have l:=G0 (b:=z*rM -8) (l:=8) (by decide) (by decide) k;have a4:vp rM [wi (z*rM -8) 8]=z:=a2.k;have c1:xh rM [wi (z*rM -8) 8] j=rP*rP:=by refine ae BD ?_;refine J a4 ?_;refine ae (bf ..) ?_;exact a2.b
 rw[a4,c1]at l;have b0:=G2 (n:=rP*rP*rM) (b:=(z+1)*rM) a2.d;have a5:∀m∈uW (rP*rP*rM) [],(z+1)*rM<=m:=λm A=>J (List.mem_singleton.mp A) a2.p;have a7:=G1 (b:=z*rM -8) (l:=8) (by decide) (by decide) Y a2.e;have c2:rP*rP -z<=5:=by refine sa a2.b<|J (e_ ..) ?_;exact bc U 1
 refine DP (a6:=a6+1) (O:=O) a1 b' l b0 a7 (bg _) (aa (bw<|cu (bx 2<|show ug rM (z*rM -8) (z*rM -8+8)+0<=2 from a2.j)<|bx 2 c2)<|aa (by decide) T) a5 _ λW f0 w f1 n a8 c3 _ c4=>?_;have o:((O++[sj W<|rP*rP*rM])++[n])[O.length]?=D (sj W<|rP*rP*rM):=by refine J (cp ..) ?_;refine ae (gg<|bg _) ?_;refine ae (G _<|gk ..) ?_;rfl
 generalize (O++[sj W<|rP*rP*rM])++[n]=a9 at*
 have b4:=GD (U:=[wi (z*rM -8) 8]) (z:=z) (v:=rP*rP) (λx A=>(l.b.c x A).2.1) (qJ _) (show 1<5 by decide) (l.b.c _<|qJ _).2.2.2<|aa (ax z _)<|ao a2.b;have a':=Bd (a6:=a6+5) (O:=a9) a8.C o b4<|show 8<=4999 by decide
 rw[(GM l.b a5<|qJ<|wi (z*rM -8) 8)]at a';refine Aa (a6:=a6+7) (g:=false) a8 o _ λf2 f3 L c5 c6 c7=>?_;rw[a1.eJ L]at L;generalize a9.set O.length (sj W 0)=b1 at*
 obtain⟨f4,c8,c9,c',d0,d1,d2⟩:=DZ (a6:=a6) (O:=b1) (b6:=.rL<|H rM) (b8:=.rL<|H<|z*rM) (Y:=.rL<|sd<|vB (z*rM -8) (z*rM -8) [7,7,7,7] 8 5) (a4:=.rL<|vD (O.length+6) (z*rM -8) (tq (rP*rP*rM) []) 0<|tq (rP*rP*rM) []) (t:=.rT) (o:=.rT) (u:=.rT) (b:=z*rM -8) (l:=9) L c5 (by decide) (by decide) k Y a2.e<|(show vp rM [wi (z*rM -8) 9]=z+1 from a2.l)▸(bb (ao a2.b.symm)<|by rw[bf<|z+1,bf];exact ci (rC fp) z);generalize b1++c8=b2 at*
 obtain⟨f5,d3,d4,d5,d6,d7,d8⟩:=DZ (a6:=a6) (O:=b2) (b6:=.rL<|H rM) (b8:=.rL<|H<|z*rM) (Y:=.rL<|sd<|vB (z*rM -8) (z*rM -8) [7,7,7,7] 8 5) (a4:=.rL<|vD (O.length+6) (z*rM -8) (tq (rP*rP*rM) []) 0<|tq (rP*rP*rM) []) (t:=.rL<|sd c9) (o:=.rT) (u:=.rT) (b:=rP*rP*rM -4) (l:=8) c' d0 (by decide) (by decide) k a0 a2.f<|(show vp rM [wi (rP*rP*rM -4) 8]=rP*rP+1 from a2.m)▸ar (oc<|fz _) (ax ..);generalize b2++d3=b3 at*
 obtain⟨f6,d9,b5,b6,d',e0,e1⟩:=DZ (a6:=a6) (O:=b3) (b6:=.rL<|H rM) (b8:=.rL<|H<|z*rM) (Y:=.rL<|sd<|vB (z*rM -8) (z*rM -8) [7,7,7,7] 8 5) (a4:=.rL<|vD (O.length+6) (z*rM -8) (tq (rP*rP*rM) []) 0<|tq (rP*rP*rM) []) (t:=.rL<|sd d4) (o:=.rT) (u:=.rT) (b:=rP*rP*rM -4) (l:=4) d5 d6 (by decide) (by decide) k a0 a2.f<|by refine(az<|show vp rM [wi (rP*rP*rM -4) 4]=rP*rP from a2.o)▸?_;exact ar (fz _)<|ax ..
 generalize b3++d9=g at*
 have t:xB [yD] (vp rM [yD]) (xh rM [yD] 336) 336:=DV (λx A=>List.mem_singleton.mp A▸⟨⟨show sw [1]by decide,by decide,by decide,show 1<=4999 by decide⟩,show 5<8 by decide,show 4<=4999 by decide⟩) (oh ..) ⟨_,_,B⟩<|by decide
 rw[b.e,b.d]at t;have b7:wD ((1+1)*rM) (v*rM) xC:=⟨by decide,λc A=>J (qH A) ⟨by decide,b.i⟩,by decide,λ_=>b.g⟩
 have b8:xg (vB 0 0 [1] 4 5) 0 [yD]:=DX (by decide) (by decide) (by decide) (by decide) (by decide) (by decide) (by decide) (by decide) (by decide)<|by decide
 refine DP (a6:=a6+1) (O:=g) b6 d' t b7 b8 b.b (aa b.f T) b.c _ λN f7 h f8 b9 P e2 _ e3=>?_;have q:((g++[sj N<|v*rM])++[b9])[g.length]?=D (sj N<|v*rM):=by refine J (cp ..) ?_;refine ae (gg<|bg _) ?_;refine ae (G _<|gk ..) ?_;rfl
 generalize (g++[sj N<|v*rM])++[b9]=s at*
 have e4:∀r,r<16->vm (a6+13) false [12] false [7] (.k .b<|.c (.f 51 (.aD (.a 7) 73)<|.c (.i 94<|.c (.aD (.a 7) 73)<|.c (.aB .a (.aD (.a 7) 43)<|.aB .b (.d<|H 4)<|.a 12) .n)<|.c (.d<|H 9) .n) .n) [.rL<|.b 3,.rL<|ta,.rL<|H j,.rL<|H rM,.rL<|H i,.rL<|H<|z*rM,.rL<|sd<|vB (z*rM -8) (z*rM -8) [7,7,7,7] 8 5,.rL<|vD (g.length+6) 0 (tq (v*rM) xC) 16<|tq (v*rM) xC,.rL<|H<|rP*rP*rM -4,.rL<|H 4,.rL<|sd b5,.rT,.rT] (H r) (rO h s)=rS (sk [97]) (rO h s):=λr e5=>by
  obtain⟨M,m,e6,_,d⟩:=GL (r:=r) b7 t.b b.b t.c b.c b.h e5;have e:M=[97]:=qH<|gy e6;subst e;have n:=FK (a6:=a6+4) (h:=9) (O:=s) P.C q d.a d.d d.e (show 1<9 by decide)<|by decide
  rw[d.b]at n;exact(x_ B).trans<|vQ (.i _<|.d _<|.f<|.a _ _<|.a _ _<|.d (sk [97]) .e) λf=>f (sI q h) (tF B) (DJ (a6:=a6+4) P.C q d.g d.h d.i) n B
 refine Aa (a6:=a6+7) (g:=false) P q _ λf9 f' u e7 e8 e9=>?_;rw[b6.eJ u]at u;have R:∀{f M:Nat},rP*rP*rM -f=M->f<=rP*rP*rM->tJ .d (H<|rM*rP*rP) (H f)=D (H M):=λa a3=>by refine J xX ?_;refine ae (tS a3) ?_;exact G _<|G _ a
 have e':rU (a6+13) false (.o [12] false [7] (.k .c<|.c (.d<|H 16) .n)<|.k .b<|.c (.f 51 (.aD (.a 7) 73)<|.c (.i 94<|.c (.aD (.a 7) 73)<|.c (.aB .a (.aD (.a 7) 43)<|.aB .b (.d<|H 4)<|.a 12) .n)<|.c (.d<|H 9) .n) .n) [.rL<|.b 3,.rL<|ta,.rL<|H j,.rL<|H rM,.rL<|H i,.rL<|H<|z*rM,.rL<|sd<|vB (z*rM -8) (z*rM -8) [7,7,7,7] 8 5,.rL<|vD (g.length+6) 0 (tq (v*rM) xC) 16<|tq (v*rM) xC,.rL<|H<|rP*rP*rM -4,.rL<|H 4,.rL<|sd b5,.rT,.rT] (rO h s)=rS (.c<|bi 16<|sk [97]) (rO h s):=vR (tA (rZ B B) B B) (v_<|show 16<=1000000 by decide) (by decide)<|(By λr A=>e4 r<|List.mem_range.mp A).trans B;exact .mk u e7 (c3.aM<|c6.aM<|d1.aM<|d7.aM<|e0.aM<|e2.aM e8) (sE (.a _ _<|.f<|.d (H<|j+rM -1)<|.d (H<|ty rM j)<|.f<|.d (H<|(1+ty rM j)*rM)<|.d (H<|z*rM)<|.d (H<|z*rM -8)<|.d (H<|z*rM -8)<|.d (sd [7,7,7,7])<|.a _ _<|.d _<|.a _ _<|.i _<|.h false<|.i _<|.d (H<|z*rM -8)<|.a _ _<|.d (sd [7,7,7,7,0,0,0,0])<|.h false<|.i _<|.a _ _<|.d (H<|z*rM -8)<|.d (H<|rP*rP*rM -4)<|.d (H<|rP*rP*rM -4)<|.o _ _ _<|.a _ _<|.d _<|.f<|.d (.c<|xC.map sk)<|.f<|.f<|.a _ _<|.p (.c<|bi 16<|sk [97]) _<|.i _<|.a _ _<|.h true<|.d (.c<|bi 16<|sk [97])<|.h true<|.a _ _<|.h true .e) λf=>f (V a1) (tS<|aa k<|ax ..) (wT sf.aR) (tF<|B'<|bb (bc U 1)<|by decide) (R a2.h a2.i) (tS a2.c) (tS a2.c) B (G3 (a6:=a6+11)<|by decide) (xf a7.a) c4 (sI o w) (wU xX.symm) (sI o w) (tS a2.c) a' DH zk (sI o w) c7 (tS a2.c) (R B a2.d) (R B a2.d) (tl B d2<|tl B d8<|tl B e1 B) (Dm (t:=a6+11) (e:=0) (b:=0) (z:=[1]) (l:=4) (u:=5)<|by decide) (xf b8.a) B e3 e' (sI q h) e9 (vu B) B B (V u)<|vu B)
end
noncomputable def BE(g:List Int):sc:=⟨g,[],0,[],[]⟩
def yb:Nat->Prop:=λ_=>False
structure zt(U:List sF)(e:Nat)(b3:List Nat):Prop where
 h:∀x∈U,x.dX/\(x.d<8/\x.a<=4999)
 j:Bw U
 f:xg b3 e U
 g:∃x a,U=x::a/\us x.b x.c x.a x.d
 k:U.length<=2
 l:wz U 0<=172
 m:∃x:sF,x.b+x.a=wz U 0/\∀d,uY d (.c<|U.map sF.bG) (.i<| -1)=D x.bG
 n:∀t d,rW (t+2) false 89 [H e,.c<|U.map sF.bG] d=rS (sd b3) d
section
variable{i:Nat} {g:List Int} {a:Bool}
theorem Li:vb (a6+3) false 12 [H<|64*rM] (sM g [])=rS (.b 1) (sM g [wW,.tw []]):=by
 have a:=sf.dH;unfold wW;generalize rM=s at*
 generalize rP=m at a
 rcases a with⟨rfl,rfl⟩|⟨rfl,rfl⟩<;>kernel_rfl
theorem Lj:vb (a6+3) false 13 [.b 1,H rM,H 63,H rM,.d false] (sM g [wW,.tw []])=rS (.b 3) (rO (BE g) []):=by
 have a:=sf.dH;unfold rO wW yc;generalize rM=s at*
 generalize rP=m at a
 rcases a with⟨rfl,rfl⟩|⟨rfl,rfl⟩<;>kernel_rfl
theorem G4(g:List Int):sA (BE g) (te yb) 63:=⟨(A5 [] B og nofun B B),cc _,og,nofun,λ_ a=>a.elim λ_ a=>a.2.elim⟩
theorem Lk(g:List Int):sJ (BE g).a:=⟨og,nofun,λi=>⟨B,show 0<_ by decide⟩⟩
theorem G5(a8:N<2):∃b t,uB b t/\vb (a6+1) a 6 [H<|5+N] d=rS (AG b t) d:=Ef ⟨32,8,by constructor<;>decide,by kernel_rfl⟩ (uw 64 16 (by constructor<;>decide)<|by kernel_rfl) a8
theorem G6(a:us b z l u)(a8:N<max 1 (l/4)):b<=b+4*N/\b+4*N<b+l/\(b+4*N) %4=0:=by
 have c:=aa a.h a.d;rw[(qE (ha (c:=4) c):max 1 _=l/4)]at a8;exact tG (ax ..) (ci (ar ((Nat.mul_lt_mul_left<|sz B).mpr a8)<|qz l 4) b)<|by exact ae (Nat.add_mul_mod_self_left ..)<|a.f
theorem BF(a:us b z l u):b+l<=74:=cu (ck a.g)<|ck<|ar a.i<|bv a.c 20
theorem G7(a:wf e b z l u)(c:e<=74):b+l<=172:=cu (ck<|ar a.h<|bv c 50)<|aa (ck a.j)<|bv (ck a.f) 30
theorem us.aJ(a:us b z l u):sF.dX ⟨b,z,l,u⟩/\(u<8/\l<=4999):=tG ⟨a.dS,a.d,a.cQ,aa a.c<|af ..⟩ a.dC.1<|aa (aa (af l b)<|BF a)<|af ..
theorem wf.dC(a:wf e b z l u):u<8:=by rcases a.k with e|e|e<;>refine e▸?_<;>decide
theorem wf.cQ(a:wf e b z l u):0<l:=ar (bu _) a.g
theorem wf.dS(a:wf e b z l u):sw z:=λN A=>(a.i N A).2
theorem wf.aJ(a:wf e b z l u)(c:e<=74):sF.dX ⟨b,z,l,u⟩/\(u<8/\l<=4999):=tG ⟨a.dS,bl a.g,a.cQ,aa (bl a.f)<|af ..⟩ a.dC<|aa (aa (af l b)<|G7 a c)<|af ..
theorem G8(a:us b z l u)(a8:N<max 1 (l/4)):zt [⟨b,z,l,u⟩] (b+4*N) (vB (b+4*N) b z l u):=have a2:=G6 a a8;have c:=aa a.c (by decide);⟨λx A=>J (List.mem_singleton.mp A) a.aJ,oh ..,DX a.dS a.d a.cQ a.dA a.dC.1 a2.1 a2.2.1 a.dC.2 a2.2.2 c,(uw _ _ B a),ea 1,aa (ao<|qK _)<|aa (BF a)<|af ..,(sn ⟨b,z,l,u⟩ ((qK _).symm)<|λd=>B),λt d=>Dm<|aa c<|af ..⟩
theorem Ll(a:us b z l u)(a3:wf (b+l) a5 c Y o)(a8:N<max 1 (l/4)):zt [⟨b,z,l,u⟩,⟨a5,c,Y,o⟩] (b+4*N) (xx (b+4*N) b z l u a5 c Y o):=have a2:=G6 a a8;have e:=aa a.c<|by decide
 have h:=aa (bl a3.f)<|by decide
 have q:=G7 a3<|BF a;have f:max (max 0<|b+l) (a5+Y)=a5+Y:=by rw[qK];exact qE (aa a3.d<|ax ..)
 ⟨List.forall_mem_cons.mpr ⟨a.aJ,λx A=>List.mem_singleton.mp A▸a3.aJ (BF a)⟩,List.pairwise_cons.mpr ⟨λx A=>List.mem_singleton.mp A▸a3.d,oh ..⟩,La a.dS a.d a.cQ a.dA a.dC.1 a2.1 a2.2.1 a.dC.2 a2.2.2 e a3.dS (bl a3.g) a3.cQ (bb q<|af ..) a3.dC h a3.d,(uw _ _ B a),bg 2,aa (ao f) q,(sn ⟨a5,c,Y,o⟩ f.symm<|λd=>B),λt d=>Gc (aa e<|by decide)<|aa h<|by decide⟩
end
structure AC(n:List Nat):Prop where
 b:n.length<=17
 a:∀c∈n,97<=c/\c<123
structure G9(U:List sF)(j z v:Nat):Prop where
 a:xB U z v j
 d:z+1<v
 e:v<rP*rP
 g:v*rM+rM<=1000000
 b:uz rM U<=12
 f:v -z<=5
 c:64<=(z+1)*rM
noncomputable abbrev xD(T b2 b6 a2 b8 Y:sm):sg:=[T,.rL<|.b 0,b2,b6,a2,b8,Y,.rT,.rT,.rT,.rT,.rT,.rT,.rT,.rT,.rT,.rT,.rT,.rT,.rT,.rT]
section
variable{i a6:Nat} {g:List Int} {q:rR} {T b2 b6 a2 Y:sm}
theorem D0(a:c<=M):ty rM c<=ty rM M:=ha<|qI (bv a rM) 1
theorem Lm(a1:zt U e b3)(S:32<=j)(w:j<=111):G9 U j (vp rM U) (xh rM U j):=by
 refine tP a1.g λx f y E=>?_;subst y;have k:=DV a1.h a1.j (vK _ _ B)<|ar (sz B) S;have L:xh rM (x::f) j=vp rM (x::f)+1+ty rM j:=BD;have M:=aa (K8 sf.aR λc A=>⟨(k.b.c c A).1.d,(k.b.c c A).2.2.2⟩)<|cr _ a1.k;have m:ty rM 1<=vp rM (x::f):=D0<|aa (aa E.cQ<|af ..)<|BC bn;have n:vp rM (x::f)<=ty rM 172:=D0 a1.l;have o:=D0 w;generalize vp rM (x::f)=z at*
 generalize xh rM (x::f) j=v at*
 subst L;have p:∀{d a a9 b7:Nat},ty d 1=1->ty d 172<=a->ty d 111<=a9->ty d 1<=z->z<=ty d 172->ty d j<=ty d 111->a+1+a9<b7->(a+1+a9)*d+d<=1000000->a<=6->a9<=4->32<=d->z+1+ty d j<b7/\(z+1+ty d j)*d+d<=1000000/\2*z<=12/\z+1+ty d j -z<=5/\64<=(z+1)*d:=λN r s O t u P V W X a0=>by
  have l:=cu (bv (aa t r) 1)<|aa u s;exact El (bb l P) (aa (bv (cr _ l) _) V) (bx 2<|aa (aa t r) W) (by refine J (bf ..)<|J (e_ ..) ?_;exact bc (aa (aa u s) X) 1)<|hp (bw<|aa (ao N.symm) O) a0
 have R:z+1+ty rM j<rP*rP/\(z+1+ty rM j)*rM+rM<=1000000/\2*z<=12/\z+1+ty rM j -z<=5/\64<=(z+1)*rM:=by
  rcases sf.dH with⟨b,h⟩|⟨b,h⟩<;>rw[h]at m n o<;>rw[b,h]
  ·exact p (a:=6) (a9:=4) B (af ..) (af ..) m n o (af ..) (af ..) (af ..) (af ..)<|af ..
  ·exact p (a:=3) (a9:=2) B (af ..) (af ..) m n o (af ..) (af ..) (af ..) (af ..)<|af ..
 exact⟨k,k.c,R.1,R.2.1,aa M R.2.2.1,R.2.2.2.1,R.2.2.2.2⟩
theorem Ln(a8:N<10):∃A,A<=17/\uY d (.c [H 16,H 0,H 1,H 2,H 3,H 5,H 7,H 9,H 15,H 17]) (H N)=D (H A):=by
 have a:=a8;exact sn _ ((by decide:∀x∈([16,0,1,2,3,5,7,9,15,17]),x<=17) _<|kh a)<|Aw (w:=[16,0,1,2,3,5,7,9,15,17]) (d_ a)<|ce a8<|af ..
theorem Lo(b5:sU i g)(b:i<=900000)(d:V.length<=1000):∃n c,AC n/\sU (i+18) c/\rY (a6+2) none zv (xD T b2 b6 a2 (.sl<|.sr V) Y) (sM g q)=ss (xD T b2 b6 a2 (.sl<|.sr<|V++[sd n]) Y) (sM c q):=by
 refine uO (t:=a6+1) (a:=false) (q:=q) (A:=10) b5 (bb b<|af ..) (af ..) _ λN e S h j=>?_;refine sh (Ln (d:=sM e q) S) λA a l=>?_;refine(As (X:=97) (A:=26) (c:=19) (r:=1) (b7:=.aP (.m<|.c (.d<|H 16)<|.c (.d<|H 0)<|.c (.d<|H 1)<|.c (.d<|H 2)<|.c (.d<|H 3)<|.c (.d<|H 5)<|.c (.d<|H 7)<|.c (.d<|H 9)<|.c (.d<|H 15)<|.c (.d<|H 17) .n)<|.i 87<|.c (.a 1)<|.c (.d<|H 10) .n) (o:=xD T b2 b6 a2 (.sl<|.sr V) Y) (vQ (.a _ _<|.d _ .e) λf=>f j l) h (aa (cu (bw b) a)<|af ..) (af ..) (aa a<|af ..) λk=>sn _ B B) _ λs m o p r t=>?_;exact uQ s m ⟨(J o a),p⟩ (r.bN<|aa (ao<|bf ..)<|bc (bc a 1) i)<|tg (.p _ _<|.i _ .e) λf=>f t<|zY<|aa d<|af ..
theorem Lp:∀{a1:List rN} {g:List Int} {i:Nat} {V:List (List Nat)} {Y:sm},sU i g->i+18*a1.length<=900000->V.length+a1.length<=1000->∃a5 b a,(∀n∈a5,AC n)/\a5.length=a1.length/\sU (i+18*a1.length) b/\ ti (a6+2) none [6] false zv a1 (xD T b2 b6 a2 (.sl<|.sr<|V.map sd) Y) (sM g q)=ss (xD T b2 b6 a2 (.sl<|.sr<|(V++a5).map sd) a) (sM b q):=by
 intro a1;induction a1 with
 |nil=>
  exact @λg i V Y b5 _ _=>⟨[],g,Y,nofun,B,b5,by refine J (dh ..) ?_;rfl⟩
 |cons c a1 j=>
  exact @λg i V Y b5 d e=>by
   have f:i+18*(a1.length+1)=i+18+18*a1.length:=by refine ae (G _<|gz ..) ?_;rw[bh<|18*a1.length];exact sa (bf ..) B
   refine ul (Lo (a6:=a6) (q:=q) (T:=T) (b2:=b2) (b6:=b6) (a2:=a2) (Y:=.rL c) (V:=V.map sd) b5 (aa (ax ..) d)<|by rw[a_];exact aa (ax ..) e) λn s S k l=>wq (j (V:=V++[n]) (Y:=.rL c) k (sa f d)<|by refine J bm ?_;rw[bf,bh [n].length];exact e) λa5 m a o p r h=>xk (n::a5) m a (List.forall_mem_cons.mpr ⟨S,o⟩) (G (·+1) p) (J f r)<|?_;rw[fg,cp]at h;exact tl B l h
end
def D1:sp:=(r_.c (sp.b (Q.a 2) (r_.c (sp.d<|Q.i 100<|rX.c (Q.a 1) rX.n) r_.n) r_.n)<|r_.c (sp.b (Q.bC<|rX.c (Q.aG tM.c (Q.i 87<|rX.c (Q.a 1)<|rX.c (Q.d<|H 3) rX.n)<|Q.d<|H 0)<|rX.c (Q.bA<|Q.i 99<|rX.c (Q.a 8)<|rX.c (Q.a 3)<|rX.c (Q.a 11) rX.n) rX.n) (r_.c sp.f r_.n) r_.n)<|r_.c (sp.d<|Q.bC<|rX.c (Q.i 100<|rX.c (Q.a 1) rX.n)<|rX.c (Q.i 98<|rX.c (Q.a 1)<|rX.c (Q.a 8)<|rX.c (Q.a 3)<|rX.c (Q.a 12)<|rX.c (Q.a 9)<|rX.c (Q.a 5)<|rX.c (Q.a 11) rX.n) rX.n) r_.n)
abbrev xE(d:Bool)(U:List sF)(a5:List (List Nat))(e j:Nat)(b3:List Nat)(T Y a4 q b a c:sm):sg:=[T,.rL<|.b 0,.rL<|.d d,.rL<|ta,.rL<|H rM,.rL<|.c<|a5.map sd,Y,a4,.rL<|.b 3,.rL<|.c<|U.map sF.bG,.rL<|H e,.rL<|H j,.rL<|sd b3,.rL<|H 63,q,b,a,c,.rT,.rT,.rT]
structure BG(U:List sF)(a5:List (List Nat))(e j z v:Nat)(b3:List Nat):Prop where
 a:zt U e b3
 c:G9 U j z v
 b:wD ((z+1)*rM) (v*rM) a5
 d:32<=j
 f:j<=111
section
theorem G'(b5:sU i E.b)(b:i<=10000):∃a,sU (i+13) a/\rW (t+4) false 100 [.b 0] (rO E O)=rS (.d true) (rO (E.bD a) O):=K4 b5 b
theorem G_{a:sm}(b1:BG U a5 e j z v b3)(a1:sA E (te yb) 63)(r:sJ E.a)(b5:sU L E.b)(l:L<=9000)(s:Bool):∃a3 a9,rY (a6+14) none D1 (xE s U a5 e j b3 T Y a4 q b a c) (rO E O)=vt (.d true) a3 a9:=by
 cases s with
 |true=>
  refine sh (G' (t:=a6+10) (O:=O) b5<|aa l<|af ..) λX v m=>?_;exact⟨_,_,tg (.a _ _ .e) λf=>f m⟩
 |false=>
  refine ul (zm (t:=a6+13) (O:=O) b5 (bb l<|af ..)<|show 0<3 by decide) λN t S y m=>?_;have u:=a1.bD t;have w:∀{h d},sA h (te yb) 63->sJ h.a->h.b=t->∃n g,rW (a6+14) false 100 [.b 0] (rO h d)=rS (.d true) n/\rW (a6+14) false 98 [.b 0,.b 3,ta,sd b3,.c<|U.map sF.bG,.c<|a5.map sd,H j] n=rS (.d true) g:=λ{h d} o p b2=>by
   refine sh (G' (t:=a6+10) (O:=d) (J b2 y)<|aa (bw l)<|af ..) λA M i=>?_;refine tP b1.a.g λx a0 P b'=>?_;subst P;obtain⟨g,k⟩:=KT (o.bD A) p M (aa (bv (bw l) 13)<|af ..) b1.c.a b1.b b1.a.f b' (af ..)<|bg 63;exact uw _ g i k
  rcases ki N with rfl|R
  ·refine Lh (a6:=a6) (O:=O) u r b1.d b1.f (show 40<=63 by decide) _ λa2 a7 o p V W=>?_;obtain⟨n,g,i,k⟩:=w o p V.f;exact vK _ g<|tg (.a _ _<|.h true<|.a _ _<|.a _ _<|.a _ _ .e) λf=>f m (vu B) W i k
  ·exact tP (w (d:=O) u r B) λn g i k=>vK _ g<|tg (.a _ _<|.h false<|.a _ _<|.a _ _ .e) λf=>f m (wk<|c_ R) i k
end
def D2:sp:=(r_.c (sp.b (Q.bL<|rX.c (Q.aG tM.a (Q.i 97<|rX.c (Q.a 8)<|rX.c (Q.a 3)<|rX.c (Q.a 12)<|rX.c (Q.a 5)<|rX.c (Q.a 11) rX.n)<|Q.d<|rN.f [114,111,111,109])<|rX.c (Q.aG tM.a (Q.f 11 (Q.a 8) rX.n)<|Q.a 13) rX.n) (r_.c sp.f r_.n) r_.n) r_.n)
def D3:sp:=(r_.c (sp.a 17<|Q.i 83<|rX.c (Q.a 8)<|rX.c (Q.a 3)<|rX.c (Q.k ue.b<|rX.c (Q.a 12) rX.n)<|rX.c (Q.o [20] false [] (Q.a 5)<|Q.k ue.b<|rX.c (Q.a 20) rX.n)<|rX.c (Q.a 11) rX.n)<|r_.c (sp.b (Q.aG tM.a (Q.m<|rX.c (Q.aD (Q.a 17) 7)<|rX.c (Q.aD (Q.a 17) 75)<|rX.c (Q.aD (Q.a 17) 43)<|rX.c (Q.aD (Q.a 17) 74) rX.n)<|Q.m<|rX.c (Q.a 10)<|rX.c (Q.k ue.a<|rX.c (Q.a 5) rX.n)<|rX.c (Q.aP (Q.a 16)<|Q.bW<|Q.d<|H 1)<|rX.c (Q.aP (Q.a 16)<|Q.bW<|Q.d<|H 1) rX.n) (r_.c sp.f r_.n) r_.n)<|r_.c (sp.b (Q.bA<|Q.i 95<|rX.c (Q.aD (Q.a 17) 73)<|rX.c (Q.a 9)<|rX.c (Q.a 5)<|rX.c (Q.a 16)<|rX.c (Q.a 4)<|rX.c (Q.a 14)<|rX.c (Q.a 15) rX.n) (r_.c sp.f r_.n) r_.n)<|r_.c (sp.b (Q.bA<|Q.i 96<|rX.c (Q.a 8)<|rX.c (Q.a 3)<|rX.c (Q.a 17)<|rX.c (Q.a 13)<|rX.c (Q.bC<|rX.c (Q.bA<|Q.a 2)<|rX.c (Q.aG tM.c (Q.i 87<|rX.c (Q.a 1)<|rX.c (Q.d<|H 3) rX.n)<|Q.d<|H 0) rX.n) rX.n) (r_.c sp.f r_.n) r_.n) r_.n)
section
theorem Lq{a:sm}(b1:BG U a5 e j z v b3)(a1:sA E (te yb) 63)(h:sJ E.a)(i:∃m∈uW (v*rM) a5,m<(z+1)*rM)(d:Bool):∃p k,sA p (te yb) 63/\sJ p.a/\p.b=E.b/\rY (a6+14) none D2 (xE d U a5 e j b3 T Y a4 q b a c) (rO E O)=ss (xE d U a5 e j b3 T Y a4 q b a c) (rO p k):=by
 refine DQ (a6:=a6+1) (O:=O) a1 h b1.c.a b1.b b1.a.f (.inl i) _ λp l g a9 n m=>?_;exact yf p (O++l) g a9 n.f<|tg (.a _ _<|.h false<|.a _ _<|.h false .e) λf=>f m B (xq g)<|wU B
theorem sB.bD{P:Nat->Nat}(a:sB b E y i x P c)(g:List Int):sB b (E.bD g) y i x P c:=⟨a.C,a.F.bD g,a.I⟩
theorem sG.bD(a:sG t y E p)(g:List Int):sG t y (E.bD g) (p.bD g):=⟨B,a.h⟩
theorem Lr(b1:BG U a5 e j z v b3)(a7:∀n∈a5,sw n)(a1:sA E (te yb) 63)(P:sJ E.a)(b5:sU L E.b)(X:L<=8000)(w:∀m∈uW (v*rM) a5,(z+1)*rM<=m)(l:Bool):∃p a a0,sA p (te yb) 63/\sJ p.a/\sU (L+1) p.b/\ rY (a6+14) none D3 (xE l U a5 e j b3 T Y a4 (.rL<|H<|(z+1)*rM) (.rL<|H<|v*rM) (.rL<|sd<|uW (v*rM) a5) .rT) (rO E O)=ss (xE l U a5 e j b3 T Y a4 (.rL<|H<|(z+1)*rM) (.rL<|H<|v*rM) (.rL<|sd<|uW (v*rM) a5) a0) (rO p a):=by
 have b7:=b1.c;refine DP (a6:=a6+2) (O:=O) a1 P b7.a b1.b b1.a.f (bl b7.e) (aa (bw<|cu (bx 2 b7.b)<|bx 2 b7.f)<|af ..) w _ λW R a' b0 x o q a2 s=>?_;have y:3<=R:=qo<|aa (sz B)<|aa a2<|bc (bw<|cu (bx 2 b7.b)<|bx 2 b7.f) _;have r:((O++[sj W<|v*rM])++[x])[O.length]?=D (sj W<|v*rM):=by refine J (cp ..) ?_;refine ae (gg<|bg _) ?_;refine ae (G _<|gk ..) ?_;rfl
 generalize (O++[sj W<|v*rM])++[x]=a3 at*
 have t:=KB (a6:=a6+3) o r b1.b b7.a.b b7.d b7.e b7.g (aa b7.b<|af ..) w;have u:=GQ (t:=a6+14) (d:=rO E O) (r:=5) (L:=20) (o:=xE l U a5 e j b3 T Y a4 (.rL<|H<|(z+1)*rM) (.rL<|H<|v*rM) (.rL<|sd<|uW (v*rM) a5) .rT) B (λk=>sn _ B B) a7<|aa b1.b.a<|af ..;have V:∀d,uo d .a [.c<|a5.map sd]=D (H a5.length):=λd=>G (λa8=>D<|H a8)<|a_ _;cases l with
 |true=>
  exact GO o r a1 q y _ λp a c g h i=>⟨p,a,_,c,g,(h.f▸b5).bN<|ea L,tg (.d _<|.p _ _<|.a _ _<|.d _<|.d _<|.d _<|.h false<|.a _ _<|.a _ _ .e) λf=>f (xf b1.a.f.a) u s (V _) (ya B) (ya B) (zk (w:=[e,a5.length,tq (v*rM) a5,tq (v*rM) a5])) t i⟩
 |false=>
  refine ul (zm (t:=a6+13) (O:=a3) (J q.f b5) (bb X<|af ..)<|show 0<3 by decide) λN b S A M=>?_;rcases ki N with rfl|a9
  ·exact KG (a6:=a6+6) (e:=e) (n:=tq (v*rM) a5) (h:=a5.length) (b:=tq (v*rM) a5) (o.bD b) r (a1.bD b) (q.bD b) _ λp a c g h i=>xk p a _ c g (J h.f A)<|tg (.d _<|.p _ _<|.a _ _<|.d _<|.d _<|.d _<|.h false<|.a _ _<|.a _ _<|.h true<|.a _ _ .e) λf=>f (xf b1.a.f.a) u s (V _) (ya B) (ya B) (zk (w:=[e,a5.length,tq (v*rM) a5,tq (v*rM) a5])) t M (vu B) i
  ·exact GO (a6:=a6+2) (e:=e) (n:=tq (v*rM) a5) (h:=a5.length) (b:=tq (v*rM) a5) (o.bD b) r (a1.bD b) (q.bD b) y _ λp a c g h i=>xk p a _ c g (J h.f A)<|tg (.d _<|.p _ _<|.a _ _<|.d _<|.d _<|.d _<|.h false<|.a _ _<|.a _ _<|.h false<|.a _ _ .e) λf=>f (xf b1.a.f.a) u s (V _) (ya B) (ya B) (zk (w:=[e,a5.length,tq (v*rM) a5,tq (v*rM) a5])) t M (wk<|c_ a9) i
end
def Ha:sp:=(r_.c (sp.a 14<|Q.aB sT.a (Q.i 91<|rX.c (Q.aB sT.a (Q.aP (Q.aP (Q.a 9)<|Q.bW<|Q.d<|H 1)<|Q.d<|H 0)<|Q.aP (Q.aP (Q.a 9)<|Q.bW<|Q.d<|H 1)<|Q.d<|H 2)<|rX.c (Q.a 4) rX.n)<|Q.a 4)<|r_.c (sp.a 15<|Q.i 91<|rX.c (Q.aB sT.a (Q.a 14)<|Q.a 11)<|rX.c (Q.a 4) rX.n)<|r_.c (sp.a 16<|Q.i 92<|rX.c (Q.a 5)<|rX.c (Q.a 14)<|rX.c (Q.a 15) rX.n)<|r_.c (sp.b (Q.aG tM.f (Q.a 16)<|Q.d rN.e) D2 D3) D1)
section
theorem Hb(a:0<k)(e:wY k=c):rW (a6+1) false 91 [H k,H rM] d=rS (H c) d:=sa e<|J Af<|sE (.f<|.d _<|.d _<|.d _ .e) λf=>f (tS<|aa a<|ax ..) (wT sf.aR)<|tF<|ae (G _<|nx<|bb sf.cH<|af ..)<|(iu ..)
theorem Ls(b1:BG U a5 e j z v b3)(t:∀n∈a5,AC n)(u:a5.length<=5)(a1:sA E (te yb) 63)(m:sJ E.a)(b5:sU L E.b)(b:L<=7000)(a:Bool):∃a3 a9,rY (a6+14) none Ha (xE a U a5 e j b3 T Y a4 .rT .rT .rT .rT) (rO E O)=vt (.d true) a3 a9:=by
 refine sh b1.a.m λx o q=>?_;have b7:=b1.c;have d:0<x.b+x.a:=by
  refine tP b1.a.g λb0 V w b'=>?_;subst w;exact J o<|ar (ar b'.cQ<|af ..)<|BC bn
 have y:=Hb (a6:=a6+13) (d:=rO E O) (ar (ar (af ..) b1.d)<|af j _) b7.a.e;have M:=G (λc=>D<|H c) (cw z rM).symm;have r:∀{k s},rW (a6+14) false 92 [.c<|a5.map sd,H<|(z+1)*rM,H<|v*rM] (rO E O)=rS k (rO E O) ->rY (a6+14) none (.c (.b (.aG .f (.a 16)<|.d .e) D2 D3) D1) (xE a U a5 e j b3 T Y a4 (.rL<|H<|(z+1)*rM) (.rL<|H<|v*rM) (.rL k) .rT) (rO E O)=s->rY (a6+14) none Ha (xE a U a5 e j b3 T Y a4 .rT .rT .rT .rT) (rO E O)=s:=λS P=>sO (vQ (.d x.bG<|.f<|.d x.bG<|.f<|.f<|.a _ _<|.d _ .e) λf=>f (q _) (q _) (Hb (a6:=a6+13) (d:=rO E O) d<|J o b7.a.d) M)<|sO (vQ (.f<|.a _ _ .e) λf=>f y)<|sO (vQ (.a _ _ .e) λf=>f S) P;refine J5 (t:=a6+13) (d:=rO E O) (λc A=>(b1.b.d c A).2) (aa (bx 4<|bw u)<|aa (af ..) b7.c) b1.b.a (cr rM<|bl b7.d) _ (λg a'=>?_) λg a'=>?_
 ·refine wq (Lr (a6:=a6) (O:=O) (T:=T) (Y:=Y) (a4:=a4) b1 (λn A N a8=>ce ((t n A).a N a8).2<|af ..) a1 m b5 (aa b<|af ..) g a) λp R W h i l b2=>?_;obtain⟨a3,a9,b6⟩:=G_ b1 h i l (aa (bw b)<|af ..) a;exact vK a3 a9<|r a'<|vW (M:=false) (sD B B B) b2 b6
 ·refine wp (Lq (a6:=a6) (O:=O) (T:=T) (Y:=Y) (a4:=a4) (q:=.rL<|H<|(z+1)*rM) (b:=.rL<|H<|v*rM) (a:=.rL .e) (c:=.rT) b1 a1 m g a) λp R h i l b2=>?_;obtain⟨a3,a9,b6⟩:=G_ b1 h i (J l b5) (aa b<|af ..) a;exact vK a3 a9<|r a'<|vW (M:=true) (sD B B B) b2 b6
end
noncomputable abbrev yE(T a' b2 b6 a2 b8 Y a4 p n t o:sm):sg:=[T,a',b2,b6,a2,b8,Y,a4,p,n,t,o,.rT,.rT,.rT,.rT,.rT,.rT,.rT,.rT,.rT]
section
variable{b N i c m l u:Nat} {U:List sF} {g:List Int} {q:rR} {a:Bool} {b3:List Nat} {a0:List Int}
theorem Lt:∀{w:List Int},∃l:Nat,zw ((w.map Int.natAbs).map λg:Nat=>(g:Int))=(l:Int):=@λw=>uP (⟨0,B⟩) (λc w d=>(d).elim λl a=>⟨c.natAbs+l,(G ((c.natAbs:Int)+·) a).trans (lm ..).symm⟩) w
theorem Lu:∃l,∀d,uo d .i [.c<|a0.map λr=>H r.natAbs]=D (H l):=(Lt).elim λl a=>⟨l,λd=>by
  refine J ((fj (g:=H) (f:=Int.natAbs)).symm) ?_;exact(G (cx λw=>rN.i<|zw w) GP).trans<|G (λc=>D<|rN.i c) a⟩
theorem Lv(d:a0.length<=63):∃e g,sU 0 g/\rY (a6+14) none (.p [1,2]<|.q<|.c (.i 86<|.c (.a 0) .n)<|.c (.aG .b (.k .i<|.c (.o [18] false [] (.a 0)<|.k .g<|.c (.a 18) .n) .n)<|.d<|H 2) .n) (yE (.rL<|.c<|a0.map rN.i) .rT .rT .rT .rT .rT .rT .rT .rT .rT .rT .rT) []=ss (yE (.rL<|.c<|a0.map rN.i) (.rL<|.b 0) (.rL<|.d e) .rT .rT .rT .rT .rT .rT .rT .rT .rT) (sM g []):=by
 refine Jz (t:=a6+13) a0 _ λg b5 j=>?_;obtain⟨l,k⟩:=Lu;have h:rU (a6+14) false (.o [18] false [] (.a 0)<|.k .g<|.c (.a 18) .n) (yE (.rL<|.c<|a0.map .i) .rT .rT .rT .rT .rT .rT .rT .rT .rT .rT .rT) (sM g [])=rS (.c<|a0.map λr=>H r.natAbs) (sM g []):=vR B B (by rw[a_];exact aa d<|sz B)<|By λc A=>(x_ B).trans<|tA (rZ B B) B B;exact uw (decide<|l<2) g b5<|tg (.a _ _<|.p (H l) _<|.h (decide<|l<2) .e) λf=>f j (tA (rZ h B) B<|k _) yQ
theorem Lw(b5:sU 0 g)(e:Bool):∃d t k,uB d t/\sU 1 k/\rY (a6+14) none (.a 3<|.t 6<|.c (.s (.a 2) (.d<|H 5)<|.aB .a (.d<|H 5)<|.i 87<|.c (.a 1)<|.c (.d<|H 2) .n) .n) (yE T (.rL<|.b 0) (.rL<|.d e) .rT .rT .rT .rT .rT .rT .rT .rT .rT) (sM g q)=ss (yE T (.rL<|.b 0) (.rL<|.d e) (.rL<|AG d t) .rT .rT .rT .rT .rT .rT .rT .rT) (sM k q):=by
 cases e with
 |true=>
  exact tP (G5 (a6:=a6+13) (a:=false) (d:=sM g q) (N:=0)<|by decide) λd t h j=>⟨d,t,g,h,b5.bN<|ea _,tg (.a _ _ .e) λf=>f j⟩
 |false=>
  refine uO (t:=a6+13) (a:=false) (q:=q) (A:=2) b5 (af ..) (by decide) _ λN n S o j=>?_;exact tP (G5 (a6:=a6+13) (a:=false) (d:=sM n q) S) λd t h p=>A6 d t n h o<|tg (.a _ _<|.f<|.a _ _ .e) λf=>f j p
theorem Lx(a8:N<8):∃A,A<=5/\∀d,uY d (.c [H 1,H 0,H 2,H 3,H 4,H 5,H 1,H 2]) (H N)=D (H A):=by
 have e:=a8;exact sn _ ((by decide:∀x∈([1,0,2,3,4,5,1,2]),x<=5) _<|kh e)<|λd=>Aw (w:=[1,0,2,3,4,5,1,2]) (d_ e)<|ce a8<|af ..
theorem Ly(b5:sU 1 g)(k:Bool):∃(a5:List (List Nat)) (e:List Int) (h:sm),(∀n∈a5,AC n)/\a5.length<=5/\sU 92 e/\rY (a6+14) none (.h [6] false (.k .c<|.c (.aP (.m<|.c (.d<|H 1)<|.c (.d<|H 0)<|.c (.d<|H 2)<|.c (.d<|H 3)<|.c (.d<|H 4)<|.c (.d<|H 5)<|.c (.d<|H 1)<|.c (.d<|H 2) .n)<|.i 87<|.c (.a 1)<|.c (.s (.a 2) (.d<|H 2)<|.d<|H 8) .n) .n) zv) (xD T (.rL<|.d k) b6 a2 (.sl<|.sr []) .rT) (sM g q)=ss (xD T (.rL<|.d k) b6 a2 (.sl<|.sr<|a5.map sd) h) (sM e q):=by
 have z:∀{N r},N<8->sU 2 r->∃(A:Nat) (a5:List (List Nat)) (e:List Int) (h:sm),(∀n∈a5,AC n)/\a5.length<=5/\sU 92 e/\A<=5/\(∀d,uY d (.c [H 1,H 0,H 2,H 3,H 4,H 5,H 1,H 2]) (H N)=D (H A))/\ti (a6+14) none [6] false zv ((b_ A).map H) (xD T (.rL<|.d k) b6 a2 (.sl<|.sr []) .rT) (sM r q)=ss (xD T (.rL<|.d k) b6 a2 (.sl<|.sr<|a5.map sd) h) (sM e q):=λa b5=>by
  refine sh (Lx a) λA j p=>?_;have s:((b_ A).map H).length=A:=ae (a_ ..) fl;have E:=bx 18 j;refine wq (Lp (a6:=a6+12) (q:=q) (T:=T) (b2:=.rL<|.d k) (b6:=b6) (a2:=a2) (a1:=(b_ A).map H) (V:=[]) (Y:=.rT) b5 (by refine J s ?_;exact aa (bc E 2)<|af ..)<|by refine(az s)▸?_;exact aa (bc j 0)<|af ..) λa5 e h S L o m=>?_;rw[s]at L o;exact⟨A,a5,e,h,S,(J L j),o.bN<|bc E 2,j,p,m⟩
 cases k with
 |true=>
  refine uO (t:=a6+13) (a:=false) (q:=q) (A:=2) b5 (by decide) (af ..) _ λN r S t v=>?_;obtain⟨A,a5,e,h,w,x,o,j,p,y⟩:=z (ar S<|af ..) t;exact⟨a5,e,h,w,x,o,tg (.a _ _<|.d _<|.f<|.t _<|.o _ _ _ .e) λf=>f v (p _) (v_<|aa j<|by decide) y⟩
 |false=>
  refine uO (t:=a6+13) (a:=false) (q:=q) (A:=8) b5 (by decide) (by decide) _ λN r S t v=>?_;obtain⟨A,a5,e,h,w,x,o,j,p,y⟩:=z S t;exact xk a5 e h w x o<|tg (.a _ _<|.d _<|.f<|.t _<|.o _ _ _ .e) λf=>f v (p _) (v_<|aa j<|by decide) y
theorem Lz(b5:sU i g)(h:i<=5000)(d:Bool):∃j e,32<=j/\j<=111/\sU (i+1) e/\rY (a6+14) none (.a 11<|.aB .a (.d<|H 32)<|.s (.a 2) (.d<|H 0)<|.i 87<|.c (.a 1)<|.c (.d<|H 80) .n) (yE T (.rL<|.b 0) (.rL<|.d d) b6 a2 b8 Y a4 p n t .rT) (sM g q)=ss (yE T (.rL<|.b 0) (.rL<|.d d) b6 a2 b8 Y a4 p n t<|.rL<|H j) (sM e q):=by
 cases d with
 |true=>exact⟨32,g,sz B,sz B,b5.bN<|ea _,tg (.f .e) λf=>f⟩
 |false=>
  refine uO (t:=a6+13) (a:=false) (q:=q) (A:=80) b5 (bb h<|af ..) (af ..) _ λN k S o r=>?_;exact yf (32+N) k (ax ..) (bc (ck S) 32) o<|tg (.a _ _<|.f .e) λf=>f r
def D4(i:Nat)(q:rR)(m:rQ rN):Prop:=∀d:Prop,(∀(b l u:Nat) (z:List Nat) (U:List sF) (g:List Int),us b z l u->(∃e,U=⟨b,z,l,u⟩::e) ->(∀N,N<max 1 (l/4) ->∃b3,zt U (b+4*N) b3) ->sU i g->m=rS (.c<|U.map sF.bG) (sM g q) ->d) ->d
theorem D4.mk{i:Nat}{q:rR}{m:rQ rN}{b:Nat}{l:Nat}{u:Nat}{U:List sF}{g:List Int}(d:us b z l u)(S:(∃e,U=⟨b,z,l,u⟩::e))(f:(∀N,N<max 1 (l/4) ->∃b3,zt U (b+4*N) b3))(h:sU i g)(j:m=rS (.c<|U.map sF.bG) (sM g q)):D4 i q m:=λ_ i=>i b l u z U g d S f h j
theorem LA(b5:sU i g)(e:i<=100000)(f:Bool):D4 (i+80) q (rW (a6+14) false 90 [.b 0,.d f]<|sM g q):=by
 cases f with
 |true=>
  exact JG b5 e _ λb l u z h a1 d m=>(.mk a1 ⟨_,B⟩ (λN a8=>⟨_,G8 a1 a8⟩) d m)
 |false=>
  refine JI (t:=a6+12) (q:=q) b5 e _ (λb l u z h a1 d m=>?_) λb l u a5 Y o z k h a1 j d m=>?_
  ·exact .mk a1 ⟨_,B⟩ (λN a8=>⟨_,G8 a1 a8⟩) d m
  ·exact .mk a1 ⟨_,B⟩ (λN a8=>⟨_,Ll a1 j a8⟩) d m
end
section
variable{a6:Nat}
theorem LB:yR (rM,rP):=λX c T x=>by
 refine wq (Ly (a6:=5) (q:=[]) (T:=T) (b6:=.rL<|ta) (a2:=.rL<|H rM) x c) λa5 q r a h y E=>?_;have L:=Li (a6:=5+11) (g:=q);have M:=Lj (a6:=5+11) (g:=q);have s:∀g,sM g [wW,.tw [],yc 0,.sr [],.tw []]=rO (BE g) []:=λ_=>B;refine LA (a6:=5) (q:=[wW,.tw [],yc 0,.sr [],.tw []]) y (af ..) c _ λb l u z U Y a0 O P R t=>?_;refine uO (t:=5+13) (a:=false) (q:=[wW,.tw [],yc 0,.sr [],.tw []]) (A:=max 1<|l/4) R (af ..) (ar fp<|Nat.le_max_left ..) _ λN a1 a8 S i=>?_;obtain⟨b3,k⟩:=P N a8;refine wp (Lz (a6:=5) (q:=[wW,.tw [],yc 0,.sr [],.tw []]) (T:=T) (b6:=.rL<|ta) (a2:=.rL<|H rM) (b8:=.rL<|.c<|a5.map sd) (Y:=r) (a4:=.rL<|.b 1) (p:=.rL<|.b 3) (n:=.rL<|.c<|U.map sF.bG) (t:=.rL<|H<|b+4*N) S (af ..) c) λj m v o V p=>?_;have b7:=Lm k v o;refine vT (Ls (a6:=5) (O:=[]) (T:=T) (Y:=r) (a4:=.rL<|.b 1) (⟨k,b7,⟨λn A N a8=>⟨aa (sz B) ((a n A).a N a8).1,ce ((a n A).a N a8).2<|af ..⟩,λn A=>⟨bb (a n A).b<|af ..,bb (a n A).b<|ar (sz B) b7.c⟩,aa h<|af ..,λf=>aa (bx 4<|bw h)<|aa (aa (sz B) b7.c) f⟩,v,o⟩) a h (G4 m) (Lk m) V (af ..) c) λa3 a9 W=>?_;have w:∀d,uY d (.c<|U.map sF.bG) (H 0)=D (vo b z l u):=λd=>O.elim λa2 e=>J e<|zl B<|af ..;rw[s]at t i p;rw[s]at i p;exact vK a3 a9 (sO (vQ .e λf=>f) (xV (yh E (yh (tg .e λf=>f) (sO (vQ (.d (H<|64*rM)<|.a _ _ .e) λf=>f (tF B) L) (sO (vQ (.a _ _ .e) λf=>f M) (sO (vQ (.a _ _ .e) λf=>f t) (sO (vQ (.d (vo b z l u)<|.f<|.d (vo b z l u)<|.f<|.d (H<|l/4)<|.d (H<|max 1<|l/4)<|.a _ _<|.d (H<|4*N)<|.f .e) λf=>f (w _) (w _) (wT<|af ..) CY i<|tF B) <|yh p<|yh (tg (.a _ _<|.a _ _ .e) λf=>f (k.n (5+12) _)<|xq<|G4 m) W))))))))
theorem LC(a0:List Int)(c:a0.length<=63):∃a9,rW 20 false 101 [.c<|a0.map rN.i] []=rS (.d true) a9:=by
 exact tP (Lv (a6:=5) c) λb j d e=>zr (Lw (a6:=5) (q:=[]) (T:=.rL<|.c<|a0.map rN.i) d b) λs A f a g h=>vT (Hf LB (s,A) a f b (.rL<|.c<|a0.map rN.i) g) λa3 a9 i=>⟨a9,t_ B B B<|yh e<|yh h i⟩
end
end C
theorem T3:Ee:=λa0 a=>C.LC a0 a
theorem T4:uq.Holds:=T2 T3
end
end Mine
theorem PySem.Challenge.cw_nu0106_01_holds : PySem.Challenge.rw_nu0106_01.Holds :=
 Mine.T4
