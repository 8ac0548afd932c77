import PyProof.Rows.All
import Wide.All
import OpenK.AllK
import Wide.FinOn
import PyProof.Rows.SortWalk
import KE.KDictSum
import PySem.Challenge.RW_nu0287_01
open Array renaming length_toList->cz,toList_append->f8,size_push->lP,getElem?_eq_getElem->mP,getElem?_eq_some_iff->nZ,getElem_toList->ot,getElem?_toList->qp,toList_extract->tN,size_setIfInBounds->wr,toList_push->wC,size_append->wP,toList_reverse->wX,toList_inj->Hw,mem_toList_iff->Hy,getElem?_eq_none_iff->HQ,perm_iff_toList_perm->Ij,toList_setIfInBounds->WO,forIn_toList->WW,size_extract->Xx,getElem?_extract->Xy
open Bool renaming and_eq_true->bO,or_eq_true->gR,and_eq_true_iff->iO,false_eq_true->ko,not_eq_true'->mF,eq_false_iff->mL,or_false->A_,or_eq_false_iff->Bv,or_eq_true_iff->Hn,beq_comm->H9,noConfusion->Ia,true_and->Wu,false_ne_true->WH
open Classical renaming byContradiction->Hi
open Empty renaming elim->wL
open Eq renaming trans->Bq
open ForInStep renaming yield->qy,done->wW
open Int renaming le_refl->mQ,ofNat_lt->nU,ofNat_le->p9,natCast_nonneg->tv,fmod_nonneg_of_pos->wM,le_trans->wO,natCast_add->AG,add_assoc->AH,fmod_lt_of_pos->Bs,le_of_eq->He,not_lt->Hf,not_le->Hg,toNat_of_nonneg->Hj,eq_ofNat_of_zero_le->Ib,add_le_add_right->Wh,toNat_natCast->WT,le_add_of_nonneg_right->Xg,max_eq_right->Xk
open Int.ofNat renaming inj->s4
open LawfulBEq renaming eq_of_beq->bI
open List renaming length_map->bD,length_append->bE,getElem?_eq_getElem->bJ,getElem?_eq_some_iff->bR,mem_cons->ca,append_assoc->cr,append_nil->cV,all_eq_true->c0,replicate->dq,lookup_cons->dw,mem_singleton->dW,lookup->dY,map_append->eF,flatMap_cons->fC,pairwise_append->fO,not_mem_nil->f4,getElem?_map->f_,mem_map->ig,getElem?_eq_none->ik,mem_append->iQ,mem_of_getElem?->iT,length_replicate->iZ,length_zip->jG,flatMap_append->jI,length_cons->jJ,length_take->jK,mem_append_right->j9,map_cons->kn,mem_flatMap->lI,lookup_cons_self->lK,length_drop->lQ,mem_append_left->mG,getElem?_append_left->mH,getElem?_append_right->mI,nodup_cons->mK,take_length->mR,size_toArray->nY,nodup_append->n0,getElem_of_mem->n_,length_nil->oh,getElem?_set_ne->qe,of_mem_zip->qj,replicate_succ->qm,zip_cons_cons->qt,getElem?_eq_none_iff->qu,range'->qA,take_append_drop->qE,take_of_length_le->qF,mem_of_mem_drop->qH,ext_getElem?->s8,reverse_cons->tz,exists_cons_of_length_eq_add_one->tH,take_add_one->tI,sublist_append_left->tJ,pairwise_cons->tO,getElem?_set_self->wj,flatten_cons->wy,forIn_cons->wI,getD_eq_getElem?_getD->wK,nil_sublist->wN,flatMap_def->wQ,nil_append->wR,mem_of_mem_take->wS,take_sublist->wT,all_cons->AK,findIdx?_cons->AW,length_eq_zero_iff->Be,mem_reverse->Bg,map->Bm,contains_iff_mem->Bp,getElem_mem->Bt,take->BB,getElem_drop->BC,reverse_append->BE,mem_iff_getElem?->Hk,mem_filterMap->Hl,zip_nil_right->Hm,getElem?_toArray->HA,getElem?_zip_eq_some->HY,flatten_append->Ic,getElem_cons_drop->Id,flatMap_nil->Ie,perm_append_comm->Ig,drop_drop->Ih,reverse_perm->Im,pairwise_reverse->Io,reverse_reverse->Ip,getElem_take->Iq,any_eq_true->Wi,drop_nil->Wm,take_nil->Wn,append_eq_nil_iff->Wo,toList_toArray->Wr,foldl_cons->Ws,any_cons->WK,set_append_right->WL,length_set->WM,length_reverse->WN,forIn_nil->WY,isEmpty_nil->W',isEmpty_iff->Xa,nodup_nil->Xb,filterMap_cons_some->Xc,lookup_append->Xd,eq_nil_of_length_eq_zero->Xe,cons_append->Xi,map_take->Xj,drop_take->Xl,getElem?_drop->Xm,length_eq_one_iff->Xn,pairwise_iff_getElem->Xu,take_succ_eq_append_getElem->Xv,take_add->Xw
open List.Perm renaming refl->Bu
open List.Sublist renaming refl->il,nodup->qG
open List.cons renaming injEq->WG
open Min renaming min->fZ
open Nat renaming le_trans->aG,le_refl->aS,le_of_lt->dU,le_add_right->eC,lt_of_lt_of_le->eS,zero_add->fm,lt_succ_self->f9,le_of_ble_eq_true->gj,ne_of_lt->gN,le_succ->gS,not_lt->iP,lt_of_le_of_lt->iR,ne_of_beq_eq_false->jz,succ_le_succ->kq,le_of_eq->kA,mul_le_mul_right->lG,add_assoc->lH,zero_le->lN,add_sub_cancel_left->og,sub_le->oi,lt_irrefl->p_,min_eq_left->qc,ne_of_gt->qd,le_add_left->qB,succ_mul->qC,add_le_add_left->qD,one_pos->qK,noConfusion->sX,mul_add->sY,add_le_add->sZ,lt_trans->s6,min_le_left->tE,min_le_right->tK,lt_of_succ_lt->tP,le_of_not_le->wi,lt_of_le_of_ne->wU,add_right_comm->AJ,min_eq_right->AL,le_total->AM,max_eq_right->AN,add_sub_assoc->Bx,zero_mul->Hd,not_lt_zero->HX,min_self->H8,lt_succ_of_lt->Ii,add_add_add_comm->Wd,add_le_add_right->We,mul_le_mul_left->Wf,add_sub_of_le->Wg,sub_eq_zero_of_le->Wj,max_eq_left->Wk,le_max_left->Wl,le_antisymm->Xf,le_of_lt_succ->Xo,le_max_right->Xp,add_sub_cancel->Xt
open Nat.succ renaming inj->bX
open Ne renaming symm->ch
open Option renaming none->gM,bind_eq_some_iff->ii,map_eq_some_iff->ij,isSome_iff_exists->qf,some->tC,map_some->Ba,map_eq_none_iff->Wz,bind_some->WJ
open Option.some renaming inj->ao,injEq->s9
open Prod.mk renaming inj->W_
open PyProof.Rows renaming arrOf->az,wpS_bind->aM,SortSt->aO,wpS_pure->aT,wpS->bU,Keyed->d6,elem'->d7,pendingOf->eG,wpS_forRange->gu,oneType'->gT,gallopOf->i8,wpS_mono->jL,wpS_get->kB,SortedToK->lR,wpS_modify->mS,get?_update_seq->n6,failedOf->om,KeyKind->oq,wpS_lift->qJ,setArr->tL,seqObj->tR,StrsAre->wY,subscriptTail->AY,tail_any->AZ,reverseSlice'->By,wpS_reverse->Bz,mirror_perm->BA,mergeAt'->BF,KK_mirror_equal->Ik,pairsOf_size->Ir
open PyProof.Rows.KeyOrd renaming kle_of_klt->i7,kle_refl->qI,kle_trans->tM,kle->tQ,klt->BD,kle_antisymm->Xr
open PySem renaming Str->aa,model->aq,Value->ay,wpAny->aJ,wpAny_pure->aK,Heap->aW,Expr->aY,Sem->a_,eval->br,ret->bz,sizeLine->bH,Shared->bS,World->cN,wpAny_holding->da,compEnvC->dz,Env->dE,rawInt->dN,Program->dO,step->dX,starEach->d4,codeAny->eU,assignEach->eV,Pos->fp,Around->fu,Stmt->fw,backTo->fy,sizeLine_eq->fA,Addr->fN,mainGlobals->f7,findBy->gm,callEnvC->gP,compareOp->gQ,DictEntry->iS,wpAny_field->iU,binaryOp->iV,wpAny_mono->iY,sysModules->jA,wpAny_standAt->jB,clipAt->jF,rule->j_,Model->kg,strKind_is->ku,swappedStores->kz,wpAny_rule->lJ,backToKw->lL,keywordEach->lM,swapsWithSole->mM,foldedSetIterable->mN,closureFor->mO,holding->nX,assign->n8,pyNext->n9,wpAny_newObj_type->qg,wpAny_call->qh,callWith->qk,attributeBase->ql,letOwnedTupleGo->qv,IsPair->qw,builtinsNs->s7,methodCallForm->s_,methodCallPos->tc,typeOf->tw,lookup_relabel_local->tD,isSubtype->tF,wpAny_loadPart_at->tG,setFlight->wo,wpAny_setField->wp,NameKind->wt,Keyword->ww,getAttr->wx,wpAny_call_entry->wA,getItem->wB,Builtin->wD,swapsWith->wG,ZipApart->wH,wpAny_release->AP,bootBuiltins->AQ,typeLookup->AX,slot_dict_getitem->A0,wpAny_getItem_of->A3,call_meetsIn->A5,wpAny_attempt->A7,isInstance->A8,wpAny_loadPart->A',bindName->Bc,execs_cons->Bf,wpAny_updateSeq->Bk,contains->Bl,FuncData->Bo,isCodeTable->Bw,behindInMarks->Hr,arm_eval_Call->Hs,methodCall->Ht,wpAny_truthy_bool->Hu,call_meets->Hv,wpAny_callSpecial?_slot->Hz,getMethod_builtin->HB,wpAny_dictGet_of->HD,codeAny_call_builtin->HG,wpAny_bindName->HJ,arm_exec_Return->HK,arm_exec_Assign->HL,arm_assign_Tuple->HM,IsRangeIter->HN,arm_assign_Name->HR,eval_ListComp->HS,wpAny_seqItems->HT,wpAny_nextOf_list_item->HU,wpAny_newTuple->HV,wpAny_specialOf->HW,slot_dict_contains->HZ,checkBuiltinCall->H0,Comprehension->H6,unsupported->Il,wpAny_storeName_local->Wp,markedBehindIn_of_false->Wq,slot_dict_setitem->WB,wpAny_missed_other->WE,codeAny_forLoop_any->WR,wpAny_newFunctionEnv->WS,wpAny_nextOf_list_end->WZ,builtinLookup_eq_fast->W2,wpAt_bind->W8,wpAt_of_wpAny->W9
open PySem.Around renaming under_plainId->W1
open PySem.Builtin.List renaming listTooLong->Wt,listSameRef->W3
open PySem.Builtin.ObjectAttr renaming storeInOwnDict->WI
open PySem.Builtin.Range renaming rangeSize->WP,small->WQ
open PySem.Builtin.SmallTypes renaming ownedTupleIsFree->XA
open PySem.Calls renaming evalArgs_plain->AR,Name_function_global->Ho
open PySem.Challenge renaming pw_nu0287_01->XB,rw_nu0287_01->XC
open PySem.Code renaming builtin->Bb,quiet_builtin->W7
open PySem.Data renaming noConfusion->wl
open PySem.Expr renaming Name->gp
open PySem.F renaming slot_dict_get->wE,slot_zip_next->Bh,plain_extend_loop->Bi,entry_dict_get->HE,excBase_ValueError->H4,plainAttrs_dict->WC,slot_list_extend->WD,slot_dict_items->WF,entry_zip_next->WU,args_zip_next_1->WV,entry_extend_loop->W0,args_dict_get_3->W4,type_dict_get->W5
open PySem.Heap renaming get?_push_of_some->cO,lt_size->du,get?_push_size->dZ,SameBut->fq,get?_update_self->mJ,size_push->A4,get?_update_other->Bj
open PySem.Heap.SameBut renaming update->kh
open PySem.Manifest renaming isStub->W6
open PySem.NameKind renaming free->gq,cell->H7
open PySem.Obj renaming mapFields->jC,mapSeq->qx,isFreed_of_fields->wq,data_mapFields->AO,isFreed_of_dict->WA
open PySem.PyData renaming strOk->iW,eqvAll->jD,keyHash->nV,canLay0->td,depth->tj,eqv->wz,canLayAll0->AT,depthAll->Hx,tuple->Wv,list->Ww,none->Wx,bool->Wy
open PySem.SeqAt renaming shaped->AU
open PySem.Str renaming ofString->qz,empty->AS
open PySem.Value renaming isStrOf->cE,none->gk,ref->gO,noConfusion->tu,isStrOf_shape->A6,builtin->HF
open PySem.Value.ref renaming inj->HC
open PySem.Value.type renaming inj->HP
open PySem.W renaming Frag->aE,Looks->d5,findIn->fB,same->gr,emptyDict->iX,envX->jH,mroIn->lO,instObj->nW,looks_mroIn->n7,plainGet->qo,clsIn->qr,findCls->qs,specialIn->tm,looks_findIn->tx,codeIn->wu,callWith_of->wv,handedIn->wF,KeysLit->wJ,tabObj->wV,hasDictIn->AV,looks_clsIn->A9,check_slot->HH,plainGet_of->HI,codeHd_of_K->H_
open PySem.W.Looks renaming ld->Bn,of_pure->H5
open PySem.W.WShape renaming hasItems->Xq
open ToString renaming toString->jE
open PySem PySem.W PyProof.Rows PySem.Calls
set_option maxRecDepth 100000
set_option maxHeartbeats 8000000
set_option linter.all false
set_option Elab.async false
set_option tactic.hygienic false
set_option bootstrap.genMatcherCode false
set_option compiler.extract_closed false
noncomputable section
namespace Mine.Internal
set_option genCtorIdx false
set_option backward.match.sparseCases false
set_option genSizeOf false
set_option genSizeOfSpec false
set_option genInjectivity false
theorem bh{G:Prop}(h:∀R:Prop,(G->R)->R):G:=h G id
theorem xE{A:b->Prop}{G:Prop}(h:∃x,A x)(k:∀x,A x->G):G:=by obtain⟨x,a⟩:=h;exact k x a
theorem xA{G:Prop}(h:A/\a)(k:A->a->G):G:=by obtain⟨b,b'⟩:=h;exact k b b'
theorem ad{A a:c->Prop}{G:Prop}(h:∃x,A x/\a x)(k:∀x,A x->a x->G):G:=by obtain⟨x,b,b'⟩:=h;exact k x b b'
theorem fD{A:b->c->Prop}{G:Prop}(h:∃x,∃y,A x y)(k:∀x,∀y,A x y->G):G:=by obtain⟨x,y,a⟩:=h;exact k x y a
theorem bZ{A a:c->d->Prop}{G:Prop}(h:∃x,∃y,A x y/\a x y)(k:∀x,∀y,A x y->a x y->G):G:=by obtain⟨x,y,b,b'⟩:=h;exact k x y b b'
theorem bN{G:Prop}(h:A/\a/\C)(k:A->a->C->G):G:=by obtain⟨b,b',c⟩:=h;exact k b b' c
theorem ui{A:c->d->γ->Prop}{G:Prop}(h:∃x,∃y,∃a,A x y a)(k:∀x,∀y,∀a,A x y a->G):G:=by obtain⟨x,y,a,b⟩:=h;exact k x y a b
theorem c_{A a C:d->Prop}{G:Prop}(h:∃x,A x/\a x/\C x)(k:∀x,A x->a x->C x->G):G:=by obtain⟨x,b,b',c⟩:=h;exact k x b b' c
theorem cT{A a C b:f->Prop}{G:Prop}(h:∃x,A x/\a x/\C x/\b x)(k:∀x,A x->a x->C x->b x->G):G:=by obtain⟨x,c,b',d,e⟩:=h;exact k x c b' d e
theorem fW{A b:d->e->γ->Prop}{G:Prop}(h:∃x,∃y,∃a,A x y a/\b x y a)(k:∀x,∀y,∀a,A x y a->b x y a->G):G:=by obtain⟨x,y,a,c,b'⟩:=h;exact k x y a c b'
theorem eJ{A b C:e->f->γ->Prop}{G:Prop}(h:∃x,∃y,∃a,A x y a/\b x y a/\C x y a)(k:∀x,∀y,∀a,A x y a->b x y a->C x y a->G):G:=by obtain⟨x,y,a,c,b',d⟩:=h;exact k x y a c b' d
theorem fQ{A a C:d->e->Prop}{G:Prop}(h:∃x,∃y,A x y/\a x y/\C x y)(k:∀x,∀y,A x y->a x y->C x y->G):G:=by obtain⟨x,y,b,b',c⟩:=h;exact k x y b b' c
theorem cW{G:Prop}(h:A/\a/\C/\b)(k:A->a->C->b->G):G:=by obtain⟨c,b',d,e⟩:=h;exact k c b' d e
theorem gF{a C:d->e->Prop}{G:Prop}(h:A/\∃x,∃y,a x y/\C x y)(k:A->∀x,∀y,a x y->C x y->G):G:=by obtain⟨b,x,y,b',c⟩:=h;exact k b x y b' c
theorem eZ{A c:e->f->γ->g->Prop}{G:Prop}(h:∃x,∃y,∃a,∃b,A x y a b/\c x y a b)(k:∀x,∀y,∀a,∀b,A x y a b->c x y a b->G):G:=by obtain⟨x,y,a,b,d,b'⟩:=h;exact k x y a b d b'
theorem mz{A a C b:f->g->Prop}{G:Prop}(h:∃x,∃y,A x y/\a x y/\C x y/\b x y)(k:∀x,∀y,A x y->a x y->C x y->b x y->G):G:=by obtain⟨x,y,c,b',d,e⟩:=h;exact k x y c b' d e
theorem hZ{G:Prop}(h:A/\a/\C/\b/\E)(k:A->a->C->b->E->G):G:=by obtain⟨c,b',d,e,f⟩:=h;exact k c b' d e f
theorem uK{a C b:f->g->Prop}{G:Prop}(h:A/\∃x,∃y,a x y/\C x y/\b x y)(k:A->∀x,∀y,a x y->C x y->b x y->G):G:=by obtain⟨c,x,y,b',d,e⟩:=h;exact k c x y b' d e
theorem nJ{a C b E:g->i->Prop}{G:Prop}(h:A/\∃x,∃y,a x y/\C x y/\b x y/\E x y)(k:A->∀x,∀y,a x y->C x y->b x y->E x y->G):G:=by obtain⟨c,x,y,b',d,e,f⟩:=h;exact k c x y b' d e f
theorem jY{A b C c:g->i->γ->Prop}{G:Prop}(h:∃x,∃y,∃a,A x y a/\b x y a/\C x y a/\c x y a)(k:∀x,∀y,∀a,A x y a->b x y a->C x y a->c x y a->G):G:=by obtain⟨x,y,a,d,b',e,f⟩:=h;exact k x y a d b' e f
theorem sP{a C:d->Prop}{G:Prop}(h:A/\∃x,a x/\C x)(k:A->∀x,a x->C x->G):G:=by obtain⟨b,x,b',c⟩:=h;exact k b x b' c
theorem k_{C a:f->Prop}{G:Prop}(h:A/\b/\∃x,C x/\a x)(k:A->b->∀x,C x->a x->G):G:=by obtain⟨c,b',x,d,e⟩:=h;exact k c b' x d e
theorem kJ{C a:f->g->Prop}{G:Prop}(h:A/\b/\∃x,∃y,C x y/\a x y)(k:A->b->∀x,∀y,C x y->a x y->G):G:=by obtain⟨c,b',x,y,d,e⟩:=h;exact k c b' x y d e
theorem ji{A c:e->f->γ->g->i->Prop}{G:Prop}(h:∃x,∃y,∃a,∃b,∃v,A x y a b v/\c x y a b v)(k:∀x,∀y,∀a,∀b,∀v,A x y a b v->c x y a b v->G):G:=by obtain⟨x,y,a,b,v,d,b'⟩:=h;exact k x y a b v d b'
theorem je{A a C b E:g->i->Prop}{G:Prop}(h:∃x,∃y,A x y/\a x y/\C x y/\b x y/\E x y)(k:∀x,∀y,A x y->a x y->C x y->b x y->E x y->G):G:=by obtain⟨x,y,c,b',d,e,f⟩:=h;exact k x y c b' d e f
theorem ak{A a:c->Prop}x(b:A x)(b':a x):∃x,A x/\a x:=⟨x,b,b'⟩
theorem iI{A:b->c->Prop}x y(a:A x y):∃x,∃y,A x y:=⟨x,y,a⟩
theorem bQ{A a:c->d->Prop}x y(b:A x y)(b':a x y):∃x,∃y,A x y/\a x y:=⟨x,y,b,b'⟩
theorem aX(a:A)(b':b)(c:C):A/\b/\C:=⟨a,b',c⟩
theorem p7{A:c->d->γ->Prop}x y a(b:A x y a):∃x,∃y,∃a,A x y a:=⟨x,y,a,b⟩
theorem bn{A a C:d->Prop}x(b:A x)(b':a x)(c:C x):∃x,A x/\a x/\C x:=⟨x,b,b',c⟩
theorem dS{A a C b:f->Prop}x(c:A x)(b':a x)(d:C x)(e:b x):∃x,A x/\a x/\C x/\b x:=⟨x,c,b',d,e⟩
theorem k8{A b:d->e->γ->Prop}x y a(c:A x y a)(b':b x y a):∃x,∃y,∃a,A x y a/\b x y a:=⟨x,y,a,c,b'⟩
theorem nu{A b C:e->f->γ->Prop}x y a(c:A x y a)(b':b x y a)(d:C x y a):∃x,∃y,∃a,A x y a/\b x y a/\C x y a:=⟨x,y,a,c,b',d⟩
theorem fU{A a C:d->e->Prop}x y(b:A x y)(b':a x y)(c:C x y):∃x,∃y,A x y/\a x y/\C x y:=⟨x,y,b,b',c⟩
theorem bA(a:A)(b':b)(c:C)(d:e):A/\b/\C/\e:=⟨a,b',c,d⟩
theorem ir{a C:d->e->Prop}(b:A)x y(b':a x y)(c:C x y):A/\∃x,∃y,a x y/\C x y:=⟨b,x,y,b',c⟩
theorem pK{A c:e->f->γ->g->Prop}x y a b(d:A x y a b)(b':c x y a b):∃x,∃y,∃a,∃b,A x y a b/\c x y a b:=⟨x,y,a,b,d,b'⟩
theorem kN{A a C b:f->g->Prop}x y(c:A x y)(b':a x y)(d:C x y)(e:b x y):∃x,∃y,A x y/\a x y/\C x y/\b x y:=⟨x,y,c,b',d,e⟩
theorem mW(a:A)(b':b)(c:C)(d:e)(f:E):A/\b/\C/\e/\E:=⟨a,b',c,d,f⟩
theorem jZ{a C b:f->g->Prop}(c:A)x y(b':a x y)(d:C x y)(e:b x y):A/\∃x,∃y,a x y/\C x y/\b x y:=⟨c,x,y,b',d,e⟩
theorem oX{a C b E:g->h->Prop}(c:A)x y(b':a x y)(d:C x y)(e:b x y)(f:E x y):A/\∃x,∃y,a x y/\C x y/\b x y/\E x y:=⟨c,x,y,b',d,e,f⟩
theorem dK{A b C c:g->h->γ->Prop}x y a(d:A x y a)(b':b x y a)(e:C x y a)(f:c x y a):∃x,∃y,∃a,A x y a/\b x y a/\C x y a/\c x y a:=⟨x,y,a,d,b',e,f⟩
theorem fh{a C:d->Prop}(b:A)x(b':a x)(c:C x):A/\∃x,a x/\C x:=⟨b,x,b',c⟩
theorem qZ{C a:f->Prop}(b:A)(b':c)x(d:C x)(e:a x):A/\c/\∃x,C x/\a x:=⟨b,b',x,d,e⟩
theorem kG{C a:f->g->Prop}(b:A)(b':c)x y(d:C x y)(e:a x y):A/\c/\∃x,∃y,C x y/\a x y:=⟨b,b',x,y,d,e⟩
theorem lu{A c:e->f->γ->g->h->Prop}x y a b v(d:A x y a b v)(b':c x y a b v):∃x,∃y,∃a,∃b,∃v,A x y a b v/\c x y a b v:=⟨x,y,a,b,v,d,b'⟩
theorem iu{A a C b E:g->h->Prop}x y(c:A x y)(b':a x y)(d:C x y)(e:b x y)(f:E x y):∃x,∃y,A x y/\a x y/\C x y/\b x y/\E x y:=⟨x,y,c,b',d,e,f⟩
@[elab_as_elim] theorem Y{P:c->Prop}(h:a=b)(x:P b):P a:=by rw[h];exact x
@[elab_as_elim] theorem ae{P:c->Prop}(h:a=b)(x:P a):P b:=by rw[<-h];exact x
theorem gd{G:Prop}(c:(a&&b)=true)(d:a=true->b=true->G):G:=let q:=iO.mp c;d q.1 q.2
theorem D5{G:Prop}(d:(a&&b&&c)=true)(e:a=true->b=true->c=true->G):G:=gd d λq f=>gd q λg h=>e g h f
theorem o6{G:Prop}(e:(a&&b&&c&&d)=true)(f:a=true->b=true->c=true->d=true->G):G:=gd e λq g=>D5 q λh i j=>f h i j g
theorem Tu{G:Prop}(f:(a&&b&&c&&d&&e)=true)(g:a=true->b=true->c=true->d=true->e=true->G):G:=gd f λq h=>o6 q λi j k l=>g i j k l h
theorem ET{G:Prop}(g:(a&&b&&c&&d&&e&&f)=true)(h:a=true->b=true->c=true->d=true->e=true->f=true->G):G:=gd g λq i=>Tu q λj k l m n=>h j k l m n i
theorem Mv{G:Prop}(h:(a&&b&&c&&d&&e&&f&&g)=true)(i:a=true->b=true->c=true->d=true->e=true->f=true->g=true->G):G:=gd h λq j=>ET q λk l m n o p=>i k l m n o p j
theorem Pl{G:Prop}(i:(a&&b&&c&&d&&e&&f&&g&&h)=true)(j:a=true->b=true->c=true->d=true->e=true->f=true->g=true->h=true->G):G:=gd i λq k=>Mv q λl m n o p r s=>j l m n o p r s k
theorem x_{G:Prop}(j:(a&&b&&c&&d&&e&&f&&g&&h&&i)=true)(k:a=true->b=true->c=true->d=true->e=true->f=true->g=true->h=true->i=true->G):G:=gd j λq l=>Pl q λm n o p r s t v=>k m n o p r s t v l
theorem ut{G:Prop}(k:(a&&b&&c&&d&&e&&f&&g&&h&&i&&j)=true)(l:a=true->b=true->c=true->d=true->e=true->f=true->g=true->h=true->i=true->j=true->G):G:=gd k λq m=>x_ q λn o p r s t v w x=>l n o p r s t v w x m
theorem O0{G:Prop}(m:(a&&b&&c&&d&&e&&f&&g&&h&&i&&j&&k)=true)(n:a=true->b=true->c=true->d=true->e=true->f=true->g=true->h=true->i=true->j=true->k=true->G):G:=gd m λq o=>ut q λp r s t v w x y A l=>n p r s t v w x y A l o
theorem Qu{G:Prop}(o:(a&&b&&c&&d&&e&&f&&g&&h&&i&&j&&k&&l)=true)(p:a=true->b=true->c=true->d=true->e=true->f=true->g=true->h=true->i=true->j=true->k=true->l=true->G):G:=gd o λq r=>O0 q λs t v w x y A C H m n=>p s t v w x y A C H m n r
theorem ns{G:Prop}(h:none=some a):G:=by injection h
theorem sn{G:Prop}(h:some a=none):G:=by injection h
theorem ft{G:Prop}(h:false=true):G:=by injection h
theorem tf{G:Prop}(h:true=false):G:=by injection h
theorem cU[Decidable c]{G:Prop}(h:(if c then a else none)=some b)(k:c->a=some b->G):G:=by by_cases q:c;exact k q ((if_pos q).symm.trans h);exact ns ((if_neg q).symm.trans h)
theorem DC[Decidable c]{G:Prop}(h:(if c then none else a)=some b)(k:¬c->a=some b->G):G:=by by_cases q:c;exact ns ((if_pos q).symm.trans h);exact k q ((if_neg q).symm.trans h)
theorem h_{f:a->Option c}{G:Prop}(h:o.bind f=some b)(k:∀x,o=some x->f x=some b->G):G:=by rcases o with _|x;exact ns h;exact k x rfl h
theorem rh{f:a->c}{G:Prop}(h:o.map f=some b)(k:∀x,o=some x->f x=b->G):G:=by rcases o with _|x;exact ns h;exact k x rfl (ao h)
theorem vf{G:Prop}(h:o.any f=true)(k:∀x,o=some x->f x=true->G):G:=by rcases o with _|x;exact ft h;exact k x rfl h
theorem VA{G:Prop}(h:xs.length=2)(k:∀a b,xs=[a,b]->G):G:=by rcases xs with _|⟨a,_|⟨b,_|_⟩⟩;exact absurd h (jz rfl);exact absurd h (jz rfl);exact k a b rfl;exact sX (bX (bX h))
theorem vP{P:List d->List e->Prop}(a:P [] [])(b:∀x xs y ys,P xs ys->P (x::xs) (y::ys)):∀{ys},xs.length=ys.length->P xs ys:=by induction xs with
 |nil=>
 intro ys h;rcases ys with _|⟨y,ys⟩;exact a
 ·exact sX h
 |cons x xs c=>intro ys h;rcases ys with _|⟨y,ys⟩;exact sX h;exact b _ _ _ _ (c (bX h))
theorem nt(h:(!a)=true):a=false:=(mF a).mp h
namespace Ar
def dot:List Nat->List Nat->Nat:=λc=>c.rec (λa=>0) λc a b e=>c*e.headD 0+b e.tail
structure Ln where
 c:Nat
 l:List Nat
def Ln.ev(e:List Nat)(x:Ln):=x.c+dot x.l e
def oC:List Nat->List Nat->List Nat:=λa=>a.rec (λb=>b) λx xs c b=>b.casesOn (x::xs) λy ys=>(x+y)::c ys
theorem Vj a:∀b e,dot (oC a b) e=dot a e+dot b e:=by induction a with
 |nil=>exact λb e=>(fm _).symm
 |cons x xs c=>intro b e;rcases b with _|⟨y,ys⟩;rfl;refine(?_:(x+y)*e.headD 0+dot (oC xs ys) e.tail=(x*e.headD 0+dot xs e.tail)+(y*e.headD 0+dot ys e.tail));exact Y (c _ _)<|Y (Nat.add_mul _ _ _)<|Y (Wd _ _ _ _) rfl
def Ln.add(a b:Ln):Ln:=⟨a.c+b.c,oC a.l b.l⟩
theorem Ln.eI(a b:Ln)e:(a.add b).ev e=a.ev e+b.ev e:=by refine(?_:(a.c+b.c)+dot (oC a.l b.l) e=_);refine Y (Vj _ _ _)<|Y (Wd _ _ _ _) ?_;rfl
def mulL(k:Nat):List Nat->List Nat:=λa=>a.rec [] λx c b=>k*x::b
theorem S6 k a:∀e,dot (mulL k a) e=k*dot a e:=by induction a with
 |nil=>exact λe=>rfl
 |cons x xs b=>refine λe=>(?_:k*x*e.headD 0+dot (mulL k xs) e.tail=k*(x*e.headD 0+dot xs e.tail));exact Y (b _)<|Y (sY _ _ _)<|Y (Nat.mul_assoc _ _ _) rfl
def Ln.mul(k:Nat)(a:Ln):Ln:=⟨k*a.c,mulL k a.l⟩
theorem Ln.sk k(a:Ln)e:(a.mul k).ev e=k*a.ev e:=by refine(?_:k*a.c+dot (mulL k a.l) e=_);exact Y (S6 _ _ _)<|(sY _ _ _).symm
noncomputable def Ln.tl(a:Ln):Ln:=⟨a.c,a.l.tail⟩
noncomputable def Ln.hd(a:Ln):=a.l.headD 0
theorem Ln.C4(a:Ln)e:a.ev e=a.hd*e.headD 0+a.tl.ev e.tail:=by obtain⟨c,l⟩:=a;rcases l with _|⟨x,xs⟩;refine(?_);exact Y (Hd _)<|Y (fm _) rfl;refine(?_);exact Y (Nat.add_left_comm _ _ _) rfl
structure Cn where
 a:Ln
 b:Ln
def Cn.ok(e:List Nat)(c:Cn):=c.a.ev e<=c.b.ev e
def Cn.tl(c:Cn):Cn:=⟨c.a.tl,c.b.tl⟩
def comb(p n:Cn):Cn:=⟨((p.a.mul (n.a.hd- n.b.hd)).add (n.a.mul (p.b.hd- p.a.hd))).tl,((p.b.mul (n.a.hd- n.b.hd)).add (n.b.mul (p.b.hd- p.a.hd))).tl⟩
def elim(l:List Cn):=l.flatMap λc=>if c.a.hd<c.b.hd then(l.filter λn=>Nat.blt n.b.hd n.a.hd).map (comb c)else[c.tl]
def un:Nat->List Cn->Bool:=λn=>n.rec (λl=>l.any λc=>(c.b.l.all λx=>Nat.beq x 0)&&Nat.blt c.b.c c.a.c) λb a l=>a (elim l)
theorem CH(a b:Ln):(a.add b).hd=a.hd+b.hd:=by obtain⟨c,l⟩:=a;obtain⟨d,m⟩:=b;rcases l with _|⟨x,xs⟩;exact(fm _).symm;rcases m with _|⟨y,ys⟩;rfl;rfl
theorem v6 k(a:Ln):(a.mul k).hd=k*a.hd:=by obtain⟨c,l⟩:=a;rcases l with _|⟨x,xs⟩;rfl;rfl
theorem E9{c:Cn}(h:c.ok e)(l:c.b.hd<=c.a.hd):c.tl.ok e.tail:=by unfold Cn.ok at h;rw[Ln.C4,Ln.C4 c.b]at h;exact Nat.le_of_add_le_add_left (aG (We (lG (e.headD 0) l) _) h)
theorem Km(a:p.ok e)(b:n.ok e)(c:p.a.hd<p.b.hd)(d:n.b.hd<n.a.hd):(comb p n).ok e.tail:=by
 have h:Cn.ok e ⟨(p.a.mul (n.a.hd- n.b.hd)).add (n.a.mul (p.b.hd- p.a.hd)),(p.b.mul (n.a.hd- n.b.hd)).add (n.b.mul (p.b.hd- p.a.hd))⟩:=by unfold Cn.ok;simp only[Ln.eI,Ln.sk];exact sZ (Wf _ a) (Wf _ b)
 refine E9 h<|(?_);refine Y (CH _ _)<|Y (CH _ _)<|Y (v6 _ _)<|Y (v6 _ _)<|Y (v6 _ _)<|Y (v6 _ _) ?_;have f:=Wg (dU c);have g:=Wg (dU d);generalize p.b.hd- p.a.hd=k at*;generalize n.a.hd- n.b.hd=m at*;exact ae f<|ae g<|Y (sY _ _ _)<|Y (sY _ _ _)<|Y (Nat.mul_comm m k)<|Y (lH _ _ _)<|Y (Nat.add_comm (k*m) _)<|aS _
theorem iadd{x y:Int}{b p d q:Nat}(a:x+b=p)(c:y+d=q):x+y+((b+d:Nat):Int)=((p+q:Nat):Int):=Y (AG _ _)<|Y (AG _ _)<|ae a<|ae c<|Y (AH _ _ _)<|Y (Int.add_left_comm y _ _)<|ae (AH _ _ _) rfl
theorem Ek{x:Int}{b p:Nat}(h:x+b=p): -x+(p:Int)=b:=ae h<|Y (Int.neg_add_cancel_left _ _) rfl
theorem D4{x y:Int}{b p d q:Nat}(a:x+b=p)(c:y+d=q):x- y+((b+q:Nat):Int)=((p+d:Nat):Int):=iadd a (Ek c)
theorem va{x y b p d q:Nat}(a:(x:Int)+b=p)(c:(y:Int)+d=q)(h:y<=x):q+b<=p+d:=ae (s4 a)<|ae (s4 c)<|Y (AJ y _ _)<|Y (AJ x _ _)<|Y (AJ x _ _)<|Y (lH _ _ _)<|Y (lH x _ _)<|We h _
theorem klt{k:Int}{a b:Nat}(h:x<y)(c:x+k=a)(d:y+k=b):a<b:=nU.mp (ae c<|ae d<|Int.add_lt_add_right h k)
theorem kle{k:Int}{a b:Nat}(h:x<=y)(c:x+k=a)(d:y+k=b):a<=b:=p9.mp (ae c<|ae d<|Wh h k)
theorem OH n:∀l e,un n l=true->(∀c∈l,c.ok e)->False:=by induction n with
 |zero=>
 intro l e h b;obtain⟨c,a,h⟩:=Wi.mp h;rw[bO]at h;have j:c.b.ev e=c.b.c:=by
  have:∀(l)(e),(l.all λx=>Nat.beq x 0)=true->dot l e=0:=λl=>by induction l with
  |nil=>exact λe o=>rfl
  |cons x xs f=>intro e h;rw[AK,bO]at h;refine Y (Nat.eq_of_beq_eq_true h.1)<|(?_:0*_+dot xs e.tail=0);exact Y (f _ h.2)<|Y (Hd _) rfl
  refine(?_:c.b.c+dot c.b.l e=_);refine Y (this _ _ h.1) ?_;rfl
 have d:c.a.ev e<=c.b.ev e:=b c a;have g:=gj h.2;rw[j]at d;exact p_ _ (eS g (aG (eC _ _) d))
 |succ n f=>refine λl e h b=>f (elim l) e.tail h λc a=>?_;obtain⟨p,i,a⟩:=lI.mp a;by_cases q:p.a.hd<p.b.hd;rw[if_pos q]at a;obtain⟨m,k,rfl⟩:=ig.mp a;obtain⟨d,g⟩:=List.mem_filter.mp k;exact Km (b _ i) (b _ d) q (gj g);rw[if_neg q]at a;exact Y (dW.mp a)<|E9 (b _ i) (iP.mp q)
inductive N where
 |v (i:Nat)
 |k (n:Nat)
 |a (x y:N)
 |m (k:Nat) (x:N)
 |r (x:N) (k:Nat)
 |s (x y:N)
 |mn (x y:N)
def N.den(e:List Nat)(x:N):Nat:=x.rec (λi=>e.getD i 0) (λn=>n) (λa a x y=>x+y) (λk a x=>k*x) (λa k x=>x*k) (λa a x y=>x- y) (λa a=>fZ)
inductive I where
 |c (x:N)
 |k (n:Nat)
 |a (x y:I)
 |s (x y:I)
 |g (x:I)
def I.den(e:List Nat)(x:I):Int:=x.rec (λx=>((x.den e))) (λn=>OfNat.ofNat n) (λa a x y=>x+y) (λa a x y=>x- y) (λa x=> -x)
inductive P where
 |le (x y:N)
 |lt (x y:N)
 |eq (x y:N)
 |bC (x y:I)
 |aR (x y:I)
 |cu (x y:I)
 |n (p:P)
 |and (p q:P)
 |or (p q:P)
 |ff
def P.den(e:List Nat)(p:P):Prop:=p.rec (λx y=>x.den e<=y.den e) (λx y=>x.den e<y.den e) (λx y=>x.den e=y.den e) (λx y=>x.den e<=y.den e) (λx y=>x.den e<y.den e) (λx y=>x.den e=y.den e) (λa p=>¬p) (λa a p q=>p/\q) (λa a p q=>p\/q) False
structure Br where
 c:List Cn
 p:Ln
 n:Ln
noncomputable def z0:Ln:=⟨0,[]⟩
noncomputable def both(x y:List Br)(f:Br->Br->List Br):List Br:=x.flatMap λb=>y.flatMap λd=>(f b d).map λr=>⟨b.c++(d.c++r.c),r.p,r.n⟩
def nm(x:N):List Br:=x.rec (λi=>[⟨[],⟨0,dq i 0++[1]⟩,z0⟩]) (λn=>[⟨[],⟨n,[]⟩,z0⟩]) (λa a x y=>both x y λb d=>[⟨[],b.p.add d.p,b.n.add d.n⟩]) (λk a x=>x.map λb=>⟨b.c,b.p.mul k,b.n.mul k⟩) (λa k x=>x.map λb=>⟨b.c,b.p.mul k,b.n.mul k⟩) (λa a x y=>both x y λb d=>[⟨[⟨d.p.add b.n,b.p.add d.n⟩],b.p.add d.n,d.p.add b.n⟩,⟨[⟨b.p.add d.n,d.p.add b.n⟩],z0,z0⟩]) (λa a x y=>both x y λb d=>[⟨[⟨d.p.add b.n,b.p.add d.n⟩],d.p,d.n⟩,⟨[⟨b.p.add d.n,d.p.add b.n⟩],b.p,b.n⟩])
def ni(x:I):List Br:=x.rec (nm) (λn=>[⟨[],⟨n,[]⟩,z0⟩]) (λa a x y=>both x y λb d=>[⟨[],b.p.add d.p,b.n.add d.n⟩]) (λa a x y=>both x y λb d=>[⟨[],b.p.add d.n,b.n.add d.p⟩]) (λa x=>x.map λb=>⟨b.c,b.n,b.p⟩)
def Br.at_(e:List Nat)(b:Br)(x:Int):=(∀c∈b.c,c.ok e)/\x+b.n.ev e=b.p.ev e
def jo(e:List Nat)(l:List Br)x:=∃b∈l,b.at_ e x
theorem jo.one(h:b.at_ e x):jo e [b] x:=(ak b (.head _) h)
theorem jo.both(j:jo e l x)(k:jo e m y)(h:∀b d,b.at_ e x->d.at_ e y->jo e (f b d) n):jo e (both l m f) n:=by refine bh λt o=>?_;obtain⟨b,p,g⟩:=j;obtain⟨d,q,i⟩:=k;obtain⟨r,s,kr⟩:=h b d g i;refine o<|(bn _ (lI.mpr (ak b p (lI.mpr (ak d q (ig.mpr (ak r s rfl)))))) (λc a=>?_) kr.2);rcases iQ.mp a with a|a;exact g.1 c a;rcases iQ.mp a with a|a;exact i.1 c a;exact kr.1 c a
theorem U6 e:z0.ev e=0:=rfl
theorem IN i:∀e,Ln.ev e ⟨0,dq i 0++[1]⟩=e.getD i 0:=by
 have:∀e,dot (dq i 0++[1]) e=e.getD i 0:=by induction i with
 |zero=>refine λe=>(?_:1*e.headD 0+0=_);rcases e<;>simp
 |succ i a=>refine λe=>(?_:0*e.headD 0+dot (dq i 0++[1]) e.tail=_);refine Y (a _) ?_;rcases e<;>simp
 refine λe=>(?_:0+dot _ e=_);exact Y (this _)<|Y (fm _) rfl
theorem nO:∀c:Cn,c∈[]->c.ok e:=λa h=>(f4 h).elim
theorem l5(h:c.ok e):∀d:Cn,d∈[c]->d.ok e:=λd a=>Y (dW.mp a)<|h
theorem gU e x:jo e (nm x) (x.den e:Nat):=by induction x with
 |v i=>exact .one ⟨nO,by skip;refine Y (IN _ _)<|Y (U6 _) ?_;rfl⟩
 |k n=>exact .one ⟨nO,rfl⟩
 |a x y c j=>refine c.both j λb d f l=>.one ⟨nO,?_⟩;exact Y (Ln.eI _ _ _)<|Y (Ln.eI _ _ _)<|iadd f.2 l.2
 |m k x c=>obtain⟨b,f,h⟩:=c;refine(bn _ (ig.mpr (ak b f rfl)) h.1 ?_);refine Y (Ln.sk _ _ _)<|Y (Ln.sk _ _ _) ?_;have a:=s4 h.2;rw[<-a,sY];rfl
 |r x k c=>obtain⟨b,f,h⟩:=c;refine(bn _ (ig.mpr (ak b f rfl)) h.1 ?_);refine(?_:((x.den e*k:Nat):Int)+((b.n.mul k).ev e)=((b.p.mul k).ev e));refine Y (Ln.sk _ _ _)<|Y (Ln.sk _ _ _) ?_;have a:=s4 h.2;rw[<-a,sY,Nat.mul_comm];rfl
 |s x y c j=>refine c.both j λb d f l=>?_;have g:=f.2;have a:=l.2;by_cases q:y.den e<=x.den e;refine(bn _ (.head _) (l5 ?_) ?_);unfold Cn.ok;exact Y (Ln.eI _ _ _)<|Y (Ln.eI _ _ _)<|va g a q;exact Y (Ln.eI _ _ _)<|Y (Ln.eI _ _ _)<|Y (Nat.add_comm _ _)<|(congrArg (·+_) (Int.ofNat_sub q)).trans (D4 g a);refine(bn _ (.tail _ (.head _)) (l5 ?_) ?_);unfold Cn.ok;exact Y (Ln.eI _ _ _)<|Y (Ln.eI _ _ _)<|va a g (wi q);exact congrArg (λn:Nat=>(n:Int)+_) (Wj (wi q))
 |mn x y c j=>refine c.both j λb d f l=>?_;have g:=f.2;have a:=l.2;by_cases q:y.den e<=x.den e;refine(bn _ (.head _) (l5 ?_) ?_);unfold Cn.ok;exact Y (Ln.eI _ _ _)<|Y (Ln.eI _ _ _)<|va g a q;exact(congrArg (λn:Nat=>(n:Int)+_) (AL q)).trans a;refine(bn _ (.tail _ (.head _)) (l5 ?_) ?_);unfold Cn.ok;exact Y (Ln.eI _ _ _)<|Y (Ln.eI _ _ _)<|va a g (wi q);exact(congrArg (λn:Nat=>(n:Int)+_) (qc (wi q))).trans g
theorem iE e x:jo e (ni x) (x.den e):=by induction x with
 |c x=>exact gU e x
 |k n=>exact .one ⟨nO,rfl⟩
 |a x y a f=>refine a.both f λb d c g=>.one ⟨nO,?_⟩;exact Y (Ln.eI _ _ _)<|Y (Ln.eI _ _ _)<|iadd c.2 g.2
 |s x y a f=>refine a.both f λb d c g=>.one ⟨nO,?_⟩;exact Y (Ln.eI _ _ _)<|Y (Ln.eI _ _ _)<|D4 c.2 g.2
 |g x a=>refine bh λj i=>?_;obtain⟨b,c,h⟩:=a;exact i<|(bn _ (ig.mpr (ak b c rfl)) h.1 (Ek h.2))
def two(x y:List Br)(f:Ln->Ln->List (List Cn)):=x.flatMap λb=>y.flatMap λd=>(f (b.p.add d.n) (d.p.add b.n)).map λl=>b.c++(d.c++l)
noncomputable def r3(a b:Ln):List (List Cn):=[[⟨a,b⟩]]
noncomputable def sj(a b:Ln):List (List Cn):=[[⟨⟨a.c+1,a.l⟩,b⟩]]
noncomputable def zu(a b:Ln):List (List Cn):=[[⟨a,b⟩,⟨b,a⟩]]
noncomputable def xN(a b:Ln):List (List Cn):=[[⟨⟨a.c+1,a.l⟩,b⟩],[⟨⟨b.c+1,b.l⟩,a⟩]]
noncomputable def prod(x y:List (List Cn)):=x.flatMap λa=>y.map λb=>a++b
def dn(p:P):Bool->List (List Cn):=p.rec (λx y b=>b.rec (two (nm y) (nm x) sj) (two (nm x) (nm y) r3)) (λx y b=>b.rec (two (nm y) (nm x) r3) (two (nm x) (nm y) sj)) (λx y b=>b.rec (two (nm x) (nm y) xN) (two (nm x) (nm y) zu)) (λx y b=>b.rec (two (ni y) (ni x) sj) (two (ni x) (ni y) r3)) (λx y b=>b.rec (two (ni y) (ni x) r3) (two (ni x) (ni y) sj)) (λx y b=>b.rec (two (ni x) (ni y) xN) (two (ni x) (ni y) zu)) (λa f b=>f (!b)) (λa a f g b=>b.rec (f false++g false) (prod (f true) (g true))) (λa a f g b=>b.rec (prod (f false) (g false)) (f true++g true)) (λb=>b.rec [[]] [])
def Sat(e:List Nat)(l:List (List Cn)):=∃c∈l,∀x∈c,x.ok e
theorem zd{a b:List Cn}(c:∀x∈a,x.ok e)(d:∀x∈b,x.ok e):∀x∈a++b,x.ok e:=λx f=>(iQ.mp f).elim (c x) (d x)
theorem iF(j:jo e l x)(n:jo e m y)(h:∀a b,∀k,x+k=a.ev e->y+k=b.ev e->Sat e (f a b)):Sat e (two l m f):=by refine bh λs o=>?_;obtain⟨b,p,g⟩:=j;obtain⟨d,q,i⟩:=n;obtain⟨c,r,kc⟩:=h (b.p.add d.n) (d.p.add b.n) (b.n.ev e+d.n.ev e) (by rw[Ln.eI,AG,<-g.2,AH]) (by rw[Ln.eI,AG,<-i.2,AH,Int.add_comm (b.n.ev e)]);exact o<|(ak _ (lI.mpr (ak b p (lI.mpr (ak d q (ig.mpr (ak c r rfl)))))) (zd g.1 (zd i.1 kc)))
theorem ye e(a:Ln):Ln.ev e ⟨a.c+1,a.l⟩=a.ev e+1:=AJ a.c 1 (dot a.l e)
theorem vD(h:x<=y)a b(k:Int)(c:x+k=a.ev e)(d:y+k=b.ev e):Sat e (r3 a b):=(ak _ (.head _) (l5 (kle h c d)))
theorem vE(h:x<y)a b(k:Int)(c:x+k=a.ev e)(d:y+k=b.ev e):Sat e (sj a b):=(ak _ (.head _) (l5 (by unfold Cn.ok;exact Y (ye _ _)<|klt h c d)))
theorem F8(h:x=y)a b(k:Int)(f:x+k=a.ev e)(g:y+k=b.ev e):Sat e (zu a b):=(ak _ (.head _) (λc d=>by rcases ca.mp d with rfl|d;exact kle (He h) f g;exact Y (dW.mp d)<|kle (He h.symm) g f))
theorem Fa(h:¬x=y)a b(k:Int)(c:x+k=a.ev e)(d:y+k=b.ev e):Sat e (xN a b):=by by_cases q:x<y;exact(ak _ (.head _) (l5 (by unfold Cn.ok;exact Y (ye _ _)<|klt q c d)));exact(ak _ (.tail _ (.head _)) (l5 (by unfold Cn.ok;exact Y (ye _ _)<|klt (Int.lt_iff_le_and_ne.mpr ⟨Hf.mp q,ch h⟩) d c)))
theorem Sat.Eb(h:Sat e l):Sat e (l++m):=h.imp λa k=>⟨mG _ k.1,k.2⟩
theorem Sat.DS(h:Sat e m):Sat e (l++m):=h.imp λa k=>⟨j9 _ k.1,k.2⟩
theorem Sat.prod(c:Sat e l)(d:Sat e m):Sat e (prod l m):=by obtain⟨a,f,g⟩:=c;obtain⟨b,h,i⟩:=d;exact(ak _ (lI.mpr (ak a f (ig.mpr (ak b h rfl)))) (zd g i))
theorem B9 e p:(p.den e->Sat e (dn p true))/\(¬p.den e->Sat e (dn p false)):=by induction p with
 |le x y=>exact⟨λh=>iF (gU e x) (gU e y) (vD (p9.mpr h)),λh=>iF (gU e y) (gU e x) (vE (nU.mpr (Nat.not_le.mp h)))⟩
 |lt x y=>exact⟨λh=>iF (gU e x) (gU e y) (vE (nU.mpr h)),λh=>iF (gU e y) (gU e x) (vD (p9.mpr (iP.mp h)))⟩
 |eq x y=>exact⟨λh=>iF (gU e x) (gU e y) (F8 (congrArg Nat.cast h)),λh=>iF (gU e x) (gU e y) (Fa λq=>h (s4 q))⟩
 |bC x y=>exact⟨λh=>iF (iE e x) (iE e y) (vD h),λh=>iF (iE e y) (iE e x) (vE (Hg.mp h))⟩
 |aR x y=>exact⟨λh=>iF (iE e x) (iE e y) (vE h),λh=>iF (iE e y) (iE e x) (vD (Hf.mp h))⟩
 |cu x y=>exact⟨λh=>iF (iE e x) (iE e y) (F8 h),λh=>iF (iE e x) (iE e y) (Fa h)⟩
 |n p f=>exact⟨f.2,λh=>f.1 (Classical.not_not.mp h)⟩
 |and p q a b=>exact⟨λh=>(a.1 h.1).prod (b.1 h.2),λh=>by by_cases c:p.den e;exact(b.2 λd=>h ⟨c,d⟩).DS;exact(a.2 c).Eb⟩
 |or p q a b=>exact⟨λh=>h.elim (λh=>(a.1 h).Eb) (λh=>(b.1 h).DS),λh=>(a.2 λc=>h (.inl c)).prod (b.2 λd=>h (.inr d))⟩
 |ff=>exact⟨λh=>h.elim,λg=>(ak [] (.head _) nO)⟩
def Fc(a:List P)(b:List (List Cn)):List (List Cn):=a.rec b λp d c=>prod (dn p true) c
def bY a g:=(Fc a (dn g false)).all (un 12)
def imp(e:List Nat)(a:List P)(g:P):Prop:=a.rec (g.den e) λp c b=>p.den e->b
theorem cQ{a:Type}{F:a->Prop}{p:a}{l:List a}(b:F p)(c:∀q∈l,F q):∀q∈p::l,F q:=λq d=>(ca.mp d).elim (λe=>e▸b) (c q)
theorem run e g a(h:bY a g=true):imp e a g:=by
 have d:∀(a)(i),Sat e i->(∀p∈a,p.den e)->Sat e (Fc a i):=λa i hz=>by induction a with
 |nil=>exact λl=>hz
 |cons p a j=>exact λb=>((B9 e p).1 (b p (.head _))).prod (j λq k=>b q (.tail _ k))
 have f:=λb=>by refine Hi λm=>?_;obtain⟨c,n,kc⟩:=d a _ ((B9 e g).2 m) b;exact OH 12 c e (c0.mp h c n) kc
 clear h d;induction a with
 |nil=>exact f λl h=>(f4 h).elim
 |cons p a j=>exact λb=>j λk=>f (cQ b k)
end Ar
noncomputable def J:Ar.N:=.v 0
noncomputable def U:Ar.N:=.v 1
noncomputable def u:Ar.N:=.v 2
noncomputable def D:Ar.N:=.v 3
noncomputable def aA:Ar.N:=.v 4
noncomputable def bB:Ar.N:=.v 5
noncomputable def hN:Ar.N:=.v 6
noncomputable def qW:Ar.N:=.v 7
noncomputable def Kk:Ar.N:=.v 8
theorem B:true=true:=rfl
theorem lb{a b:Nat}(h:Nat.ble a b=true):a<=b:=gj h
open Ar in
theorem ar e a g(h:bY a g=true):imp e a g:=run e g a h
theorem dj c{P:Int->Prop}(h:∀a b:Nat,P ((a:Int)-(b:Int))):P c:=by have:=h c.toNat (-c).toNat;exact(Int.toNat_sub_toNat_neg c)▸this
theorem BL{b:Nat}(h: -(b:Int)<x/\x<b):x.natAbs<b:=by omega
theorem eW(h:0<k):k*(a/k)<=a/\a<k*(a/k)+k:=⟨Nat.mul_div_le a k,Nat.lt_mul_div_succ a h⟩
theorem i9{b:Nat}:(max a b=a/\b<=a)\/(max a b=b/\a<=b):=(AM a b).elim (λh=>.inr ⟨AN h,h⟩) λh=>.inl ⟨Wk h,h⟩
theorem kL:((x.toNat:Nat):Int)=x\/(x.toNat=0/\x<=0):=(Int.le_total 0 x).elim (λh=>.inl (Hj h)) λh=>.inr ⟨Int.toNat_of_nonpos h,h⟩
namespace Ar
noncomputable instance:OfNat N n:=⟨.k n⟩
noncomputable instance:OfNat I n:=⟨.k n⟩
noncomputable instance:Add N:=⟨.a⟩
noncomputable instance:Add I:=⟨.a⟩
noncomputable instance:Sub N:=⟨.s⟩
noncomputable instance:Sub I:=⟨.s⟩
end Ar
open Ar in
theorem an{a:Nat}(b g)(h:bY b g=true):imp [a] b g:=run _ g b h
open Ar in
theorem ah{a b:Nat}(c g)(h:bY c g=true):imp [a,b] c g:=run _ g c h
open Ar in
theorem aL{a b c:Nat}(d g)(h:bY d g=true):imp [a,b,c] d g:=run _ g d h
open Ar in
theorem aU{a b c d:Nat}(e g)(h:bY e g=true):imp [a,b,c,d] e g:=run _ g e h
open Ar in
theorem cK{a b c d e:Nat}(f g)(h:bY f g=true):imp [a,b,c,d,e] f g:=run _ g f h
open Ar in
theorem mZ{a b c d e f:Nat}(i g)(h:bY i g=true):imp [a,b,c,d,e,f] i g:=run _ g i h
open Ar in
theorem CS{a b c d e f i:Nat}(j g)(h:bY j g=true):imp [a,b,c,d,e,f,i] j g:=run _ g j h
open Ar in
theorem Xz{a b c d e f i j:Nat}(k g)(h:bY k g=true):imp [a,b,c,d,e,f,i,j] k g:=run _ g k h
theorem ag(h:aJ M A t (λa=>aJ M A (f a) Q E) E s):aJ M A (t>>=f) Q E s:=wpAny_bind h
inductive V where
 |none
 |bool (b:Bool)
 |int (i:Int)
 |str (s:aa)
 |ref (i:Nat)
 |g (v:ay)
 |tup (xs:List V)
 |de (n:Int)
 |jO (i:Nat)
noncomputable def V.ctorIdx(x:V):Nat:=V.casesOn x (0) (λa=>1) (λa=>2) (λa=>3) (λa=>4) (λa=>5) (λa=>6) (λa=>7) (λa=>8)
abbrev cy:=List (Nat×Nat)
def Own(φ:cy)b:=∃p∈φ,b=p.1\/b=p.2
inductive O where
 |list (xs:List V)
 |dict (es:List (aa×V))
 |inst (C:Nat) (es:List (aa×V))
 |exc (C:Nat) (d:Option Nat) (r:Bool)
 |bG (es:List (aa×V))
 |tab (a:Nat) (pos:fp) (qn:aa)
 |lit (xs:List V) (a b:Obj)
noncomputable def O.ctorIdx(x:O):Nat:=O.casesOn x (λa=>0) (λa=>1) (λa a=>2) (λa a a=>3) (λa=>4) (λa a a=>5) (λa a a=>6)
abbrev Hp:=List O
mutual
inductive am (φ : cy) (h : Heap) : V -> Value -> Prop
  | none : am φ h .none .none
  | bool (b : Bool) : am φ h (.bool b) (.bool b)
  | int (i : Int) (t : Tok) : am φ h (.int i) (.int i t)
  | str (x : Str) (t : Tok) : am φ h (.str x) (.str x t)
  | ref (i : Nat) (p : Nat × Nat) (e : φ[i]? = some p) : am φ h (.ref i) (.ref p.1)
  | g (v : Value) : am φ h (.g v) v
  | tup (a : Nat) (n : Nat) (xs : List V) (vs : List Value) (ho : h.get? a = some { cls := .type "tuple", data := .seq vs.toArray n }) (hn : ¬ Own φ a)
      (hv : aH φ h xs vs) : am φ h (.tup xs) (.ref a)
  | de (a : Nat) (n : Int) (t u v : Tok) (ho : h.get? a = some { cls := .type "range", data := .fields #[.int 0 t, .int n u, .int 1 v] }) (hn : ¬ Own φ a) : am φ h (.de n) (.ref a)
  | jO (a : Nat) (i : Nat) (p : Nat × Nat) (ho : h.get? a = some { cls := .type "dict_items", data := .fields #[.ref p.1] }) (hn : ¬ Own φ a) (e : φ[i]? = some p) : am φ h (.jO i) (.ref a)
inductive aH (φ : cy) (h : Heap) : List V -> List Value -> Prop
  | nil : aH φ h [] []
  | cons (x : V) (v : Value) (xs : List V) (vs : List Value) (hx : am φ h x v) (hxs : aH φ h xs vs) : aH φ h (x :: xs) (v :: vs)
end
theorem am.gv(p:am φ h (.g v) c):c=v:=by rcases p;rfl
noncomputable def jr:cy->Nat
 |[]=>1020
 |p::_=>max 1020 p.2
theorem vX φ t:jr φ<=jr (φ++t):=by rcases φ with _|⟨p,φ⟩;rcases t with _|⟨p,t⟩;exact aS _;exact Wl _ _;exact aS _
theorem QS{φ:cy}t(h:φ≠[]):jr (φ++t)=jr φ:=by rcases φ with _|⟨p,φ⟩;exact absurd rfl h;rfl
def Sl(c b:Nat)(o a:Obj):=a=o\/(c<b/\(∃d n,o.data=.dict d n)/\∃e,a={o with slots:=e})
theorem Sl.refl:Sl a b o o:=.inl rfl
theorem Sl.data(x:Sl c b o a):a.data=o.data:=by rcases x with rfl|⟨_,_,_,rfl⟩<;>rfl
theorem Sl.cls(x:Sl c b o a):a.cls=o.cls:=by rcases x with rfl|⟨_,_,_,rfl⟩<;>rfl
theorem Sl.low(l:a<=c)(x:Sl c b o d):Sl a b o d:=x.imp id λe=>xA e λh r=>⟨iR l h,r⟩
theorem Sl.trans(x:Sl e b o a)(y:Sl e b a c):Sl e b o c:=by rcases x with rfl|⟨h,f,g,rfl⟩;exact y;rcases y with rfl|⟨_,_,d,rfl⟩;exact .inr (aX h f ⟨g,rfl⟩);exact .inr (aX h f ⟨d,rfl⟩)
theorem Sl.same(x:Sl c b o d)(h:(∀a n,o.data≠.dict a n)\/b<=c):d=o:=by rcases x with rfl|⟨e,⟨a,n,f⟩,_⟩;rfl;rcases h with h|h;exact absurd f (h a n);exact(ah [.lt J U,.le U J] .ff B e h).elim
structure Step(ex:Nat->Prop)φ(h:aW)(φ':cy)(h':aW):Prop where
 pre:∃t,φ'=φ++t
 fg:∀b o,h.get? b=some o->∃o',h'.get? b=some o'
 kp:∀b o,h.get? b=some o->¬Own φ b->¬ex b->∃o',h'.get? b=some o'/\Sl (jr φ) b o o'
 fresh:∀b,Own φ' b->Own φ b\/h.get? b=none
theorem Step.keep(S:Step a φ h l c)(b:Nat)o(e:h.get? b=some o)(d:¬Own φ b)(f:¬a b)(g:(∀i n,o.data≠.dict i n)\/b<=jr φ):c.get? b=some o:=ad (S.kp b o e d f) λm j k=>Y j<|Y (k.same g) rfl
structure lj(ex:Nat->Prop)φ(h:aW)(φ':cy)(h':aW):Prop where
 pre:∃t,φ'=φ++t
 fg:∀b o,h.get? b=some o->∃o',h'.get? b=some o'
 keep:∀b o,h.get? b=some o->¬Own φ b->¬ex b->h'.get? b=some o
 fresh:∀b,Own φ' b->Own φ b\/h.get? b=none
theorem lj.up(S:lj c φ h a d):Step c φ h a d:=⟨S.pre,S.fg,λb o e f g=>(ak o (S.keep b o e f g) .refl),S.fresh⟩
theorem Own.or(h:Own (φ++t) b):Own φ b\/Own t b:=by refine ad h λp a e=>?_;rcases iQ.mp a with a|a;exact .inl (ak p a e);exact .inr (ak p a e)
theorem Step.refl:Step b φ h φ h:=lj.up ⟨⟨[],by simp⟩,λa o e=>⟨o,e⟩,λa a e a a=>e,λa h=>.inl h⟩
theorem Step.m7(x:Step f φ h d a){b:Nat}(e:a.get? b=none):h.get? b=none:=by rcases q:h.get? b with _|o;rfl;exact xE (x.fg b o q) λg c=>ns (e.symm.trans c)
theorem Step.trans(x:Step p φ h c f)(y:Step p c f d g):Step p φ h d g:=by refine⟨?_,λb o e=>?_,λb o e r v=>?_,λb w=>?_⟩;refine xE x.pre λt a=>?_;subst a;refine xE y.pre λA a=>?_;subst a;exact⟨t++A,by simp⟩;exact xE (x.fg b o e) λC H=>y.fg b C H;refine ad (x.kp b o e r v) λi j k=>?_;obtain⟨l,m,n⟩:=y.kp b i j (λq=>by rcases x.fresh b q with q|q;exact r q;exact sn (e.symm.trans q)) v;refine xE x.pre λt a=>?_;subst a;exact(ak l m (k.trans (n.low (vX φ t))));rcases y.fresh b w with q|q;exact x.fresh b q;exact .inr (x.m7 q)
theorem Step.weaken(x:Step d φ h a g)(f:∀b,d b->c b):Step c φ h a g:=⟨x.pre,x.fg,λb o e i j=>x.kp b o e i λq=>j (f b q),x.fresh⟩
abbrev aI:Nat->Prop:=λa=>False
theorem Step.any(x:Step aI φ h a b):Step c φ h a b:=x.weaken λd q=>q.elim
theorem Step.ie(x:Step d φ h a f){b:Nat}(e:h.get? b=some o)(c:¬Own φ b):¬Own a b:=λq=>by rcases x.fresh b q with q|q;exact c q;exact sn (e.symm.trans q)
def iL(c:ay):=c≠.type "range"/\c≠.type "dict_items"/\c≠.type "code"
def lg(a:Nat->Prop)(h:aW):=∀b o,a b->h.get? b=some o->(∀vs n,o.data≠.seq vs n)/\((∃vs,o.data=.fields vs)->iL o.cls)
theorem nE{t:cy}{i:Nat}(e:φ[i]? =some p):(φ++t)[i]? =some p:=by rw[mH];exact e;exact(bR.mp e).1
structure Kept(φ:cy)(h:aW)(φ':cy)(h':aW):Prop where
 ph:∀{i:Nat}{p},φ[i]? =some p->φ'[i]? =some p
 kp:∀{b:Nat}{o},h.get? b=some o->¬Own φ b->((∃vs n,o.data=.seq vs n)\/((∃vs,o.data=.fields vs)/\¬iL o.cls))->h'.get? b=some o/\¬Own φ' b
theorem Fk:¬iL (.type "range"):=λh=>h.1 rfl
theorem D0:¬iL (.type "dict_items"):=λh=>h.2.1 rfl
theorem Cu:¬iL (.type "code"):=λh=>h.2.2 rfl
theorem am.mono(K:Kept φ h d j)(q:am φ h x v):am d j x v:=am.rec .none (.bool) (.int) (.str) (λi p e=>.ref i p (K.ph e)) (.g) (λa n xs vs b c f k=>.tup a n xs vs (K.kp b c (.inl (iI _ _ rfl))).1 (K.kp b c (.inl (iI _ _ rfl))).2 k) (λa n t l v b c=>.de a n t l v (K.kp b c (.inr ⟨⟨_,rfl⟩,Fk⟩)).1 (K.kp b c (.inr ⟨⟨_,rfl⟩,Fk⟩)).2) (λa i p b c e=>.jO a i p (K.kp b c (.inr ⟨⟨_,rfl⟩,D0⟩)).1 (K.kp b c (.inr ⟨⟨_,rfl⟩,D0⟩)).2 (K.ph e)) .nil (λx v xs vs f f=>.cons x v xs vs) q
theorem aH.mono(K:Kept φ h b d)(q:aH φ h xs vs):aH b d xs vs:=aH.rec (motive_1:=λa a a=>True) trivial (λa=>trivial) (λa a=>trivial) (λa a=>trivial) (λa a a=>trivial) (λa=>trivial) (λa a a a a a a a=>trivial) (λa a a a a a a=>trivial) (λa a a a a a=>trivial) .nil (λx v xs vs e a a c=>.cons x v xs vs (e.mono K) c) q
theorem Step.kept(S:Step j φ h f k)(nt:lg j h):Kept φ h f k:=⟨λe=>(by obtain⟨t,rfl⟩:=S.pre;exact nE e),λ{b o}e g q=>⟨S.keep b o e g (λi=>q.elim (λa=>fD a λvs n d=>(nt b o i e).1 vs n d) λa=>xA a λd o=>o ((nt b _ i e).2 d)) (.inl λm n d=>q.elim (λa=>fD a λl l c=>nomatch c.symm.trans d) λ⟨⟨_,c⟩,_⟩=>nomatch c.symm.trans d),S.ie e g⟩⟩
theorem am.step(S:Step b φ h a c)(nt:lg b h)(q:am φ h x v):am a c x v:=q.mono (S.kept nt)
theorem aH.step(S:Step b φ h a c)(nt:lg b h)(q:aH φ h xs vs):aH a c xs vs:=q.mono (S.kept nt)
theorem kH:lg aI h:=λa a q=>q.elim
theorem am.be(H:am φ h x v)(S:Step aI φ h a b):am a b x v:=am.step S kH H
theorem aH.be(H:aH φ h xs vs)(S:Step aI φ h a b):aH a b xs vs:=aH.step S kH H
theorem aH.ind{C:List V->List ay->Prop}(q:aH φ h xs vs)(nil:C [] [])(cons:∀x v xs vs,am φ h x v->aH φ h xs vs->C xs vs->C (x::xs) (v::vs)):C xs vs:=aH.rec (motive_1:=λa a a=>True) trivial (λa=>trivial) (λa a=>trivial) (λa a=>trivial) (λa a a=>trivial) (λa=>trivial) (λa a a a a a a a=>trivial) (λa a a a a a a=>trivial) (λa a a a a a=>trivial) nil (λx v xs vs c b a=>cons x v xs vs c b) q
theorem aH.length(q:aH φ h xs vs):vs.length=xs.length:=q.ind (C:=λxs vs=>vs.length=xs.length) rfl λa a a a a a b=>congrArg (·+1) b
theorem aH.append(q:aH φ h xs vs)(r:aH φ h ys b):aH φ h (xs++ys) (vs++b):=q.ind (C:=λxs vs=>aH φ h (xs++ys) (vs++b)) r λa a a a c a d=>.cons _ _ _ _ c d
theorem aH.get(q:aH φ h xs vs):∀{i:Nat}{x},xs[i]? =some x->∃v,vs[i]? =some v/\am φ h x v:=q.ind (C:=λxs vs=>∀{i}{x},xs[i]? =some x->∃v,vs[i]? =some v/\am φ h x v) (λe=>(ns e)) λx v a a b a c i y e=>match i,e with
 |0,e=>(ak v rfl (ao e▸b))
 |i+1,e=>c e
theorem aH.drop(q:aH φ h xs vs):∀n,aH φ h (xs.drop n) (vs.drop n):=q.ind (C:=λxs vs=>∀n,aH φ h (xs.drop n) (vs.drop n)) (λn=>Y Wm<|Y Wm<| .nil) λx v xs vs b a c n=>match n with
 |0=>.cons x v xs vs b a
 |n+1=>c n
theorem aH.take(q:aH φ h xs vs):∀n,aH φ h (xs.take n) (vs.take n):=q.ind (C:=λxs vs=>∀n,aH φ h (xs.take n) (vs.take n)) (λn=>Y Wn<|Y Wn<| .nil) λx v xs vs a c b n=>match n with
 |0=>.nil
 |n+1=>.cons _ _ _ _ a (b n)
theorem aH.set(q:aH φ h xs vs):∀n{x:V}{v:ay},am φ h x v->aH φ h (xs.set n x) (vs.set n v):=q.ind (C:=λxs vs=>∀n{x:V}{v:ay},am φ h x v->aH φ h (xs.set n x) (vs.set n v)) (λa a a a=>.nil) λx v xs vs d b e n y f c=>match n with
 |0=>.cons _ _ _ _ c b
 |n+1=>.cons _ _ _ _ d (e n c)
inductive co(w:cN)φ h:List (aa×V)->List iS->Prop
 |nil:co w φ h [] []
 |cons (k) (t) (x) (v) (es) (ds) (hx:am φ h x v) (hes:co w φ h es ds):
 co w φ h ((k,x)::es) (⟨nV w.params k,.str k t,v⟩::ds)
theorem co.mono(K:Kept φ h c d)(H:co w φ h a b):co w c d a b:=by induction H with
 |nil=>exact .nil
 |cons k t x v a b e _ f=>exact .cons k t x v a b (e.mono K) f
noncomputable abbrev cx(vs:Array ay)(n:Nat):Obj:={cls:=.type "list",data:=.seq vs n}
noncomputable abbrev fK(a:Array iS)(n:Nat):Obj:={cls:=.type "dict",data:=.dict a n}
def dG(w:cN)(φ:cy)(h:aW)(p:Nat×Nat):O->Prop
 | .list xs=>p.2=p.1/\∃vs n,h.get? p.1=some (cx vs n)/\aH φ h xs vs.toList
 | .dict d=>p.2=p.1/\(d.map (·.1)).Nodup/\∃e,h.get? p.1=some (fK e d.length)/\co w φ h d e.toList
 | .inst C d=>p.2≠p.1/\(d.map (·.1)).Nodup/\∃e n,h.get? p.1=some (nW C p.2)/\h.get? p.2=some (fK e n)/\co w φ h d e.toList
 | .exc C none r=>p.2=p.1/\∃vs f,(vs.size=6/\(r=false->vs[1]? =some .none))/\h.get? p.1=some {cls:=.ref C,dict:=none,data:=.fields vs,slots:=f}
 | .exc C (some j) r=>p.2=p.1/\∃q vs f,(vs.size=6/\(r=false->vs[1]? =some .none))/\φ[j]? =some q/\h.get? p.1=some {cls:=.ref C,dict:=some q.1,data:=.fields vs,slots:=f}
 | .tab i pos k=>p.2=p.1/\p.1=i/\∃g,h.get? p.1=some {cls:=.none,data:=.fields g}/\(g= #[]\/∃(c:Nat)(vs:Array ay)(t:Tok)(l:Option fN)(f:Array (Option ay)),g= #[dN pos.line,dN pos.col,.ref c]/\h.get? c=some {cls:=.type "code",dict:=l,data:=.fields vs,slots:=f}/\vs[1]? =some (.str k t)/\¬Own φ c)
 | .bG d=>p.2=p.1/\(d.map (·.1)).Nodup/\∃e n,h.get? p.1=some (fK e n)/\co w φ h d e.toList
 | .lit xs a b=>h.get? p.1=some a/\h.get? p.2=some b/\∃vs n,(a.cls=.type "list"/\a.data=.seq vs n)/\aH φ h xs vs.toList
theorem dG.mono(H:dG w φ h p o)(K:Kept φ h A x)(i:∀k,h.get? p.1=some k->x.get? p.1=some k)(L:∀k,h.get? p.2=some k->x.get? p.2=some k):dG w A x p o:=by rcases o with xs|Q|⟨C,Q⟩|⟨C,d,r⟩|Q|⟨af,pos,qn⟩|⟨xs,a,b⟩;exact gF H λa vs n e g=>(ir a vs n (i _ e) (g.mono K));exact k_ H λa l m e g=>(qZ a l m (i _ e) (g.mono K));exact kJ H λa l m n e f=>xA f λy g=>(kG a l m n (i _ e) ⟨L _ y,g.mono K⟩);rcases d with _|j;exact gF H λa vs s v e=>(ir a vs s v (i _ e));exact xA H λa f=>eJ f λq vs s v hq e=>⟨a,q,vs,s,v,K.ph hq,i _ e⟩;exact kJ H λa l m n e g=>(kG a l m n (i _ e) (g.mono K));exact k_ H λa a2 ps e h1=>(qZ a a2 ps (i _ e) (h1.imp id λv=>ji v λc vs t od s h2 f=>bN f λh3 h4 h5=>(lu c vs t od s h2 (aX ((K.kp h3 h5 (.inr ⟨⟨_,rfl⟩,Cu⟩)).1) h4 ((K.kp h3 h5 (.inr ⟨⟨_,rfl⟩,Cu⟩)).2)))));exact kJ H λe y vs n q g=>(kG (i _ e) (L _ y) vs n q (g.mono K))
theorem dG.step(H:dG w φ h p o)(S:Step d φ h c b)(nt:lg d h)(e:∀a,h.get? p.1=some a->b.get? p.1=some a)(f:∀a,h.get? p.2=some a->b.get? p.2=some a):dG w c b p o:=H.mono (S.kept nt) e f
theorem dG.there(H:dG w φ h p o):(∃f,h.get? p.1=some f)/\∃f,h.get? p.2=some f:=by rcases o with xs|i|⟨C,i⟩|⟨C,d,r⟩|i|⟨x,pos,y⟩|⟨xs,a,b⟩;exact gF H λa vs n e g=>Y a<|⟨⟨_,e⟩,_,e⟩;exact k_ H λa k l e g=>Y a<|⟨⟨_,e⟩,_,e⟩;exact kJ H λa k l n e c=>xA c λm g=>⟨⟨_,e⟩,_,m⟩;rcases d with _|j;exact gF H λa vs s t e=>Y a<|⟨⟨_,e⟩,_,e⟩;exact xA H λa c=>eJ c λq vs s t A e=>Y a<|⟨⟨_,e⟩,_,e⟩;exact kJ H λa k l n e g=>Y a<|⟨⟨_,e⟩,_,e⟩;exact k_ H λa v L e v=>Y a<|⟨⟨_,e⟩,_,e⟩;exact⟨⟨_,H.1⟩,_,H.2.1⟩
structure Rel w(hb:aW)(φ:cy)(H:Hp)(h:aW):Prop where
 base:∀b o,hb.get? b=some o->h.get? b=some o
 len:φ.length=H.length
 objs:∀(i:Nat)o,H[i]? =some o->∃p,φ[i]? =some p/\dG w φ h p o
 sep:∀(i j:Nat)p q,φ[i]? =some p->φ[j]? =some q->i≠j->p.1≠q.1/\p.1≠q.2/\p.2≠q.1/\p.2≠q.2
 above:∀b,Own φ b->hb.get? b=none/\b≠jA
 lo:∃o,hb.get? 1020=some o
 low:∀b o,hb.get? b=some o->b<=jr φ
 ne:φ≠[]
theorem dT{i:Nat}(e:φ[i]? =some p):Own φ p.1/\Own φ p.2:=⟨(ak p (iT e) (.inl rfl)),(ak p (iT e) (.inr rfl))⟩
theorem Rel.there(R:Rel w j φ H h)(q:Own φ b):∃d,h.get? b=some d:=by refine ad q λp f e=>xE (Hk.mp f) λi hi=>?_;have g:i<H.length:=ae R.len<|(bR.mp hi).1;refine ad (R.objs i H[i] (by simp[g])) λk a c=>?_;obtain rfl:=ao (hi.symm.trans a);rcases e with rfl|rfl;exact c.there.1;exact c.there.2
theorem Rel.lt(R:Rel w a φ H h)(q:Own φ b):b<h.objs.size:=xE (R.there q) λc e=>du e
theorem Rel.yf(R:Rel w a φ H h){b:Nat}(e:a.get? b=some o):¬Own φ b:=λq=>ns (((R.above b q).1).symm.trans e)
theorem kZ{h:aW}{b a:Nat}(n:h.get? a=none)(e:h.get? b=some o):b≠a:=λq=>ns (n.symm.trans (q▸e))
theorem cA(h:aW):h.get? h.objs.size=none:=by rcases q:h.get? h.objs.size with _|o;rfl;exact absurd (du q) (p_ _)
theorem jd{h:aW}(q:h.objs.size<=a):h.get? a=none:=by rcases e:h.get? a with _|o;rfl;exact absurd (du e) (iP.mpr q)
theorem Rel.oA(R:Rel w a φ H h){i:Nat}(e:φ[i]? =some p):(p.1==jA)=false:=beq_eq_false_iff_ne.mpr (R.above _ (dT e).1).2
theorem Rel.hM(R:Rel w a φ H h){b:Nat}(e:h.get? b=none):a.get? b=none:=by rcases q:a.get? b with _|o;rfl;exact sn ((R.base b o q).symm.trans e)
theorem Rel.gG(R:Rel w c φ H h){b:Nat}(e:h.get? b=none):¬Own φ b:=λq=>xE (R.there q) λo a=>ns (e.symm.trans a)
theorem Rel.big(R:Rel w b φ H h)(q:h.objs.size<=a):jr φ<a:=by refine xE R.lo λo e=>eS ?_ q;rcases φ with _|⟨p,φ⟩;exact absurd rfl R.ne;exact Nat.max_lt.mpr ⟨(du (R.base _ o e)),R.lt (dT (i:=0) rfl).2⟩
theorem Rel.keepsAll(R:Rel w c φ H h)(S:Step d φ h φ f)(nt:lg d h)(k:∀b o,Own φ b->h.get? b=some o->f.get? b=some o)(a:∀b,d b->c.get? b=none):Rel w c φ H f:=by refine⟨λb o e=>?_,R.len,λi o e=>?_,R.sep,R.above,R.lo,R.low,R.ne⟩;exact S.keep b o (R.base b o e) (R.yf e) (λq=>ns ((a b q).symm.trans e)) (.inr (R.low b o e));refine ad (R.objs i o e) λp g l=>?_;have j:=dT g;exact(ak p g (l.step S nt (λm=>k _ _ j.1) (λm=>k _ _ j.2)))
theorem Step.of_keeps(k:∀b o,h.get? b=some o->c.get? b=some o):Step aI φ h φ c:=lj.up ⟨⟨[],by simp⟩,λb o e=>⟨o,k b o e⟩,λb o e a a=>k b o e,λa q=>.inl q⟩
theorem Rel.of_keeps(R:Rel w a φ H h)(k:∀b o,h.get? b=some o->c.get? b=some o):Rel w a φ H c:=R.keepsAll (Step.of_keeps k) kH (λb o d=>k b o) λd q=>q.elim
theorem Step.push o:Step aI φ h φ (h.push o):=Step.of_keeps (λb a=>cO o)
theorem Rel.push(R:Rel w a φ H h)o:Rel w a φ H (h.push o):=R.of_keeps (λb c=>cO o)
theorem Step.new(k:∀b o,h.get? b=some o->c.get? b=some o)(d:h.get? p.1=none)(f:h.get? p.2=none):Step aI φ h (φ++[p]) c:=lj.up ⟨⟨[p],rfl⟩,λb o e=>⟨o,k b o e⟩,λb o e g g=>k b o e,λb q=>by rcases q.or with q|⟨r,a,e⟩;exact .inl q;rw[dW]at a;subst a;rcases e with rfl|rfl;exact .inr d;exact .inr f⟩
theorem Rel.FC(R:Rel w Q φ H h){p:Nat×Nat}(k:∀b o,h.get? b=some o->x.get? b=some o)(f:h.get? p.1=none)(g:h.get? p.2=none)(n1:p.1≠jA)(n2:p.2≠jA)(ho:dG w (φ++[p]) x p o):Rel w Q (φ++[p]) (H++[o]) x:=by
 refine⟨λb o e=>k _ _ (R.base b o e),by simp[R.len],λi o' e=>?_,λi j a b l m d=>?_,λb q=>?_,R.lo,λb o e=>aG (R.low b o e) (vX _ _),λq=>R.ne (Wo.mp q).1⟩;by_cases hi:i<H.length;rw[mH hi]at e;exact ad (R.objs i o' e) λp' t v=>(ak p' (nE t) (v.step (Step.new k f g) kH (λo0 q=>k _ _ q) (λo0 q=>k _ _ q)));rw[mI (iP.mp hi)]at e;have:i- H.length=0:=by have:=(bR.mp e).1;simp at this;exact this
 rw[this]at e;simp at e;subst e;refine(ak p ?_ ho);rw[mI (by rw[R.len];exact ah [.n (.lt U J)] (.le J U) B hi),R.len,this];rfl;have y:∀{c}{i:Nat},φ[i]? =some c->c.1≠p.1/\c.1≠p.2/\c.2≠p.1/\c.2≠p.2:=λe=>by refine xE (R.there (dT e).1) λo1 n=>xE (R.there (dT e).2) λo2 s=>(bA (λq=>?_) (λq=>?_) (λq=>?_) (λq=>?_));rw[q,f]at n;exact ns n;rw[q,g]at n;exact ns n;rw[q,f]at s;exact ns s;rw[q,g]at s;exact ns s
 have A:∀{c}{i},(φ++[p])[i]? =some c->φ[i]? =some c\/(i=φ.length/\c=p):=λ{c i}e=>by
  by_cases hi:i<φ.length;rw[mH hi]at e;exact .inl e;rw[mI (iP.mp hi)]at e;have C:i- φ.length=0:=by have:=(bR.mp e).1;simp at this;exact this
  rw[C]at e;simp at e;exact .inr ⟨ah [.n (.lt J U),.eq (J-U) 0] (.eq J U) B hi C,e.symm⟩
 rcases A l with l|⟨ia,ea⟩<;>rcases A m with m|⟨ib,eb⟩;exact R.sep i j a b l m d;have:=y l;exact Y eb<|this;have:=y m;exact Y ea<|(bA this.1.symm this.2.2.1.symm this.2.1.symm this.2.2.2.symm);exact absurd (ia.trans ib.symm) d;rcases q.or with q|⟨r,L,e⟩;exact R.above b q;rw[dW]at L;subst L;rcases e with rfl|rfl;exact⟨R.hM f,n1⟩;exact⟨R.hM g,n2⟩
theorem Rel.size(R:Rel w a φ H h):1020<h.objs.size:=xE R.lo λo e=>du (R.base _ o e)
theorem Ah{a:Nat}(h:1020<a):a≠jA:=qd (s6 (by decide) h)
theorem Rel.new(R:Rel w e φ H h)(k:∀b o,h.get? b=some o->a.get? b=some o)(c:h.objs.size<=p.1)(d:h.objs.size<=p.2)(f:dG w (φ++[p]) a p o):Rel w e (φ++[p]) (H++[o]) a:=R.FC k (jd c) (jd d) (Ah (eS R.size c)) (Ah (eS R.size d)) f
theorem Step.upd(g:Own φ a)(d:fq a h f)(c:∃o,f.get? a=some o):Step aI φ h φ f:=lj.up ⟨⟨[],by simp⟩,λb o e=>by by_cases q:b=a;exact Y q<|c;exact⟨o,(d.2 b q).trans e⟩,λb o e i j=>(d.2 b λq=>i (q▸g)).trans e,λj q=>.inl q⟩
theorem Rel.upd(R:Rel w r φ H h){a:Nat}(d:φ[i]? =some p)(f:a=p.1\/a=p.2)(g:fq a h k)(l:dG w φ k p o):Rel w r φ (H.set i o) k:=by have S:Step aI φ h φ k:=Step.upd (by rcases f with rfl|rfl;exact(dT d).1;exact(dT d).2) g (by rcases f with rfl|rfl;exact l.there.1;exact l.there.2);refine⟨λb o e=>S.keep b o (R.base b o e) (R.yf e) id (.inr (R.low b o e)),by simp[R.len],λj s e=>?_,R.sep,R.above,R.lo,R.low,R.ne⟩;by_cases c:i=j;subst c;rw[wj (ae R.len<|(bR.mp d).1)]at e;exact ae (ao e)<|(ak p d l);rw[qe c]at e;refine ad (R.objs j s e) λq n m=>?_;have:=R.sep i j p q d n c;exact(ak q n (m.step S kH (λt e=>(g.2 _ (by rcases f with rfl|rfl;exact this.1.symm;exact this.2.2.1.symm)).trans e) (λt e=>(g.2 _ (by rcases f with rfl|rfl;exact this.2.1.symm;exact this.2.2.2.symm)).trans e)))
def C1(A:fu)(b:Nat):=∃l,A.frames=some l/\∃a∈l,a.frame=some b
def vW(b:aW)(φ:cy)(h:aW)(l:List dE):=∀a∈l,a.scope.kind≠.module/\∃L o,a.frame=some L/\h.get? L=some o/\(∃c n,o.data=.dict c n)/\¬Own φ L/\b.get? L=none/\jr φ<L/\φ≠[]
structure Good w hb(A:fu)φ H h:Prop where
 rel:Rel w hb φ H h
 dQ:∀l,A.frames=some l->vW hb φ h l
theorem vW.step(x:vW j φ h l)(S:Step aI φ h a k):vW j a k l:=λb m=>by refine bh λA n=>nJ (x b m) λhk L o p f r c=>cW c λg s v i=>ad (S.kp L o f g id) λw d y=>xE S.pre λt e=>?_;subst e;exact n<|(oX hk L w p d (Y y.data<|r) (bA (S.ie f g) s (Y (QS t i)<|v) (λq=>i (Wo.mp q).1)))
theorem Good.step(G:Good w b A φ H h)(R:Rel w b a H' c)(S:Step aI φ h a c):Good w b A a H' c:=⟨R,λl d=>(G.dQ l d).step S⟩
inductive Rs(α:Type)where
 |ok (a:α)
 |ex (x:V)
noncomputable def Rs.ctorIdx a(x:Rs a):Nat:=Rs.casesOn x (λb=>0) (λb=>1)
def M a:=Hp->Option (Rs a×Hp)
noncomputable def M.ret(a:b):M b:=λH=>some (.ok a,H)
noncomputable def M.bad:M a:=λb=>gM
noncomputable def M.bd(m:M b)(k:b->M c):M c:=λH=>match m H with
 |Option.none=>gM
 |some (.ok a,H')=>k a H'
 |some (.ex x,H')=>some (.ex x,H')
noncomputable def M.opt(f:Hp->Option b):M b:=λH=>match f H with
 |some a=>some (.ok a,H)
 |Option.none=>gM
theorem M.Ap{G:Prop}(e:M.opt f H=some (r,H'))(k:∀a,f H=some a->r=.ok a->H'=H->G):G:=by delta M.opt at e;rcases h:f H with _|a;rw[h]at e;exact ns e;rw[h]at e;have e:=ao e;exact k a h (congrArg (·.1) e).symm (congrArg (·.2) e).symm
theorem M.gD(h:f H=some a):M.opt f H=some (.ok a,H):=by delta M.opt;exact Y h rfl
noncomputable def M.alloc(o:O):M V:=λH=>some (.ok (.ref H.length),H++[o])
structure aP ex φ(s:bS)φ'(s':bS):Prop extends Step ex φ s.heap φ' s'.heap where
 os:s'.os=s.os
 gens:s'.gens=s.gens
class m8(s s':bS):Prop where
 os:s'.os=s.os
 gens:s'.gens=s.gens
instance:m8 s s:=⟨rfl,rfl⟩
instance:m8 s ⟨h,s.gens,d,t,s.os⟩:=⟨rfl,rfl⟩
instance:m8 ⟨h,g,d,t,o⟩ ⟨a,g,b,c,o⟩:=⟨rfl,rfl⟩
theorem Step.s{s:bS}(S:Step b φ s.heap a s'.heap)[q:m8 s s']:aP b φ s a s':=⟨S,q.os,q.gens⟩
noncomputable instance[m8 s s']:Coe (Step b φ s.heap a s'.heap) (aP b φ s a s'):=⟨λS=>Step.s S⟩
noncomputable instance:Coe (aP b φ s a s') (Step b φ s.heap a s'.heap):=⟨aP.toStep⟩
theorem aP.refl:aP a φ s φ s:=⟨.refl,rfl,rfl⟩
theorem aP.trans(x:aP e φ s a c)(y:aP e a c b d):aP e φ s b d:=⟨x.toStep.trans y.toStep,y.os.trans x.os,y.gens.trans x.gens⟩
theorem aP.weaken(x:aP d φ s a s')(f:∀b,d b->c b):aP c φ s a s':=⟨x.toStep.weaken f,x.os,x.gens⟩
theorem aP.any(x:aP aI φ s a s'):aP b φ s a s':=x.weaken λc q=>q.elim
def j5(φ:cy)(h a:aW)(e:Nat):=∃c vs,h.get? e=some c/\c.data=.fields vs/\1<vs.size/\(vs[1]? =some .none\/∃T b d,vs[1]? =some (.ref T)/\h.get? T=some b/\(b.data=.fields d/\b.cls=.type "traceback")/\d[3]? =some .none/\¬Own φ T/\a.get? T=none)
theorem j5.uX(f:j5 φ h g e)(k:∀b,g.get? b=none->i.get? b=none):j5 φ h i e:=by refine mz f λl vs m n o j=>(kN l vs m n o ?_);rcases j with j|⟨T,p,q,a,b,c,d,e,f⟩;exact .inl j;exact .inr (dK T p q a b c (aX d e (k _ f)))
structure eu ex φ s φ' s'(H':Hp)(x:V)(e:ay):Prop where
 step:aP ex φ s φ' s'
 is:∃i p C d,x=.ref i/\e=.ref p.1/\φ'[i]? =some p/\j5 φ' s'.heap s.heap p.1/\H'[i]? =some (.exc C d true)
theorem eu.after(S:aP j φ s a f)(y:eu j a f c g H' x e):eu j φ s c g H' x e:=eZ y.is λi p C d k h=>cW h λl m n o=>⟨S.trans y.step,i,p,C,d,k,l,m,n.uX λb q=>S.m7 q,o⟩
abbrev ju(s' s:bS):Prop:=(s'.heap,s'.os,s'.gens)=(s.heap,s.os,s.gens)
abbrev gJ(s' s:bS):Prop:=(s'.os,s'.gens)=(s.os,s.gens)
theorem gJ.os(h:gJ s' s):s'.os=s.os:=congrArg (·.1) h
theorem gJ.gens(h:gJ s' s):s'.gens=s.gens:=congrArg (·.2) h
theorem Step.so{s:bS}(S:Step b φ s.heap a s'.heap)(o:gJ s' s):aP b φ s a s':=⟨S,o.os,o.gens⟩
theorem Ps(x:InCall a L m s):gJ s a:=by refine fD x.same λh tk b=>Y b ?_;rfl
theorem ju.heap(h:ju s' s):s'.heap=s.heap:=congrArg (·.1) h
theorem aP.of_same(h:ju s' s)(S:aP c φ s' a b):aP c φ s a b:=⟨ae h.heap<|S.toStep,S.os.trans (congrArg (·.2.1) h),S.gens.trans (congrArg (·.2.2) h)⟩
theorem ju.Sq(h:ju s' s):aP a φ s φ s':=⟨Y h.heap<| .refl,congrArg (·.2.1) h,congrArg (·.2.2) h⟩
theorem eu.of_same(h:ju s' s)(F:eu c φ s' a b H' x e):eu c φ s a b H' x e:=⟨F.step.of_same h,ae h.heap<|F.is⟩
theorem eu.weaken(y:eu d φ s a s' H' x e)(f:∀b,d b->c b):eu c φ s a s' H' x e:=⟨y.step.weaken f,y.is⟩
def z(prog:dO)(w:cN)(d:aW)(f:Nat->Prop)(A:fu)(φ:cy)(s:bS)(H:Hp)(t:a_ g)(m:M h)(P:cy->aW->h->g->Prop):=∀r H',m H=some (r,H')->∀(Q)(E),(∀c s' b a,r=.ok b->Good w d A c H' s'.heap->aP f φ s c s'->P c s'.heap b a->Q a s')->(∀c s' x e,r=.ex x->Good w d A c H' s'.heap->eu f φ s c s' H' x e->E e s')->aJ (aq prog w) A t Q E s
theorem z.bd(x:z prog w hb ex A φ s H t m P)(y:∀n s' H' b a,Good w hb A n H' s'.heap->aP ex φ s n s'->P n s'.heap b a->z prog w hb ex A n s' H' (f a) (k b) P'):z prog w hb ex A φ s H (t>>=f) (m.bd k) P':=by intro r H' e Q E hQ hE;unfold M.bd at e;rcases hm:m H with _|a2;rw[hm]at e;injection e;obtain⟨q,o⟩:=a2;rw[hm]at e;refine ag (x q o hm _ _ (λc i b a hr G S p=>?_) λc i v C hr G F=>?_);subst hr;dsimp only at e;exact y c i o b a G S p r H' e Q E (λd j L af h l ai=>hQ d j L af h l (S.trans ai)) λd j aj ap h l av=>hE d j aj ap h l (av.after S);subst hr;injection e with ax;injection ax with a0 a1;subst a0;subst a1;exact hE c i v C rfl G F
theorem z.pure(G:Good w i A φ H s.heap)(h:P φ s.heap b a):z prog w i k A φ s H (pure a) (M.ret b) P:=by intro r H' e Q E j _;injection e with c;injection c with d f;subst d;subst f;exact aK (j φ s b a rfl G .refl h)
theorem z.bad:z prog w b c A φ s H t M.bad P:=λa a e=>(ns e)
theorem z.kR[Decidable c](h:c->z prog w a b A φ s H t m P):z prog w a b A φ s H t (if c then m else M.bad) P:=by by_cases q:c;exact Y (if_pos q)<|h q;exact Y (if_neg q)<|z.bad
theorem z.at_(y:z prog w a b A φ s H (f ()) m c):z prog w a b A φ s H (standAt pos>>=f) m c:=λr H' e Q E d h=>ag (jB (y r H' e Q E d h))
theorem z.TZ(y:z prog w a b A φ s H (f ()) m c):z prog w a b A φ s H (j_ i>>=f) m c:=λr H' e Q E d h=>ag (lJ (y r H' e Q E d h))
theorem z.holding(y:z prog w a b A φ s H t m P):z prog w a b A φ s H (nX vs t) m P:=λr H' e Q E c d=>da (y r H' e Q E c d)
theorem z.of{P:cy->aW->i->j->Prop}(x:∀r H',m H=some (r,H')->∃b,r=.ok b/\∀Q E,(∀c s' a,Rel w f c H' s'.heap->aP aI φ s c s'->P c s'.heap b a->Q a s')->aJ (aq prog w) A t Q E s)(G:Good w f A φ H s.heap):z prog w f k A φ s H t m P:=by refine λr H' e Q E h _=>ad (x r H' e) λb d y=>?_;subst d;exact y Q E λc s' a R S p=>h c s' b a rfl (G.step R S) S.any p
def aN(a:Option (Rs c×Hp))(Q:c->Hp->Prop)(E:V->Hp->Prop):=match a with
 |some (.ok b,H)=>Q b H
 |some (.ex x,H)=>E x H
 |none=>False
theorem aN.bd{m:M d}(h:aN ((m.bd f) H) Q E):aN (m H) (λb H'=>aN (f b H') Q E) E:=by unfold M.bd at h;rcases a:m H with _|c;rw[a]at h;exact h;obtain⟨r,H'⟩:=c;rw[a]at h;rcases r<;>exact h
theorem aN.ends(h:aN c Q E):∃r H',c=some (r,H')/\(∀b,r=.ok b->Q b H')/\∀x,r=.ex x->E x H':=by rcases c with _|c;exact h.elim;obtain⟨r,H'⟩:=c;rcases r with b|x;exact(fU _ _ rfl (λd e=>(by injection e with a;subst a;exact h)) nofun);exact(fU _ _ rfl nofun (λd e=>by injection e with a;subst a;exact h))
theorem aN.of{Q:f->Hp->Prop}(e:a=some (r,H'))(c:∀b,r=.ok b->Q b H')(d:∀x,r=.ex x->E x H'):aN a Q E:=by subst e;rcases r with b|x;exact c b rfl;exact d x rfl
def KQ{d e:Type}(w:cN)(f:aW)(A:fu)(g:Nat->Prop)(φ:cy)(s:bS)(P:cy->aW->e->d->Prop)(Q:d->bS->Prop)b H':=∀c s' a,Good w f A c H' s'.heap->aP g φ s c s'->P c s'.heap b a->Q a s'
def EK(w:cN)(b:aW)(A:fu)(c:Nat->Prop)(φ:cy)(s:bS)(E:ay->bS->Prop)x H':=∀a s' e,Good w b A a H' s'.heap->eu c φ s a s' H' x e->E e s'
theorem z.mk(h:∀Q E,aN (m H) (KQ w f A i φ s P Q) (EK w f A i φ s E)->aJ (aq prog w) A t Q E s):z prog w f i A φ s H t m P:=λr H' e Q E j k=>h Q E (.of e (λb d c s' a G S p=>j c s' b a d G S p) λx d c s' e G F=>k c s' x e d G F)
theorem z.use(x:z prog w f i A φ s H t m P)(h:aN (m H) Q' j)(k:∀b H' c s' a,Q' b H'->Good w f A c H' s'.heap->aP i φ s c s'->P c s'.heap b a->Q a s')(l:∀x H',j x H'->EK w f A i φ s E x H'):aJ (aq prog w) A t Q E s:=fQ h.ends λr H' e n o=>x r H' e Q E (λc s' b a d=>k b H' c s' a (n b d)) λc s' x e d G F=>l x H' (o x d) c s' e G F
theorem z.gC(x:z prog w e f A φ s H t m P)(h:aN (m H) Q' λd d=>False)(i:∀b H' c s' a,Q' b H'->Good w e A c H' s'.heap->aP f φ s c s'->P c s'.heap b a->Q a s'):aJ (aq prog w) A t Q E s:=x.use h i λd d h=>h.elim
theorem aN.imp(h:aN c Q E)(f:∀b H',Q b H'->Q' b H')(g:∀x H',E x H'->d x H'):aN c Q' d:=fQ h.ends λr H' e i j=>.of e (λb a=>f b H' (i b a)) λx a=>g x H' (j x a)
theorem KQ.seq(h:KQ w g A f φ s P Q b H')(S:aP f φ s c d):KQ w g A f c d P Q b H':=λe s' a G i p=>h e s' a G (S.trans i) p
theorem EK.any(h:EK w d A f φ s E x H')(S:aP f φ s a b):EK w d A aI a b E x H':=λc s' e G F=>h c s' e G ((F.weaken λg q=>q.elim).after S)
theorem EK.seq(h:EK w f A d φ s E x H')(S:aP d φ s a b):EK w f A d a b E x H':=λc s' e G F=>h c s' e G (F.after S)
abbrev Loc:=List (aa×V)
def cm(a:dE):Nat->Prop:=λb=>b=a.locals\/∃x,a.cells.lookup x=some b
structure aV(hb:aW)φ(env:dE)h(loc:Loc):Prop where
 kind:env.scope.kind=.function
 gl:env.globals=f7
 bl:env.builtins=s7
 ns:∃m,h.Ns env.locals m/\∀x v,loc.lookup x=some v->env.kindOf x=some .local->∃c,m x=some c/\am φ h v c
 kC:∀x v,loc.lookup x=some v->env.kindOf x=some .local\/((env.kindOf x=some .cell\/env.kindOf x=some .free)/\∃a c,env.cells.lookup x=some a/\h.IsCell a (some c)/\am φ h v c)
 cells:∀x a,env.cells.lookup x=some a->(∃c,h.IsCell a c)/\¬Own φ a/\hb.get? a=none
 apart:env.cells.Pairwise λx y=>x.2≠y.2
 off:¬Own φ env.locals
 ab:hb.get? env.locals=none
theorem DB{h:aW}{L:Nat}(x:h.Ns L m):∃o,h.get? L=some o:=eJ x λo a a b a a=>⟨o,b⟩
theorem FZ{h:aW}{L:Nat}(x:h.Ns L m)(e:h.get? L=some o):∃a n,o.data=.dict a n:=eJ x λf a b c d g=>iI a b ((congrArg Obj.data (ao (e.symm.trans c))).trans d)
theorem C_{h:aW}{a:Nat}(x:h.IsCell a c):∃o,h.get? a=some o:=ad x λo b d=>⟨o,b⟩
theorem Dv{h:aW}{a:Nat}(x:h.IsCell a c)(e:h.get? a=some o)(q:∃b n,o.data=.dict b n):False:=fD q λb n q=>ad x λg d f=>by obtain rfl:=ao (e.symm.trans d);exact wl (f.symm.trans q)
theorem AA{h:aW}{L a:Nat}(x:h.Ns L m)(y:h.IsCell a c)(e:a=L):False:=xE (C_ y) λo b=>Dv y b (FZ x (ae e<|b))
theorem nN{a:Type}{v:a}{l:List (aa×a)}(q:¬y=x):dY y ((x,v)::l)=l.lookup y:=by rw[dw];exact Y (beq_false_of_ne q) rfl
theorem sM{a:Type}{v:a}{l:List (aa×a)}:dY x ((x,v)::l)=some v:=lK
theorem aV.jT(F:aV p φ i h loc):lg (cm i) h:=by rintro b o (rfl|⟨x,k⟩) e;exact ad F.ns λm a j=>eJ a λl r s f d j=>Y (ao (e.symm.trans f))<|⟨λvs n q=>wl (d.symm.trans q),λg=>xE g λvs q=>wl (d.symm.trans q)⟩;exact xA (F.cells x b k) λa j=>bZ a λc l f d=>Y (ao (e.symm.trans f))<|⟨λvs n q=>wl (d.symm.trans q),λg=>xE g λvs q=>wl (d.symm.trans q)⟩
theorem aV.step(F:aV y φ j h loc)(S:Step aI φ h l A):aV y l j A loc:=by refine ad F.ns λm C f=>fW (id C) λo H L s r=>ad (S.kp _ _ s F.off id) λQ n sl=>⟨F.kind,F.gl,F.bl,(ak m (nu Q H L n (Y sl.data<|r.1) r.2) (λx v e k=>?_)),λx v e=>?_,λx a e=>?_,F.apart,S.ie s F.off,F.ab⟩;exact ad (f x v e k) λc hc f=>(ak c hc (f.be S));rcases F.kC x v e with k|⟨k,a,c,t,⟨g,d,b⟩,f⟩;exact .inl k;exact .inr (jZ k a c t (ak g (S.keep _ _ d (F.cells x a t).2.1 id (.inl λi i q=>by rw[b]at q;injection q)) b) (f.be S));exact bN (F.cells x a e) λp w hl=>bZ p λc g d b=>(aX (bQ c g (S.keep _ _ d w id (.inl λi i q=>by rw[b]at q;injection q)) b) (S.ie d w) hl)
theorem aV.weaken(F:aV c φ b h loc)(k:∀x v,a.lookup x=some v->loc.lookup x=some v):aV c φ b h a:=ad F.ns λm d f=>⟨F.kind,F.gl,F.bl,(ak m d (λx v e=>f x v (k x v e))),λx v e=>F.kC x v (k x v e),F.cells,F.apart,F.off,F.ab⟩
theorem aV.load(F:aV l φ g s.heap loc)(e:loc.lookup x=some v)(h:(x==("__debug__":aa))=false)(f:(x==("__classdict__":aa))=false):∃c,am φ s.heap v c/\∀M Q E,Q c s->aJ M A (br (.Name x pos) g) Q E s:=by rcases F.kC x v e with k|⟨k,a,c,i,b,d⟩;exact ad F.ns λm j d=>ad (d x v e k) λc f d=>(ak c d (λM Q E q=>wpAny_Name (wpAny_loadName_local F.kind k j f q) h));refine(ak c d (λM Q E q=>wpAny_Name ?_ h));rcases k with k|k;exact wpAny_loadName_cell F.kind k i b q;exact wpAny_loadName_free F.kind k i b q f
theorem Good.qO{a:Nat}(G:Good w v A φ H h)(i:fq a h c)(C:¬Own φ a)(Q:v.get? a=none)(m:∃o,c.get? a=some o)(nt:lg (λb=>b=a) h)(hd:∀o,h.get? a=some o->(∃k n,o.data=.dict k n)->∃j,c.get? a=some j/\∃k n,j.data=.dict k n):Good w v A φ H c/\Step (λb=>b=a) φ h φ c:=by have S:Step (λb=>b=a) φ h φ c:=lj.up ⟨⟨[],by simp⟩,λb o e=>by by_cases q:b=a;exact Y q<|m;exact⟨o,(i.2 b q).trans e⟩,λb o e o0 q=>(i.2 b q).trans e,λo0 q=>.inl q⟩;refine⟨⟨G.rel.keepsAll S nt (λb o q e=>(i.2 b λaf=>C (af▸q)).trans e) (λb q=>q▸Q),λl hl p he=>?_⟩,S⟩;refine nJ (G.dQ l hl p he) λhk L o x y d r=>xA r λf g=>?_;by_cases q:L=a;subst q;exact ad (hd o y d) λj s t=>(oX hk L j x s t ⟨f,g⟩);exact(oX hk L o x ((i.2 L q).trans y) d ⟨f,g⟩)
theorem Ef{M:kg}(G:Good w hb A φ H s.heap)(F:aV hb φ i s.heap loc)(hv:am φ s.heap v c)(hx:i.kindOf x=some .local\/(i.kindOf x=some .cell/\(i.cells.lookup x).isSome=true))(h:∀s',Good w hb A φ H s'.heap->aP (cm i) φ s φ s'->aV hb φ i s'.heap ((x,v)::loc)->Q () s'):aJ M A (storeName i x c) Q E s:=by refine ad F.ns λm hm af=>?_;have Ft:=F.jT;rcases hx with k|⟨k,hc⟩;refine Wp k hm (λh' l n=>?_) (by refine Y F.kind ?_;rfl);refine xA (G.qO n F.off F.ab (DB l) (λb o q=>Ft b o (.inl q)) (λo0 o0 o0=>xE (DB l) λo' ai=>ak o' ai (FZ l ai))) λG' S'=>?_;have S:Step (cm i) φ s.heap φ h':=S'.weaken λb q=>.inl q;have vs:∀{y}{d},am φ s.heap y d->am φ h' y d:=λq=>q.step S Ft;refine h _ G' S ⟨F.kind,F.gl,F.bl,(ak _ l (λy r e ky=>?_)),λy r e=>?_,λy a e=>?_,F.apart,F.off,F.ab⟩;by_cases q:x=y;subst q;exact ae (ao (sM.symm.trans e))<|(ak c (if_pos rfl) (vs hv));exact ad (af y r ((nN (ch q)).symm.trans e) ky) λd hd t=>ak d ((if_neg (ch q)).trans hd) (vs t);by_cases q:x=y;exact ae q<| .inl k;exact(F.kC y r ((nN (ch q)).symm.trans e)).imp id λC=>uK C λky a d p f t=>jZ ky a d p (f.sameBut n (AA hm f)) (vs t);exact bN (F.cells y a e) λj L hl=>xE j λd f=>aX ⟨d,f.sameBut n (AA hm f)⟩ L hl;refine xE (qf.mp hc) λa p=>bN (F.cells x a p) λj aj ap=>xE j λax f=>wpAny_storeName_cell F.kind k p f λh' l n=>xA (G.qO n aj ap (C_ l) (λb o q=>Ft b o (.inr ⟨x,q▸p⟩)) (λo ho hd=>(Dv f ho hd).elim)) λG' S'=>?_;have S:Step (cm i) φ s.heap φ h':=S'.weaken λb q=>.inr ⟨x,q▸p⟩;have vs:∀{y}{d},am φ s.heap y d->am φ h' y d:=λq=>q.step S Ft;refine h _ G' S ⟨F.kind,F.gl,F.bl,(ak m (hm.sameBut n λC=>AA hm f C.symm) (λy r e ky=>?_)),λy r e=>?_,λy b e=>?_,F.apart,F.off,F.ab⟩;by_cases q:x=y;subst q;exact NameKind.noConfusion (ao (k.symm.trans ky));exact ad (af y r ((nN (ch q)).symm.trans e) ky) λd hd t=>ak d hd (vs t);by_cases q:x=y;subst q;exact ae (ao (sM.symm.trans e))<| .inr (jZ (.inl k) a c p l (vs hv));exact(F.kC y r ((nN (ch q)).symm.trans e)).imp id λC=>uK C λky b d av g t=>jZ ky b d av (g.sameBut n λC=>q (name_of_addr F.apart (mem_of_lookup av) (C▸mem_of_lookup p)).symm) (vs t);by_cases q:a=b;exact ae q<|(aX ⟨_,l⟩ aj ap);exact bN (F.cells y b e) λj L hl=>xE j λd g=>aX ⟨d,g.sameBut n (ch q)⟩ L hl
def bw(k:Nat)(A:fu):=(A.handled=none\/k<50)/\A.depth+2*k<recursionLimit/\A.units+10*k+100<cLine/\∃l,A.frames=some l
theorem bw.none(R:bw k A)(hk:50<=k):A.handled=none:=R.1.resolve_right (an [.le 50 J] (.n (.lt J 50)) B hk)
inductive Out(α:Type)where
 |go (a:α)
 |ret (v:V)
abbrev jQ(g:aW)(d:dE)(post:h->Loc)(b:cy)(e:aW)(o:Out h)(f:Flow):Prop:=match o with
 | .go a=>f=.next/\aV g b d e (post a)
 | .ret v=>∃c,f=.ret c/\am b e v c
def aF prog w b k a loc e m:=∀A φ s H,bw k A->Good w b A φ H s.heap->aV b φ a s.heap loc->z prog w b aI A φ s H (br e a) m am
def gc prog w d k c loc e m:=∀A φ s H,bw k A->Good w d A φ H s.heap->aV d φ c s.heap loc->z prog w d aI A φ s H (isTrue e c (br e c)) m (λf f b a=>b=a)
def dm(prog:dO)(w:cN)(b:aW)(k:Nat)(a:dE)(loc:Loc)(c:List fw)(m:M (Out d))post:=∀A φ s H,bw k A->Good w b A φ H s.heap->aV b φ a s.heap loc->z prog w b (cm a) A φ s H (execs c a) m (jQ b a post)
def bP(prog:dO)(w:cN)(b:aW)(k:Nat)(a:dE)(loc:Loc)(st:fw)(m:M (Out c))post:=∀A φ s H,bw k A->Good w b A φ H s.heap->aV b φ a s.heap loc->z prog w b (cm a) A φ s H (exec st a) m (jQ b a post)
def ck(prog:dO)(w:cN)(a:aW)(k:Nat)(f:ay)(m:List V->M V):=∀A φ s H vs b,bw k A->Good w a A φ H s.heap->aH φ s.heap vs b->z prog w a aI A φ s H (call f b) (m vs) am
theorem Wa{H:Hp}(e:H[i]? =some o):H.set i o=H:=by apply s8;intro j;by_cases q:i=j;subst q;exact Y (wj (bR.mp e).1)<|Y e rfl;exact Y (qe q) rfl
theorem Good.slots(G:Good w C A φ H h)(hl:A.frames=some l)(k:Heap.SlotsOnly (l.filterMap (·.frame)) h h'):Good w C A φ H h':=by have p:∀b,b∈l.filterMap (·.frame)->∃o,h.get? b=some o/\(∃Q n,o.data=.dict Q n)/\¬Own φ b/\C.get? b=none:=λb q=>ad (Hl.mp q) λd r s=>nJ ((G.dQ l hl) d r) λa L o hL t i f=>xA f λj g=>ae (ao (hL.symm.trans s))<|(dS o t i j g.1);refine⟨G.rel.keepsAll (lj.up ⟨⟨[],by simp⟩,λb o e=>xE (k.2.2 b o e) λsl c=>⟨_,c⟩,λb o e a q=>(k.2.1 b q).trans e,λa q=>.inl q⟩) (λb o q e=>?_) (λb o q e=>(k.2.1 b λc=>?_).trans e) (λb q=>cT (p b q) λa a a a c=>c),λl' v d r=>?_⟩;exact c_ (p b q) λo' x y a=>fD y λQ m i=>Y (ao (e.symm.trans x))<|⟨λvs n c=>by rw[i]at c;injection c,λzz=>xE zz λvs c=>by rw[i]at c;injection c⟩;exact cT (p b c) λa a a j a=>j q;exact nJ (G.dQ l' v d r) λhk L o s t i f=>xA f λj g=>xE (k.2.2 L o t) λsl e=>(oX hk L _ s e i ⟨j,g⟩)
theorem Good.push(G:Good w a A φ H h)o:Good w a A φ H (h.push o):=G.step (G.rel.push o) (Step.push o)
theorem Good.record{a:Nat}(G:Good w i A φ H h)(l:fq a h j)(k:h.get? a=some o)(f:o.data=.fields vs/\o.cls=.type "traceback")(m:¬Own φ a)(p:i.get? a=none)(g:∃o,j.get? a=some o):Good w i A φ H j:=(G.qO l m p g (λb r q e=>by subst q;rw[k]at e;injection e with c;subst c;exact⟨λs n d=>by rw[f.1]at d;injection d,λt=>by rw[f.2];unfold iL;simp⟩) (λr e ⟨v,n,d⟩=>by rw[k]at e;injection e with c;subst c;rw[f.1]at d;injection d)).1
theorem Good.exc{i:Nat}(G:Good w e A φ H h)(a:φ[i]? =some p)(f:H[i]? =some o)(b:fq p.1 h c)(d:dG w φ c p o):Good w e A φ H c:=by have R:=G.rel.upd a (.inl rfl) b d;rw[Wa f]at R;exact G.step R (Step.upd (dT a).1 b d.there.1)
theorem EL(f:A.frames=some l):b∈l.filterMap (·.frame)↔C1 A b:=by constructor;exact λq=>ad (Hl.mp q) λa c d=>(ak l f (ak a c d));rintro⟨g,e,a,c,d⟩;exact Y (ao (f.symm.trans e))<|Hl.mpr (ak a c d)
noncomputable abbrev mV(head:ay)(L:Nat)(a:List ay):Obj:={cls:=.type "traceback",dict:=none,data:=.fields ([head,.ref L,.none,dN L,.none]++(if a.isEmpty then dq 6 gk else a)).toArray}
theorem PR{s:bS}{M:kg}{i:Nat}(G:Good w hb A φ H s.heap)(hp:φ[i]? =some p)(hH:H[i]? =some (.exc C es true))(he:s.heap.get? p.1=some oe)(hd:oe.data=.fields vs)(ai:1<vs.size)(h0:a1.get? s.heap.objs.size=none)(q:∀c,Good w hb A φ H c->j5 φ c a1 p.1->(∃o,c.get? p.1=some o)->(∀b o,s.heap.get? b=some o->b≠p.1->c.get? b=some o)->Q () {s with heap:=c}):aJ M A (setField (.ref p.1) 1 (.ref s.heap.objs.size)) (λo0 s'=>aJ M A (wo (.ref p.1) none) Q E s') E {s with heap:=s.heap.push (mV head L fl)}:=by
 have av:3<([head,.ref L,.none,dN L,.none]++(if fl.isEmpty then dq 6 gk else fl)).toArray.size:=Y nY<|Y bE<|eS (by decide) (eC 5 _);have af:Good w hb A φ H (s.heap.push (mV head L fl)):=G.push _;have d:=cO (mV head L fl) he;have ap:=dZ s.heap (o:=mV head L fl) rfl;have ax:=qd (du he);have a0:=G.rel.gG (cA _);have a4:=G.rel.hM (cA _);have v:∀b o,s.heap.get? b=some o->b≠s.heap.objs.size/\(s.heap.push (mV head L fl)).get? b=some o:=λb o e=>⟨gN (du e),cO _ e⟩;generalize s.heap.objs.size=T at*;generalize s.heap.push (mV head L fl)=t at*;refine wp d hd ai ?_;have h:fq p.1 t (t.update p.1 (jC (·.setIfInBounds 1 (gO T)))):=kh ..;have k:=AO hd (·.setIfInBounds 1 (gO T));have g:=mJ (jC (·.setIfInBounds 1 (gO T))) d (wq k);generalize t.update p.1 (jC (·.setIfInBounds 1 (gO T)))=n at*;have l:=(h.2 _ ax).trans ap;have a2:Good w hb A φ H n:=by refine af.exc hp hH h<|ad (af.rel.objs i _ hH) λp' a5 ho=>?_;obtain rfl:=ao (hp.symm.trans a5);rcases es with _|j;refine gF ho λa a6 sl a3 e1=>?_;obtain rfl:=ao (d.symm.trans e1);injection hd with aj;exact Y aj<|(ir a _ sl ⟨(wr ..).trans a3.1,λq=>(tf q)⟩ g);refine xA ho λa a7=>eJ a7 λq a6 sl a3 hq e1=>?_;obtain rfl:=ao (d.symm.trans e1);injection hd with aj;exact Y aj<|⟨a,q,_,sl,⟨(wr ..).trans a3.1,λq=>(tf q)⟩,hq,g⟩
 have h1:(vs.setIfInBounds 1 (gO T))[1]? =some (.ref T):=by simp[ai]
 refine ag (iU g k h1 ?_);refine Y (if_pos (by simp))<|wp l rfl av ?_;have m:fq T n (n.update T (jC (·.setIfInBounds 3 ((none:Option fN).elim gk λf=>dN f)))):=kh ..;have r:=AO (rfl:(mV head L fl).data=.fields _) (·.setIfInBounds 3 ((none:Option fN).elim gk λf=>dN f));have x:=mJ (jC (·.setIfInBounds 3 ((none:Option fN).elim gk λf=>dN f))) l (wq r);generalize n.update T (jC (·.setIfInBounds 3 ((none:Option fN).elim gk λf=>dN f)))=c at*;have y:=(m.2 _ ax.symm).trans g;refine q c (a2.record m l ⟨rfl,rfl⟩ a0 a4 ⟨_,x⟩) (kN _ _ y k (Y wr<|ai) (.inr (dK T _ _ h1 x ⟨r,Obj.cls_mapFields _ _⟩ (aX ?_ a0 h0)))) ⟨_,y⟩ λb o e n1=>(m.2 b (v b o e).1).trans ((h.2 b n1).trans (v b o e).2);refine Y (Array.getElem?_setIfInBounds_self_of_lt av) ?_;rfl
theorem Di{M:kg}{g:List dE}{L i:Nat}(ai:A.frames=some (af::g))(hf:af.frame=some L)(G:Good w hb A φ H s.heap)(hp:φ[i]? =some p)(hH:H[i]? =some (.exc C es true))(fl:j5 φ s.heap f p.1)(bx:∀b,f.get? b=none->hb.get? b=none)(b0:∀b o,f.get? b=some o->∃y,s.heap.get? b=some y)(h:∀s',gJ s' s->Good w hb A φ H s'.heap->j5 φ s'.heap f p.1->(∀b o,s.heap.get? b=some o->∃y,s'.heap.get? b=some y)->(∀b o,s.heap.get? b=some o->¬Own φ b->f.get? b≠none->∃y,s'.heap.get? b=some y/\Sl (jr φ) b o y)->Q () s'):aJ M A (noteFrame (.ref p.1) af) (λo0 s'=>aJ M A (wo (.ref p.1) none) Q E s') E s:=by
 refine mz fl λoe vs he hd b1 hT=>?_;have m:=(dT hp).1;have tail:∀(head)(a8)(d),gJ d s->Good w hb A φ H d.heap->d.heap.get? p.1=some oe->(∀b o,s.heap.get? b=some o->∃y,d.heap.get? b=some y)->(∀b o,s.heap.get? b=some o->¬Own φ b->f.get? b≠none->d.heap.get? b=some o)->aJ M A (do let a <-frameOf af;let pl <-entryPlaceOf L a8;let b <-EntryCells.newEntry head a .none (dN L) .none pl;setField (.ref p.1) 1 b) (λo0 s'=>aJ M A (wo (.ref p.1) none) Q E s') E d:=by
  intro head a8 d b2 t a6 v a7;have FF:d.heap.FunFrames ({}) (af::g):=by
   have st:=t.dQ _ ai;generalize af::g=l at st;induction l with
   |nil=>trivial
   |cons e r ih=>exact nJ (st e (.head _)) λhk L' o aj ho b3 o0=>fD b3 λcd n a2=>(aX hk (kN L' o aj rfl ho (λvs q=>by rw[a2]at q;injection q)) (ih λx hx=>st x (.tail _ hx)))
  refine ag (wpAny_frameOf_fun ai FF hf λa0 c=>?_);have bc:p.1∉(af::g).filterMap (·.frame):=λq=>by refine ad ((EL ai).mp q) λl' a3 k=>ad k λen a4 a5=>nJ (t.dQ _ a3 en a4) λo0 L' o aj ho o0 k=>xA k λhn o0=>?_;obtain rfl:=ao (a5.symm.trans aj);exact hn m
  refine ag (wpAny_entryPlaceOf λpl b4=>?_);refine ag (qg ?_ (b4.sizeOk5 _ _ _ _ _));refine PR (t.slots ai c) hp hH ((c.2.1 _ bc).trans a6) hd b1 (by rcases q:f.get? a0.objs.size with _|o;rfl;exact xE (b0 _ o q) λy e'=>xE (v _ y e') λb5 b6=>xE (c.2.2 _ b5 b6) λsl bv=>nomatch (cA a0).symm.trans bv) λb' bk bm ex up=>h _ b2 bk bm (λb o e=>?_) λb o e hn hl=>?_;by_cases n1:b=p.1;exact Y n1<|ex;exact xE (v b o e) λy e'=>xE (c.2.2 b y e') λsl bv=>⟨_,up b _ bv n1⟩;have ap:=a7 b o e hn hl;by_cases a9:C1 A b;refine xE (c.2.2 b o ap) λsl bs=>(ak _ (up b _ bs λq=>hn (q▸m)) (.inr ?_));refine ad a9 λl' a3 k=>ad k λen a4 a5=>nJ (t.dQ _ a3 en a4) λo0 L' y aj b7 a2 k=>cW k λo0 o0 b8 o0=>?_;obtain rfl:=ao (a5.symm.trans aj);obtain rfl:=ao (ap.symm.trans b7);exact(aX b8 a2 ⟨sl,rfl⟩);exact(ak o (up b o ((c.2.1 b λq=>a9 ((EL ai).mp q)).trans ap) λq=>hn (q▸m)) .refl)
 delta noteFrame;simp only[hf];rcases hT with h1|⟨T,oT,ts,h1,av,⟨ax,b9⟩,h3,a',a1⟩;refine ag (iU he hd h1 ?_);exact Y (if_neg (by decide))<|tail _ _ s rfl G he (λb o e=>⟨o,e⟩) λb o e o0 o0=>e;refine ag (iU he hd h1 ?_);refine Y (if_pos (by kernel_rfl))<|ag (iU av ax h3 ?_);refine Y (if_neg (by simp[dN]))<|ag (wp av ax ((nZ.mp h3).1) ?_);have j:fq T s.heap (s.heap.update T (jC (·.setIfInBounds 3 gk))):=kh ..;have bb:=mJ (jC (·.setIfInBounds 3 gk)) av (wq (AO ax (·.setIfInBounds 3 gk)));exact tail _ _ {s with heap:=s.heap.update T (jC (·.setIfInBounds 3 gk))} rfl (G.record j av ⟨ax,b9⟩ a' (bx _ a1) ⟨_,bb⟩) ((j.2 _ (λq=>a' (q▸m))).trans he) (λb o e=>by by_cases q:b=T;exact Y q<|⟨_,bb⟩;exact⟨o,(j.2 b q).trans e⟩) λb o e o0 hl=>(j.2 b (λq=>hl (q▸a1))).trans e
theorem OT{M:kg}{c:List dE}{L i:Nat}(f:A.frames=some (e::c))(l:e.frame=some L)(G:Good w k A φ H s.heap)(m:φ[i]? =some p)(n:H[i]? =some (.exc C r true))(q:j5 φ s.heap a p.1)(g:∀b,a.get? b=none->k.get? b=none)(j:∀b o,a.get? b=some o->∃d,s.heap.get? b=some d)(h:∀s',gJ s' s->Good w k A φ H s'.heap->j5 φ s'.heap a p.1->(∀b o,s.heap.get? b=some o->∃d,s'.heap.get? b=some d)->(∀b o,s.heap.get? b=some o->¬Own φ b->a.get? b≠none->∃d,s'.heap.get? b=some d/\Sl (jr φ) b o d)->Q () s'):aJ M A (leaving e (.ref p.1)) Q E s:=ag (Di f l G m n q g j h)
theorem I6{kindOf:aa->Option wt}:∀{a}{m},x∉a.map (·.1)->bindL kindOf a m x=m x:=by
 intro b;induction b with
 |nil=>intro _ _;exact rfl
 |cons c r d=>intro m h;obtain⟨n,v⟩:=c;simp only[kn,ca,not_or]at h;refine Y (d h.2) ?_;split;exact if_neg h.1;rfl
theorem QD{kindOf:aa->Option wt}:∀{a}{m},x∉a.map (·.1)->bindC kindOf a m x=m x:=by
 intro b;induction b with
 |nil=>intro _ _;exact rfl
 |cons c r d=>intro m h;obtain⟨n,v⟩:=c;simp only[kn,ca,not_or]at h;refine Y (d h.2) ?_;split;rfl;simp[h.1]
theorem QJ{kindOf:aa->Option wt}(hk:kindOf x=some .local):∀{a}{m}{v},(a.map (·.1)).Nodup->a.lookup x=some v->bindL kindOf a m x=some v:=by
 intro a;induction a with
 |nil=>intro m v b h;injection h
 |cons e r c=>obtain⟨n,d⟩:=e;intro m v b h;simp only[kn,mK]at b;by_cases q:x=n;subst q;simp only[lK,s9]at h;refine Y (I6 b.1)<|Y (if_pos hk) ?_;simp[h];rw[dw,beq_false_of_ne q]at h;exact c b.2 h
theorem NJ{kindOf:aa->Option wt}(hk:kindOf x≠some .local):∀{a}{m}{v},(a.map (·.1)).Nodup->a.lookup x=some v->bindC kindOf a m x=some v:=by
 intro a;induction a with
 |nil=>intro m v b h;exact ns h
 |cons e r c=>obtain⟨n,d⟩:=e;intro m v b h;simp only[kn,mK]at b;by_cases q:x=n;subst q;simp only[lK,s9]at h;refine Y (QD b.1)<|Y (if_neg hk) ?_;simp[h];rw[dw,beq_false_of_ne q]at h;exact c b.2 h
theorem aH.DK{a:List aa}(q:aH φ h vs b):(a.zip vs).lookup x=some v->∃c,(a.zip b).lookup x=some c/\am φ h v c:=by revert a;refine q.ind (C:=λvs b=>∀{a:List aa},(a.zip vs).lookup x=some v->∃c,(a.zip b).lookup x=some c/\am φ h v c) (λ{a}e=>?_) λy d ys k f l g a e=>?_;rw[Hm]at e;exact ns e;rcases a with _|⟨p,a⟩;exact ns e;by_cases q:p=x;subst q;exact ae (ao (sM.symm.trans e))<|ak d sM f;exact ad (g ((nN (ch q)).symm.trans e)) λc i j=>ak c ((nN (ch q)).trans i) j
theorem UH{d:Type}{a:List aa}{b:List d}(h:a.length=b.length):(a.zip b).map (·.1)=a:=vP (P:=λ(a)(b)=>(a.zip b).map (·.1)=a) rfl (λx c c c=>congrArg (x::·)) h
noncomputable def Out.val:Out a->V
 | .go _=>.none
 | .ret v=>v
def M.fin(m:M (Out a)):=m.bd λo=>M.ret o.val
def iN(prog:dO)(w:cN)(d:aW)(k:Nat)(f:ay)(m:List V->M V):=∀A φ s H vs g,bw k A->Good w d A φ H s.heap->aH φ s.heap vs g->∀r H',m vs H=some (r,H')->∀(R),(∀c s' b a,r=.ok b->Good w d A c H' s'.heap->aP aI φ s c s'->am c s'.heap b a->R (.ok (.ret a)) s')->(∀c s' x e,r=.ex x->Good w d A c H' s'.heap->eu aI φ s c s' H' x e->R (.error e) s')->eU (aq prog w) A (.call f ⟨g,[]⟩) R s
theorem iN.toF(h:iN prog w a k f m):ck prog w a k f m:=λA φ s H vs b R G c r H' e Q E d g=>qh (h A φ s H vs b R G c r H' e _ d g)
theorem bw.deeper(R:bw (k+1) A):bw k (A.deeper a):=by refine cW R λc d e b=>xE b λl f=>(bA (c.imp id λh=>an [.lt (.a J (.k 1)) (.k 50)] (.lt J (.k 50)) B h) ?_ ?_ ⟨a::l,?_⟩);skip;exact aL [.lt (.a J (.m 2 (.a U (.k 1)))) u] (.lt (.a (.a J (.k 1)) (.m 2 U)) u) B d;skip;exact aL [.lt (.a (.a J (.m 10 (.a U (.k 1)))) (.k 100)) u] (.lt (.a (.a (.a J (.k 3)) (.m 10 U)) (.k 100)) u) B e;refine(?_:A.frames.map _=_);refine Y f ?_;rfl
theorem Good.up(G:Good w b (A.deeper a) φ H h):Good w b A φ H h:=⟨G.rel,λl c e d=>G.dQ (a::l) (by refine(?_:A.frames.map _=_);refine Y c ?_;rfl) e (.tail _ d)⟩
theorem Dp{ex:Nat->Prop}{m:dE}{L:Nat}{M:kg}(hl:A.frames=some l)(hf:m.frame=some L)(hL:d.heap.get? L=none)(av:∀b,ex b->d.heap.get? b=none)(S:aP aI φ d φ n)(ax:∀b,n.heap.get? b=none->hb.get? b=none)(G:Good w hb (A.deeper m) s H' r.heap)(F:eu ex φ n s r H' x e)(h:∀a,Good w hb A s H' a.heap->eu aI φ d s a H' x e->Q () a):aJ M (A.deeper m) (leaving m e) Q E r:=by refine eZ F.is λi p C es a0 a1=>?_;subst a0;refine xA a1 λa2 a3=>?_;subst a2;refine bN a3 λhp fl hH=>OT (by refine(?_:A.frames.map _=_);refine Y hl ?_;rfl) hf G hp hH fl ax F.step.fg λa so y v a4 k1=>h a y.up ⟨⟨⟨F.step.pre,λb o e=>?_,λb o e hn o0=>?_,λb q=>?_⟩,so.os.trans (F.step.os.trans S.os),so.gens.trans (F.step.gens.trans S.gens)⟩,i,p,C,es,rfl,rfl,hp,v.uX λb q=>S.m7 q,hH⟩;exact xE (S.fg b o e) λf c=>xE (F.step.fg b f c) λg j=>a4 b g j;refine ad (S.kp b o e hn id) λf c H=>?_;have k:=S.ie e hn;refine ad (F.step.kp b f c k (λq=>by have:=av b q;rw[e]at this;injection this)) λg j af=>ad (k1 b g j (F.step.ie c k) (by refine Y c ?_;simp)) λai aj ap=>xE F.step.pre λt ht=>(ak ai aj ((H.trans af).trans (ap.low (by exact Y ht<|vX φ t))));rcases F.step.fresh b q with q|q;exact .inl q;exact .inr (S.m7 q)
theorem GA{K:aE}{f:Nat}{ps:List aa}(X:K.In hb)(b1:hb.NoLimit)(ho:K.lookup f=some o)(hd:o.data=.func d)(a4:d.body=.stmts a9)(b2:wu K d.code d.qualname=true)(b3:d.globals=f7)(b4:d.builtins=s7)(a':d.closure=[])(nd:ps.Nodup)(a5:ps.all (λx=>d.scope.names.lookup x==some .local||d.scope.names.lookup x==some .cell)=true)(b5:d.scope.isCoroutine=false)(bb:d.scope.isGenerator=false)(hk:d.scope.kind=.function)(R:bw (k+1) A)(G:Good w hb A φ H s.heap)(b6:BindsTo s d ⟨cs,[]⟩ (ps.zip ax))(a0:aH φ s.heap fvs ax)(bc:ps.length=fvs.length)(hS:∀L s',aP aI φ s φ s'->Good w hb (A.deeper (gP d L f)) φ H s'.heap->aV hb φ (gP d L f) s'.heap (ps.zip fvs)->z prog w hb (cm (gP d L f)) (A.deeper (gP d L f)) φ s' H (execs a9 (gP d L f)) mb (jQ hb (gP d L f) post))(e:mb.fin H=some (r,H'))(hQ:∀C s' b a,r=.ok b->Good w hb A C H' s'.heap->aP aI φ s C s'->am C s'.heap b a->RR (.ok (.ret a)) s')(hE:∀C s' x e,r=.ex x->Good w hb A C H' s'.heap->eu aI φ s C s' H' x e->RR (.error e) s'):eU (aq prog w) A (.call (.ref f) ⟨cs,[]⟩) RR s:=by
 have Xs:=X.keeps G.rel.base;refine xE R.2.2.2 λl hl=>codeAny_call_function (by have:=R.2.1;exact aL [.lt (.a J (.m 2 (.a u (.k 1)))) U] (.lt J U) B this) (Xs _ _ ho) hd b5 bb a4 (codeRec_of Xs b2) (b6 _ _ _ _ ?_);refine Y a' ?_;have t:∀n,∀x∈ps.zip ax,d.scope.names.lookup x.1=some .local\/(d.scope.names.lookup x.1=some .cell/\((cellsFrom n d.scope.names []).lookup x.1).isSome=true):=λn x hx=>by
  have:=c0.mp a5 x.1 (qj (hx)).1;rcases Hn.mp this with q|q;exact .inl (by simpa using q);have q':d.scope.names.lookup x.1=some .cell:=by simpa using q
  exact .inr ⟨q',cellsFrom_some _ _ _ (.inl q')⟩
 refine wpAny_newFunctionEnv_cells hk (t _) λb7 he s' x=>⟨(b1.keeps G.rel.base).keeps x.toInCall.keep,codeAny_func ?_⟩;have b8:b7=gP d s.heap.objs.size f:=he;subst b8;have kp:=x.toInCall.keep;have Q:s.heap.get? s.heap.objs.size=none:=cA _;have S0:aP aI φ s φ s':=(Step.of_keeps kp).so (Ps x.toInCall);have R0:=G.rel.of_keeps kp;have a6:=G.rel.gG Q;have G0:Good w hb (A.deeper (gP d s.heap.objs.size f)) φ H s'.heap:=by
  refine⟨R0,λl' b9 en a1=>?_⟩;have b':(A.deeper (gP d s.heap.objs.size f)).frames=some (gP d s.heap.objs.size f::l):=by refine(?_:A.frames.map _=_);refine Y hl ?_;rfl
  obtain rfl:=ao (b'.symm.trans b9);rcases a1 with _|⟨_,a1⟩;refine eJ x.toInCall.ns λo' es ep cd cf o0=>(oX (by refine(?_);refine Y hk ?_;decide) s.heap.objs.size o' rfl cd (iI es ep cf) (bA a6 (G.rel.hM Q) (G.rel.big (aS _)) G.rel.ne));exact(G.dQ l hl).step S0 en a1
 have i:∀y a,(gP d s.heap.objs.size f).cells.lookup y=some a->s.heap.get? a=none:=λy a q=>by have:=x.above y a (mem_of_lookup q);rcases av:s.heap.get? a with _|o;rfl;exact absurd (du av) (iP.mpr (dU this))
 have a7:((ps.zip ax).map (·.1)).Nodup:=Y (UH (Y a0.length<|bc))<|nd;have F0:aV hb φ (gP d s.heap.objs.size f) s'.heap (ps.zip fvs):=by refine⟨hk,b3,b4,(ak _ x.toInCall.ns (λy v q cl=>?_)),λy v q=>?_,λy a q=>(aX ⟨_,x.cell y a q⟩ (λav=>?_) ?_),x.apart,a6,G.rel.hM Q⟩;exact ad (a0.DK q) λc hc af=>(ak c (QJ cl a7 hc) (af.be S0));refine ad (a0.DK q) λc hc af=>?_;rcases t (s.heap.objs.size+1) _ (mem_of_lookup hc)with k1|⟨k1,k2⟩;exact .inl k1;refine xE (qf.mp k2) λa ha=>.inr (jZ (.inl k1) a c ha ?_ (af.be S0));have:=x.cell y a ha;rwa [NJ (by refine(?_);intro av;have ai:=ao ((k1).symm.trans av);injection ai) a7 hc]at this;exact G.rel.gG (i y a q) av;exact G.rel.hM (i y a q)
 have a8:∀b,cm (gP d s.heap.objs.size f) b->s.heap.get? b=none:=by rintro b (rfl|⟨y,hy⟩);exact Q;exact i y b hy
 rcases hm:mb H with _|av;simp[M.fin,M.bd,hm]at e;obtain⟨bk,aj⟩:=av;refine hS s.heap.objs.size s' S0 G0 F0 bk aj hm _ _ (λg j b a hr m h p=>?_) (λg j ap bm hr m bs=>?_);subst hr;have e':(Rs.ok b.val,aj)=(r,H'):=by simpa[M.fin,M.bd,hm,M.ret]using e
 injection e' with ai a2;subst ai;subst a2;have St:aP aI φ s g j:=by
  refine⟨⟨h.pre,λc o e=>h.fg c o (kp c o e),λc o e hn o0=>?_,λc q=>?_⟩,h.os.trans S0.os,h.gens.trans S0.gens⟩;exact h.kp c o (kp c o e) hn λq=>by have:=a8 c q;exact sn (e.symm.trans this)
  rcases h.fresh c q with q|q;exact .inl q;exact .inr (S0.m7 q)
 rcases b with b|v;refine xA p λa3 o0=>?_;subst a3;exact hQ g j _ _ rfl m.up St .none;refine ad p λc a3 af=>?_;subst a3;exact hQ g j _ _ rfl m.up St af;subst hr;have e':(Rs.ex ap,aj)=(r,H'):=by simpa[M.fin,M.bd,hm]using e
 injection e' with ai a2;subst ai;subst a2;exact Dp hl rfl Q a8 S0 (λb=>R0.hM) m bs λbv bx b0=>hE g bv ap bm rfl bx b0
theorem Ri{K:aE}{f:Nat}{l:List aa}{c:List V->Option (List V)}{mb:List V->M (Out α)}{post:List V->α->Loc}(X:K.In t)(v:t.NoLimit)(ho:K.lookup f=some o)(hd:o.data=.func b)(h:b.body=.stmts m)(y:wu K b.code b.qualname=true)(C:b.globals=f7)(Q:b.builtins=s7)(n:b.closure=[])(nd:l.Nodup)(i:l.all (λx=>b.scope.names.lookup x==some .local||b.scope.names.lookup x==some .cell)=true)(j:∀φ s vs q fvs,K.In s.heap->aH φ s.heap vs q->c vs=some fvs->∃g,BindsTo s b ⟨q,[]⟩ (l.zip g)/\aH φ s.heap fvs g/\l.length=fvs.length)(hS:∀L fvs,l.length=fvs.length->dm prog w t k (gP b L f) (l.zip fvs) m (mb fvs) (post fvs))(af:b.scope.isCoroutine=false)(p:b.scope.isGenerator=false)(hk:b.scope.kind=.function):iN prog w t (k+1) (.ref f) (λvs=>match c vs with|some fvs=>(mb fvs).fin|none=>M.bad):=by intro A φ s H vs q R G hv r H' e RR hQ hE;dsimp only at e;rcases a:c vs with _|fvs;rw[a]at e;exact ns e;rw[a]at e;dsimp only at e;exact c_ (j φ s vs q fvs (X.keeps G.rel.base) hv a) λg ai aj d=>GA X v ho hd h y C Q n nd i af p hk R G ai aj d (λL s' S=>hS L fvs d _ φ s' H R.deeper) e hQ hE
theorem z.operate(y:z prog w d f A φ s H t m P):z prog w d f A φ s H (operate vs t) m P:=λr H' e Q E h i=>ag (da (y r H' e _ E (λc s' b a j G S p=>ag (AP (aK (h c s' b a j G S p)))) i))
theorem z.val(G:Good w i A φ H s.heap)(x:∀Q E,(∀a s',ju s' s->P φ s.heap b a->Q a s')->aJ (aq prog w) A t Q E s):z prog w i k A φ s H t (M.ret b) P:=by intro r H' e Q E j _;injection e with d;injection d with f h;subst f;subst h;exact x Q E λa s' c p=>j φ s' b a rfl (c.heap▸G) c.Sq (c.heap▸p)
theorem z.pS(x:z prog w hb ex A φ s H t (M.ret v) P)(y:∀k s' a,Good w hb A k H s'.heap->aP ex φ s k s'->P k s'.heap v a->z prog w hb ex A k s' H (f a) m P'):z prog w hb ex A φ s H (t>>=f) m P':=by refine λr H' e Q E hQ hE=>ag (x _ _ rfl _ _ (λj l b a hr G S p=>?_) λj l aj ap hr G F=>(by injection hr));injection hr with ai;subst ai;exact y j l a G S p r H' e Q E (λc h n o d i q=>hQ c h n o d i (S.trans q)) λc h C L d i af=>hE c h C L d i (af.after S)
theorem Ff(e:loc.lookup x=some v)(a:(x==("__debug__":aa))=false)(b:(x==("__classdict__":aa))=false):aF prog w g k f loc (.Name x pos) (M.ret v):=λA φ s H h G F=>z.val G λQ E q=>by obtain⟨c,d,ld⟩:=F.load e a b;exact ld _ Q E (q c s rfl d)
theorem QC{K:aE}{mb:aa->Option ay}(X:K.In b)(d:b.Ns f7 h)(f:a.kindOf x=some .globalImplicit)(e:nsIn K f7 x=some (some c))(g:(x==("__debug__":aa))=false):aF prog w b k a loc (.Name x pos) (M.ret (.g c)):=λA φ s H i G F=>z.val G λQ E q=>Ho F.kind f (loadGlobal_global (Y F.gl<|d.keeps G.rel.base) (mg_of X d e) (q c s rfl (.g c))) g
theorem SJ{K:aE}(X:K.In a)(d:a.Ns f7 j)(Tb:a.Ns s7 mb)(f:mb x=AQ x)(g:b.kindOf x=some .globalImplicit)(e:nsIn K f7 x=some none)(h:AQ x=some c)(i:(x==("__debug__":aa))=false):aF prog w a k b loc (.Name x pos) (M.ret (.g c)):=λA φ s H l G F=>z.val G λQ E q=>Ho F.kind g (loadGlobal_builtin (Y F.gl<|d.keeps G.rel.base) (mg_none_of X d e) (Y F.bl<|Tb.keeps G.rel.base) (f.trans h) (q c s rfl (.g c))) i
theorem Kp:aF prog w c k b loc (.Constant (.int i) kk pos) (M.ret (.int i)):=λA φ s H a G a=>z.val G λQ E q=>wpAny_Constant_int (q _ _ rfl (.int i _))
theorem SX:aF prog w c k b loc (.Constant .none kk pos) (M.ret .none):=λA φ s H a G a=>z.val G λQ E q=>wpAny_Constant_none (q _ _ rfl .none)
theorem Rx:aF prog w d k c loc (.Constant (.bool b) kk pos) (M.ret (.bool b)):=λA φ s H a G a=>z.val G λQ E q=>wpAny_Constant_bool (q _ _ rfl (.bool b))
theorem CX:aF prog w c k b loc (.Constant (.str x) kk pos) (M.ret (.str x)):=λA φ s H a G a=>z.val G λQ E q=>wpAny_Constant_str (q _ _ rfl (.str x _))
def M.bin(f:V->V->M V)(a b:M V):=a.bd λx=>b.bd λy=>f x y
def dA(prog:dO)(w:cN)(e:aW)(k:Nat)(t:ay->ay->a_ ay)(f:V->V->M V):=∀A φ s H a b c d,bw k A->Good w e A φ H s.heap->am φ s.heap a c->am φ s.heap b d->z prog w e aI A φ s H (t c d) (f a b) am
theorem TV(C:aF prog w y k h loc l L)(Q:aF prog w y k h loc r mr)(hf:dA prog w y k (iV op) f):aF prog w y k h loc (.BinOp l op r pos) (M.bin f L mr):=λA φ s H R G F=>Y (eval_BinOp _ _ _ _ _)<|(C A φ s H R G F).bd λe i j a c m n p=>((Q A e i j R m (F.step n)).holding).bd λg o t b d v x q=>z.at_ (z.operate (hf A g o t a b c d R v (p.be x) q))
theorem Ub(L:aF prog w y k h loc l Q)(hr:aF prog w y k h loc r mr)(hf:dA prog w y k (gQ C) f)(hm:Hr C r=false):aF prog w y k h loc (.Compare l [C] [r] pos) (M.bin f Q mr):=λA φ s H R G F=>Y (eval_Compare1 _ _ _ _ _)<|(L A φ s H R G F).bd λe i j a c m n p=>Y (Wq hm)<|((hr A e i j R m (F.step n)).holding).bd λg o t b d v x q=>z.at_ (z.operate (hf A g o t a b c d R v (p.be x) q))
theorem M.cR{m:M c}{g:d->M γ}:(m.bd f).bd g=m.bd λa=>(f a).bd g:=by funext H;unfold M.bd;rcases m H with _|b;rfl;obtain⟨r,H'⟩:=b;rcases r<;>rfl
noncomputable def M.list:List (M V)->M (List V)
 |[]=>M.ret []
 |m::r=>m.bd λv=>(M.list r).bd λvs=>M.ret (v::vs)
inductive db prog w hb k env loc:List aY->List (M V)->Prop
 |nil:db prog w hb k env loc [] []
 |cons {e:aY} {m:M V} {es:List aY} {ms:List (M V)} (h:aF prog w hb k env loc e m) (hs:db prog w hb k env loc es ms) (he:d4 (e::es) env=(false,br e env)::d4 es env):db prog w hb k env loc (e::es) (m::ms)
theorem db.run(h:db prog w l k e loc x ms):∀{A}{φ}{s}{H},bw k A->Good w l A φ H s.heap->aV l φ e s.heap loc->z prog w l aI A φ s H (spliced (fy pos (d4 x e))) (M.list ms) aH:=by induction h with
 |nil=>intro A φ s H R G F;exact z.pure G .nil
 |cons h L y C=>intro A φ s H R G F;exact Y y<|(h A φ s H R G F).bd λm o r a c f g p=>((C R f (F.step g)).holding).bd λn t v b d i j q=>z.pure i (.cons _ _ _ _ (p.be j) q)
def gW(K:aE)f:=∀(M)h,K.In h->∃k,(k=Keeper.frame\/k=Keeper.machine\/k=Keeper.boundFrame)/\d5 M h (keeperOf f) k
theorem Dd{K:aE}(hk:keepIn K f=true):gW K f:=λa h X=>keeps_K hk h X
theorem N6{K:aE}{id:String}:gW K (.builtin id):=λa a a=>(ak .machine (.inr (.inl rfl)) .now)
theorem Ad{K:aE}{id:String}:gW K (.type id):=λa a a=>(ak .machine (.inr (.inl rfl)) .now)
theorem M_{K:aE}{m:List V->M β}(X:K.In C)(hk:gW K f)(ha:db prog w C k l loc n ms)(hf:∀A φ s H vs cs,bw k A->Good w C A φ H s.heap->aH φ s.heap vs cs->z prog w C aI A φ s H (call f cs) (m vs) P)(R:bw k A)(G:Good w C A φ H s.heap)(F:aV C φ l s.heap loc)(hv:aH φ s.heap first cf):z prog w C aI A φ s H (qk pos f cf (fy o (d4 n l)) []) ((M.list ms).bd λvs=>m (first++vs)) P:=by
 intro r H' e Q E hQ hE;have x:((fy o (d4 n l)).any (·.1)||([]:List (Option aa×a_ ay)).any (·.1.isNone))=false:=by
  have:∀{es}{ns},db prog w C k l loc es ns->(fy o (d4 es l)).any (·.1)=false:=by
   intro es ns h;induction h with
   |nil=>rfl
   |cons h hs he ih=>refine Y he<|(?_);refine Y ih ?_;rfl
  refine Y (this ha) ?_;rfl
 refine wv x (hk _) ?_;have go:aJ (aq prog w) A (spliced (fy o (d4 n l))) (λvs c=>K.In c.heap/\aJ (aq prog w) A (call f (cf++vs)) Q E c) E s:=by unfold M.bd at e;rcases hm:M.list ms H with _|a6;rw[hm]at e;injection e;obtain⟨L,y⟩:=a6;rw[hm]at e;refine ha.run R G F L y hm _ _ (λd c b a hr j q p=>?_) λd c af ai hr j aj=>?_;subst hr;dsimp only at e;exact⟨X.keeps j.rel.base,hf A d c y _ _ R j ((hv.be q).append p) r H' e Q E (λg t ap av i v ax=>hQ g t ap av i v (q.trans ax)) λg t a0 a1 i v a2=>hE g t a0 a1 i v (a2.after q)⟩;subst hr;injection e with a3;injection a3 with a4 a5;subst a4;subst a5;exact hE d c af ai rfl j aj
 rcases ha with _|⟨h,hs,he⟩;exact evalArgs_nil3 ⟨X.keeps G.rel.base,hf A φ s H _ _ R G (hv.append .nil) r H' e Q E hQ hE⟩;rw[he]at go⊢;exact AR go
theorem um{K:aE}(X:K.In a)(hk:gW K f)(e:db prog w a k b loc c ms)(g:ck prog w a k f m)(R:bw k A)(G:Good w a A φ H s.heap)(F:aV a φ b s.heap loc)(h:aH φ s.heap first i):z prog w a aI A φ s H (qk pos f i (fy d (d4 c b)) []) ((M.list ms).bd λvs=>m (first++vs)) am:=M_ X hk e g R G F h
def M.call(m:List V->M V)ms:=(M.list ms).bd m
theorem KT{K:aE}(X:K.In g)(h:aF prog w g k a loc fe (M.ret (.g f)))(hk:gW K f)(n:db prog w g k a loc b ms)(o:ck prog w g k f m)(i:br (.Call fe b [] pos) a=(do qk pos (<-br fe a) [] (fy pos (d4 b a)) (lL pos (lM [] a)))):aF prog w g k a loc (.Call fe b [] pos) (M.call m ms):=λA φ s H R G F=>by refine Y i<|z.pS (h A φ s H R G F) λj l c d e p=>?_;obtain rfl:=am.gv p;exact um X hk n o R d (F.step e) .nil
def dH(prog:dO)(w:cN)(b:aW)(name:aa)(a:V->M Unit)f:=∀A φ s H o c r H',Good w b A φ H s.heap->am φ s.heap o c->a o H=some (r,H')->r=.ok ()/\H'=H/\∀(d)(Q)(E),Q (f,[c]) s->aJ (aq prog w) A (getMethod c name d) Q E s
def M.EA(a:V->M Unit)(m:List V->M V)(b:M V)ms:=b.bd λo=>(a o).bd λc=>(M.list ms).bd λvs=>m (o::vs)
theorem Md{K:aE}(X:K.In q)(ho:aF prog w q k b loc o mo)(hg:dH prog w q name t f)(hk:gW K f)(ha:db prog w q k b loc d ms)(hf:ck prog w q k f m)(j:ql o name b (br o b)=br o b)(v:s_ (d.length+([]:List ww).length) (fy pos (d4 d b)) (lL pos (lM [] b))=true)(l:(g.endLine==pos.line)=true):aF prog w q k b loc (.Call (.Attribute o name g) d [] pos) (M.EA t m mo ms):=λA φ s H R G F=>by
 refine Y (Hs _ _ _ _ _ _ _)<|Y j<|(ho A φ s H R G F).bd λn x h a c i y p=>z.at_ ?_;have C:tc true o b g pos=pure pos:=by delta tc;simp[l]
 delta Ht;refine Y v ?_;intro r H' e Q E hQ hE;delta M.bd at e;rcases hc:t a h with _|ai;rw[hc]at e;exact ns e;obtain⟨L,af⟩:=ai;rw[hc]at e;obtain⟨rfl,rfl,get⟩:=hg A n x h a c L af i p hc;dsimp only at e;refine ag (da (get _ _ _ ?_));refine Y C<|ag (aK ?_);exact um X hk ha hf R i (F.step y) (.cons _ _ _ _ p .nil) r H' e Q E hQ hE
def M.BI ms:=(M.list ms).bd λvs=>if vs.length<=bH then M.alloc (.list vs)else M.bad
def M.vR(ms:List (M V)):M V:=(M.list ms).bd λvs=>if vs.length<=bH then M.ret (.tup vs)else M.bad
theorem Good.vq(G:Good w a A φ H h)(c:aH φ h xs vs):Rel w a (φ++[(h.objs.size,h.objs.size)]) (H++[.list xs]) (h.push (cx vs.toArray n))/\Step aI φ h (φ++[(h.objs.size,h.objs.size)]) (h.push (cx vs.toArray n)):=by have k:∀b o,h.get? b=some o->(h.push (cx vs.toArray n)).get? b=some o:=λb o e=>cO _ e;have S:Step aI φ h (φ++[(h.objs.size,h.objs.size)]) (h.push (cx vs.toArray n)):=Step.new k (cA h) (cA h);exact⟨G.rel.new k (aS _) (aS _) (ir rfl vs.toArray n (dZ _ rfl) (Y Wr<|c.be S)),S⟩
theorem Good.jm(R:Rel w b φ H h)p a:am (φ++[p]) a (.ref H.length) (.ref p.1):=by refine .ref _ p<|ae R.len<|Y (mI (aS _)) ?_;simp
theorem IA(G:Good w f A φ H s.heap)(d:aH φ s.heap xs vs):z prog w f aI A φ s H (newList vs) (if xs.length<=bH then M.alloc (.list xs)else M.bad) am:=by refine z.kR λg=>z.of (λr H' e=>?_) G;injection e with a;injection a with b c;subst b;subst c;refine(ak _ rfl (λQ E q=>?_));refine xA (G.vq d) λh i=>qg (q _ _ _ h i (Good.jm G.rel _ _)) (by refine(?_:vs.toArray.size<=bH);exact Y nY<|Y d.length<|g)
theorem B_(G:Good w f A φ H s.heap)(d:aH φ s.heap xs vs):z prog w f aI A φ s H (newTuple vs) (if xs.length<=bH then M.ret (.tup xs)else M.bad) am:=by refine z.kR λg=>z.of (λr H' e=>?_) G;injection e with a;injection a with b c;subst b;subst c;refine(ak _ rfl (λQ E q=>?_));refine qg (q _ _ _ (G.rel.push _) (Step.s (.push _)) ?_) (by refine(?_:vs.toArray.size<=bH);exact Y nY<|Y d.length<|g);exact .tup _ 0 _ _ (dZ _ rfl) (G.rel.gG (cA _)) (d.be (Step.push _))
theorem Q_(i:db prog w j k d loc l ms):aF prog w j k d loc (.List l pos) (M.BI ms):=λA φ s H R G F=>Y (arm_eval_List _ _ _)<|z.at_ ((i.run R G F).bd λe f g a c b h p=>IA b p)
theorem Nc(i:db prog w j k d loc l ms):aF prog w j k d loc (.Tuple l kk pos) (M.vR ms):=λA φ s H R G F=>Y (arm_eval_Tuple _ _ _ _)<|z.at_ ((i.run R G F).bd λe f g a c b h p=>B_ b p)
def M.truth(v:V):=match v with
 | .bool b=>M.ret b
 |_=>M.bad
def M.ite(c:M Bool)(a b:M d):=c.bd λx=>match x with
 |true=>a
 |false=>b
theorem tU(G:Good w e A φ H s.heap)(f:am φ s.heap v c):z prog w e aI A φ s H (truthy c) (M.truth v) (λd d b a=>b=a):=am.casesOn f z.bad (λb=>z.val G λQ E q=>Hu (q b s rfl rfl)) (λd d=>z.bad) (λd d=>z.bad) (λd d d=>z.bad) (λd=>z.bad) (λd d d d d d d=>z.bad) (λd d d d d d d=>z.bad) λd d d d d d=>z.bad
theorem Ov(hl:aF prog w Q k h loc l ml)(hr:aF prog w Q k h loc r mr)(hf:dA prog w Q k (gQ op) f)(hm:Hr op r=false):gc prog w Q k h loc (.Compare l [op] [r] pos) ((M.bin f ml mr).bd M.truth):=λA φ s H R G F=>Y (isTrue_Compare1 _ _ _ _ _ _)<|Y M.cR<|(hl A φ s H R G F).bd λe i j a c m n p=>Y (Wq hm)<|Y M.cR<|((hr A e i j R m (F.step n)).holding).bd λg o t b d v C q=>z.at_<|(z.operate (hf A g o t a b c d R v (p.be C) q)).bd λaf ai aj x y L ap av=>(tU L av).holding
theorem zC(h:aF prog w l k b loc e m)(n:isTrue e b (br e b)=(do let v <-br e b;standAt e.pos;nX [v] (truthy v))):gc prog w l k b loc e (m.bd M.truth):=λA φ s H R G F=>Y n<|(h A φ s H R G F).bd λf g i a c d j p=>z.at_ (tU d p).holding
theorem R6(h:gc prog w n k f loc e m):gc prog w n k f loc (.UnaryOp .Not e pos) (m.bd λb=>M.ret (!b)):=λA φ s H R G F=>Y (arm_isTrue_UnaryOp _ _ _ _)<|(h A φ s H R G F).bd λg i j a c d l p=>z.pure d (Y p rfl)
theorem Vz{mt:M Bool}(m:gc prog w j k i loc t mt)(n:aF prog w j k i loc a o)(l:aF prog w j k i loc b mb):aF prog w j k i loc (.IfExp t a b pos) (M.ite mt o mb):=λA φ s H R G F=>by refine Y (arm_eval_IfExp _ _ _ _ _)<|(m A φ s H R G F).bd λd e f x c g h p=>?_;subst p;rcases x;exact l A d e f R g (F.step h);exact n A d e f R g (F.step h)
noncomputable def M.sC:List (M Bool)->M Bool
 |[]=>M.ret true
 |m::r=>m.bd λb=>match b with
 |true=>M.sC r
 |false=>M.ret false
noncomputable def M.sA:List (M Bool)->M Bool
 |[]=>M.ret false
 |m::r=>m.bd λb=>match b with
 |true=>M.ret true
 |false=>M.sA r
inductive jW prog w hb k env loc:List aY->List (M Bool)->Prop
 |nil:jW prog w hb k env loc [] []
 |cons {e:aY} {m:M Bool} {es:List aY} {ms:List (M Bool)} (h:gc prog w hb k env loc e m) (hs:jW prog w hb k env loc es ms):jW prog w hb k env loc (e::es) (m::ms)
theorem jW.and(h:jW prog w g k e loc m ms):∀{A}{φ}{s}{H},bw k A->Good w g A φ H s.heap->aV g φ e s.heap loc->z prog w g aI A φ s H (allTrue .And m e) (M.sC ms) (λn n b a=>b=a):=by induction h with
 |nil=>intro A φ s H R G F;exact z.pure G rfl
 |cons h q o=>intro A φ s H R G F;refine(h A φ s H R G F).bd λi j l x c d f p=>?_;subst p;rcases x;exact z.pure d rfl;exact o R d (F.step f)
theorem jW.or(h:jW prog w g k e loc m ms):∀{A}{φ}{s}{H},bw k A->Good w g A φ H s.heap->aV g φ e s.heap loc->z prog w g aI A φ s H (allTrue .Or m e) (M.sA ms) (λn n b a=>b=a):=by induction h with
 |nil=>intro A φ s H R G F;exact z.pure G rfl
 |cons h q o=>intro A φ s H R G F;refine(h A φ s H R G F).bd λi j l x c d f p=>?_;subst p;rcases x;exact o R d (F.step f);exact z.pure d rfl
theorem JE(h:jW prog w b k a loc c ms):gc prog w b k a loc (.BoolOp .And c pos) (M.sC ms):=λA φ s H R G F=>Y (arm_isTrue_BoolOp _ _ _ _ _)<|h.and R G F
theorem IG(h:jW prog w b k a loc c ms):gc prog w b k a loc (.BoolOp .Or c pos) (M.sA ms):=λA φ s H R G F=>Y (arm_isTrue_BoolOp _ _ _ _ _)<|h.or R G F
noncomputable def M.nP:List (M V)->M V
 |[]=>M.bad
 |[m]=>m
 |m::r=>m.bd λv=>(M.truth v).bd λb=>match b with
 |true=>M.nP r
 |false=>M.ret v
noncomputable def M.np:List (M V)->M V
 |[]=>M.bad
 |[m]=>m
 |m::r=>m.bd λv=>(M.truth v).bd λb=>match b with
 |true=>M.ret v
 |false=>M.np r
theorem db.nP(h:db prog w j k f loc v ms):∀{A}{φ}{s}{H},bw k A->Good w j A φ H s.heap->aV j φ f s.heap loc->z prog w j aI A φ s H (boolOp pos .And (evalEach v f)) (M.nP ms) am:=by induction h with
 |nil=>intro A φ s H R G F;exact z.bad
 |cons h y he C=>intro A φ s H R G F;rcases y with _|⟨h',L,Q⟩;exact h A φ s H R G F;refine(h A φ s H R G F).bd λl n o x c g i p=>z.at_<|((tU g p).holding).bd λm r t b d a e q=>?_;subst q;rcases b;exact z.pure a (p.be e);exact C R a (F.step (i.trans e))
theorem db.np(h:db prog w j k f loc v ms):∀{A}{φ}{s}{H},bw k A->Good w j A φ H s.heap->aV j φ f s.heap loc->z prog w j aI A φ s H (boolOp pos .Or (evalEach v f)) (M.np ms) am:=by induction h with
 |nil=>intro A φ s H R G F;exact z.bad
 |cons h y he C=>intro A φ s H R G F;rcases y with _|⟨h',L,Q⟩;exact h A φ s H R G F;refine(h A φ s H R G F).bd λl n o x c g i p=>z.at_<|((tU g p).holding).bd λm r t b d a e q=>?_;subst q;rcases b;exact C R a (F.step (i.trans e));exact z.pure a (p.be e)
theorem UY(h:db prog w b k a loc c ms):aF prog w b k a loc (.BoolOp .And c pos) (M.nP ms):=λA φ s H R G F=>h.nP R G F
theorem OF(h:db prog w b k a loc c ms):aF prog w b k a loc (.BoolOp .Or c pos) (M.np ms):=λA φ s H R G F=>h.np R G F
theorem VU(x:aF prog w n k g loc o y)(C:∀A φ s H a c,bw k A->Good w n A φ H s.heap->am φ s.heap a c->z prog w n aI A φ s H (wx c name true) (f a) am)(h:ql o name g (br o g)=br o g):aF prog w n k g loc (.Attribute o name pos) (y.bd f):=λA φ s H R G F=>by refine Y (arm_eval_Attribute _ _ _ _)<|Y h<|(x A φ s H R G F).bd λi j l a c m v p=>z.at_<|λr H' e Q E L hE=>ag ((C A i j l a c R m p).holding r H' e _ E (λt s' b d hr G' S' q=>?_) hE);exact ag (wpAny_letTemporaryGo (aK (L t s' b d hr G' S' q)))
def M.int(v:V)(f:Int->M a):=match v with
 | .int i=>f i
 |_=>M.bad
def M.str(v:V)(f:aa->M a):=match v with
 | .str i=>f i
 |_=>M.bad
def M.bool(v:V)(f:Bool->M a):=match v with
 | .bool i=>f i
 |_=>M.bad
def M.ref(v:V)(f:Nat->M a):=match v with
 | .ref i=>f i
 |_=>M.bad
noncomputable def M.tup(v:V)(f:List V->M a)(e:M a):=match v with
 | .tup i=>f i
 |_=>e
def M.vc(v:V)(b:Int->M a)(c:aa->M a)(d:Nat->M a):=match v with
 | .int i=>b i
 | .str x=>c x
 | .ref i=>d i
 |_=>M.bad
def M.bM p[Decidable p](m:M a):=if p then m else M.bad
noncomputable def O.lB(o:O):=match o with
 | .list xs=>some xs
 |_=>none
noncomputable def O.sE(o:O):=match o with
 | .list xs=>some xs
 | .lit xs _ _=>some xs
 |_=>none
noncomputable def V.eH(v:V)(H:Hp):=match v with
 | .ref i=>H[i]?
 |_=>gM
def M.cC(v:V):=M.opt λH=>(v.eH H).bind O.lB
def M.jU(v:V):=M.opt λH=>(v.eH H).bind O.sE
def M.d8 xs:=if xs.length<=bH then M.alloc (.list xs)else M.bad
noncomputable def uP:=2^1000
theorem z.int{t:ay->a_ j}(b:am φ s.heap v c)(k:∀i d,z prog w e h A φ s H (t (.int i d)) (f i) P):z prog w e h A φ s H (t c) (M.int v f) P:=am.casesOn b z.bad (λa=>z.bad) k (λa a=>z.bad) (λa a a=>z.bad) (λa=>z.bad) (λa a a a a a a=>z.bad) (λa a a a a a a=>z.bad) λa a a a a a=>z.bad
theorem z.str{t:ay->a_ j}(b:am φ s.heap v c)(k:∀i d,z prog w e h A φ s H (t (.str i d)) (f i) P):z prog w e h A φ s H (t c) (M.str v f) P:=am.casesOn b z.bad (λa=>z.bad) (λa a=>z.bad) k (λa a a=>z.bad) (λa=>z.bad) (λa a a a a a a=>z.bad) (λa a a a a a a=>z.bad) λa a a a a a=>z.bad
theorem z.bool{t:ay->a_ h}(b:am φ s.heap v c)(k:∀i,z prog w d e A φ s H (t (.bool i)) (f i) P):z prog w d e A φ s H (t c) (M.bool v f) P:=am.casesOn b z.bad k (λa a=>z.bad) (λa a=>z.bad) (λa a a=>z.bad) (λa=>z.bad) (λa a a a a a a=>z.bad) (λa a a a a a a=>z.bad) λa a a a a a=>z.bad
theorem z.vc{t:ay->a_ o}(h:am φ s.heap v c)(j:∀i b,z prog w d f A φ s H (t (.int i b)) (k i) P)(l:∀i b,z prog w d f A φ s H (t (.str i b)) (m i) P)(kr:∀i p,am φ s.heap (.ref i) (.ref p)->z prog w d f A φ s H (t (.ref p)) (n i) P):z prog w d f A φ s H (t c) (M.vc v k m n) P:=am.casesOn h z.bad (λa=>z.bad) j l (λi p e=>kr i p.1 (.ref i p e)) (λa=>z.bad) (λa a a a a a a=>z.bad) (λa a a a a a a=>z.bad) λa a a a a a=>z.bad
theorem z.bM[Decidable p](k:p->z prog w a b A φ s H t m P):z prog w a b A φ s H t (M.bM p m) P:=by unfold M.bM;exact z.kR λc=>k ‹_›
theorem z.nl(y:∀a,f H=some a->z prog w c d A φ s H t (m a) P):z prog w c d A φ s H t ((M.opt f).bd m) P:=by intro r H' e Q E h i;unfold M.bd M.opt at e;rcases b:f H with _|a;rw[b]at e;exact ns e;rw[b]at e;exact y a b r H' e Q E h i
theorem aN.nl(h:aN (((M.opt f).bd g) H) Q E):∃a,f H=some a/\aN (g a H) Q E:=by have h:=h.bd;unfold M.opt at h;rcases b:f H with _|a;rw[b]at h;exact h.elim;rw[b]at h;exact(ak a rfl h)
theorem EX(e:((M.opt f).bd λg=>M.ret ()) H=some (r,H')):∃a,f H=some a/\r=.ok ()/\H'=H:=ad (aN.nl (aN.of (Q:=λb c=>r=.ok b/\H'=c) (E:=λx g=>r=.ex x) e (λb d=>⟨d,rfl⟩) λx d=>d)) λa h i=>(ak a h i)
theorem z.ref{t:ay->a_ h}(b:am φ s.heap v c)(k:∀i p,φ[i]? =some p->z prog w d e A φ s H (t (.ref p.1)) (f i) P):z prog w d e A φ s H (t c) (M.ref v f) P:=am.casesOn b z.bad (λa=>z.bad) (λa a=>z.bad) (λa a=>z.bad) k (λa=>z.bad) (λa a a a a a a=>z.bad) (λa a a a a a a=>z.bad) λa a a a a a=>z.bad
theorem Good.obj(G:Good w j A φ H h)(f:am φ h v c)(e:v.eH H=some o):∃i p,v=.ref i/\c=.ref p.1/\φ[i]? =some p/\H[i]? =some o/\dG w φ h p o:=by
 revert e;refine am.casesOn f (λe=>ns e) (λa e=>ns e) (λa a e=>ns e) (λa a e=>ns e) (λi p d e=>?_) (λa e=>ns e) (λa a a a a a a e=>ns e) (λa a a a a a a e=>ns e) λa a a a a a e=>ns e;refine ad (G.rel.objs i _ e) λk b g=>?_;obtain rfl:=ao (d.symm.trans b);exact(iu i p rfl rfl d e g)
set_option tactic.hygienic true in
theorem O.vO{o:O}(e:o.lB=some xs):o=.list xs:=by
 rcases o;case list ys=>refine Y (ao e) ?_;rfl
 all_goals exact ns e
theorem Good.list{w:cN}{s:aW}{A:fu}{φ:cy}{H:Hp}{h:aW}{v:V}{c:ay}{xs:List V}{r:Rs (List V)}{H':Hp}(G:Good w s A φ H h)(b:am φ h v c)(e:M.cC v H=some (r,H')):∃i p ys vs n,r=.ok ys/\H'=H/\v=.ref i/\c=.ref p.1/\p.2=p.1/\φ[i]? =some p/\H[i]? =some (.list ys)/\h.get? p.1=some (cx vs n)/\aH φ h ys vs.toList:=by unfold M.cC M.opt at e;dsimp only at e;rcases d:(v.eH H).bind O.lB with _|ys;rw[d]at e;injection e;rw[d]at e;injection e with f;injection f with j k;refine ae j<|ae k<|ad (ii.mp d) λo q t=>?_;rw[O.vO t]at q;exact je (G.obj b q) λi p b x y hi l=>gF l λa vs n g m=>(lu i p ys vs n rfl (mW rfl b x a (bA y hi g m)))
theorem O.E4(e:o.sE=some ys)(f:dG w φ h p o):∃vs n d,h.get? p.1=some d/\(d.cls=.type "list"/\d.data=.seq vs n)/\aH φ h ys vs.toList:=by rcases o with xs|_|_|_|_|_|⟨xs,a,b⟩;exact ae (ao e)<|gF f λa vs n g c=>(nu vs n _ g ⟨rfl,rfl⟩ c);exact ns e;exact ns e;exact ns e;exact ns e;exact ns e;exact ae (ao e)<|kJ f λg i vs n q c=>(nu vs n _ g q c)
theorem Good.yC(G:Good w t A φ H h)(k:am φ h v c)(e:M.jU v H=some (r,H')):∃(p:Nat×Nat)(ys:List V)(vs:Array ay)(n:Nat)(a:Obj),r=.ok ys/\H'=H/\c=.ref p.1/\h.get? p.1=some a/\(a.cls=.type "list"/\a.data=.seq vs n)/\aH φ h ys vs.toList:=by unfold M.jU M.opt at e;dsimp only at e;rcases b:(v.eH H).bind O.sE with _|ys;rw[b]at e;injection e;rw[b]at e;injection e with d;injection d with f j;subst f;subst j;exact bh λx l=>ad (ii.mp b) λo m q=>je (G.obj k m) λi p k s y hi a=>ui (O.E4 q a) λvs n a g=>l<|(lu p ys vs n a rfl (aX rfl s g))
theorem z.cC(G:Good w f A φ H s.heap)(b:am φ s.heap v c)(y:∀i p ys vs n,v=.ref i->c=.ref p.1->p.2=p.1->φ[i]? =some p->H[i]? =some (.list ys)->s.heap.get? p.1=some (cx vs n)->aH φ s.heap ys vs.toList->z prog w f j A φ s H t (m ys) P):z prog w f j A φ s H t ((M.cC v).bd m) P:=z.nl λys k=>by refine ad (ii.mp k) λo h l=>?_;rw[O.vO l]at h;exact je (G.obj b h) λi p b q r hi d=>gF d λa vs n g e=>y i p ys vs n b q a r hi g e
theorem z.getL{t:ay->a_ k}(G:Good w f A φ H s.heap)(h:am φ s.heap v c)(y:∀(a:Nat)ys vs n,s.heap.get? a=some (cx vs n)->aH φ s.heap ys vs.toList->z prog w f j A φ s H (t (.ref a)) (m ys) P):z prog w f j A φ s H (t c) ((M.cC v).bd m) P:=z.cC G h λi p ys vs n b e b b b g d=>e▸y p.1 ys vs n g d
theorem z.jU(G:Good w b A φ H s.heap)(d:am φ s.heap v c)(y:∀(p:Nat×Nat)ys vs n a,c=.ref p.1->s.heap.get? p.1=some a->(a.cls=.type "list"/\a.data=.seq vs n)->aH φ s.heap ys vs.toList->z prog w b e A φ s H t (m ys) P):z prog w b e A φ s H t ((M.jU v).bd m) P:=z.nl λys f=>ad (ii.mp f) λo h j=>je (G.obj d h) λi p d k x hi a=>eJ (O.E4 j a) λvs n a l q r=>y p ys vs n a k l q r
theorem G3(G:Good w d A φ H s.heap)(f:aH φ s.heap xs vs)(x:∀Q E,xs.length<=bH->(∀tk,Q (.ref s.heap.objs.size) {s with heap:=s.heap.push (cx vs.toArray 0),toks:=tk})->aJ (aq prog w) A t Q E s):z prog w d aI A φ s H t (M.d8 xs) am:=by unfold M.d8;refine z.kR λg=>z.of (λr H' e=>?_) G;injection e with a;injection a with b c;subst b;subst c;refine(ak _ rfl (λQ E q=>?_));exact xA (G.vq f) λh i=>x Q E g λtk=>q _ _ _ h i (Good.jm G.rel _ _)
def X.add a b:=M.vc a (λx=>M.int b λy=>M.ret (.int (x+y))) (λx=>M.str b λy=>M.bM (x.length+y.length<=bH) (M.ret (.str (x++y)))) λi=>(M.cC (.ref i)).bd λxs=>(M.cC b).bd λys=>M.d8 (xs++ys)
def X.sub(a b:V):M V:=M.int a λx=>M.int b λy=>M.ret (.int (x- y))
def X.mul a b:=M.int b λy=>M.vc a (λx=>M.bM (x.natAbs<2^64\/y.natAbs<2^64) (M.ret (.int (x*y)))) (λx=>if y=0 then M.ret (.str AS)else M.bM (y=1) (M.ret (.str x))) λi=>(M.cC (.ref i)).bd λxs=>M.bM (y<1000/\ -1000<y/\xs.length=1) (M.d8 ((dq y.toNat xs).flatten))
def X.fdiv(a b:V):M V:=M.int a λx=>M.int b λy=>M.bM (y≠0/\y.natAbs<uP) (M.ret (.int (x.fdiv y)))
def X.fmod(a b:V):M V:=M.int a λx=>M.int b λy=>M.bM (y≠0) (M.ret (.int (x.fmod y)))
def X.pow(a b:V):M V:=M.int a λx=>M.int b λy=>M.bM (0<=y/\y<=1000/\x.natAbs<2^64) (M.ret (.int (x^y.toNat)))
theorem yJ(h:x.natAbs<2^64):Builtin.Int.intBits x<=64:=intBits_le_64 (by omega) (by omega)
theorem Rk(h:y.natAbs<uP):Builtin.divisionGoesByPylong x y=false:=by refine PyProof.noPylong_of_log2 ?_;by_cases a:y.natAbs=0;refine Y a ?_;decide+kernel;have:=(Nat.log2_lt a).mpr (h);exact an [.lt J 1000] (.lt J 9000) B this
theorem Es b:∀n(a:Array ay),(List.foldl (λc d=>c++d) a (dq n b)).toList=a.toList++(dq n b.toList).flatten
 |0,a=>by simp
 |n+1,a=>by refine Y qm<|Y Ws<|Y (Es b n _)<|Y qm<|Y wy ?_;simp
theorem aH.rep(a:aH φ h xs vs):∀n,aH φ h (dq n xs).flatten (dq n vs).flatten
 |0=>.nil
 |n+1=>Y qm<|Y qm<|Y wy<|Y wy<|a.append (a.rep n)
theorem kO{f:Int->Int->M V}(h:∀A φ s H x y e g,Good w j A φ H s.heap->z prog w j aI A φ s H (t (.int x e) (.int y g)) (f x y) am):dA prog w j k t (λa b=>M.int a λx=>M.int b λy=>f x y):=λA φ s H a b c d R G l i=>z.int (t:=λc=>t c d) l λx e=>z.int i λy g=>h A φ s H x y e g G
theorem IW:dA prog w hb k (iV .Add) X.add:=λA φ s H a b c d R G l e=>z.vc (t:=λc=>iV .Add c d) l (λx t=>z.int e λy o=>z.val G λQ E q=>add_int (q _ _ rfl (.int _ _))) (λx t=>z.str e λy o=>z.bM λf=>z.val G λQ E q=>add_str (λt' tk=>q _ _ rfl (.str _ _)) f) λi p r=>z.getL (t:=λc=>iV .Add c d) G r λa xs vs n v g=>z.getL G e λb ys h m C j=>G3 G (g.append j) λQ E f q=>by
 have L:vs++h=(vs.toList++h.toList).toArray:=by simp
 refine P.add_list v C (Y L<|q _) ?_;rw[bE,<-g.length,<-j.length,cz,cz]at f;exact f
theorem Uh:dA prog w a k (iV .Sub) X.sub:=kO λA φ s H x y t b G=>z.val G λQ E q=>sub_int (q _ _ rfl (.int _ _))
theorem mul_list{a:Nat}(d:s.heap.get? a=some (cx vs n))(b:y<1000)(c: -1000<y)(f:vs.size=1)(q:∀tk,Q (.ref s.heap.objs.size) {s with heap:=s.heap.push (cx (dq y.toNat vs.toList).flatten.toArray 0),toks:=tk}):aJ (aq prog w) A (iV .Mult (.ref a) (.int y e)) Q E s:=by
 have g:vs.isEmpty=false:=by rw[Array.isEmpty];refine Y f ?_;rfl
 refine wpAny_binaryOp_repeat_ref (by decide) (ak _ d rfl) (λs'=>typeIs_int s' y e) noFill_list_mul F.fills_int_mul F.slot_int_rmul repeat_list F.slot_int_index.lookup (Hv F.slot_int_rmul (typeIs_int s y e) F.entry_int_rmul (F.args_int_rmul_2 _ _) (int___rmul___int_list y e a vs n) (bA d rfl (ak _ d rfl) (Hv F.slot_list_mul (ak _ d rfl) F.entry_list_mul (F.args_list_mul_2 _ _) (AutoListH.list___mul___list_int_3 a vs n y e (by simp[Builtin.List.listFitsIndex];(revert b c;apply dj y;exact λh i=>λb c=>ah [.aR (.s (.c J) (.c U)) (.k 1000),.aR (.g (.k 1000)) (.s (.c J) (.c U))] (.and (.bC (.g (.k 9223372036854775808)) (.s (.c J) (.c U))) (.aR (.s (.c J) (.c U)) (.k 9223372036854775808))) B b c)) (by refine Y f ?_;omega) (by simp[Wt,bH];refine Y f ?_;(revert b c;apply dj y;exact λh i=>λb c=>aL [.aR (.s (.c J) (.c U)) (.k 1000),.aR (.g (.k 1000)) (.s (.c J) (.c U)),.or (.cu (.c u) (.s (.c J) (.c U))) (.and (.eq u (.k 0)) (.bC (.s (.c J) (.c U)) (.k 0)))] (.le (.m 1 u) (.k 16777216)) B b c kL))) ⟨d,?_⟩)));refine Y g ?_;simp only[ko,if_false];have j:(List.foldl (λk l=>k++l) #[] (dq y.toNat vs))=(dq y.toNat vs.toList).flatten.toArray:=by have:=Es vs y.toNat #[];apply Hw.mp;refine Y this ?_;kernel_rfl
 exact Y j<|q _
theorem M3:dA prog w L k (iV .Mult) X.mul:=λA φ s H a b c d R G m g=>z.int g λy j=>z.vc (t:=λc=>iV .Mult c (.int y j)) m (λx t=>z.bM λe=>z.val G λQ E q=>PyProof.Rows.mul_int (q _ _ rfl (.int _ _)) (e.elim (λh=>IntMulOk.of_left (yJ h)) λh=>IntMulOk.of_right (yJ h))) (λx t=>by split;rename_i e;exact Y e<|z.val G λQ E q=>P.mul_str_none (by decide) (by decide) (q _ _ rfl (.str _ _));exact z.bM λe=>Y e<|z.val G λQ E q=>P.mul_str (by decide) (λo h=>absurd h (by simp)) (λo h=>absurd h (by simp))<|Y (if_neg (by decide))<|Y (if_pos (by kernel_rfl))<|q _ _ rfl (.str _ _)) λi p r=>z.getL (t:=λc=>iV .Mult c (.int y j)) G r λa xs vs n v l=>z.bM λf=>G3 G (l.rep y.toNat) λQ E C q=>mul_list v f.1 f.2.1 (cz.symm.trans (l.length.trans f.2.2)) q
theorem Nq:dA prog w b k (iV .FloorDiv) X.fdiv:=kO λA φ s H x y t c G=>z.bM λa=>z.val G λQ E q=>floordiv_int a.1 (q _ _ rfl (.int _ _)) (.inl (Rk a.2))
theorem JD:dA prog w b k (iV .Mod) X.fmod:=kO λA φ s H x y t c G=>z.bM λa=>z.val G λQ E q=>PyProof.Rows.mod_int a (q _ _ rfl (.int _ _))
theorem TL:dA prog w b k (iV .Pow) X.pow:=kO λA φ s H x y t c G=>z.bM λa=>z.val G λQ E q=>pow_int a.1 (by have:=Int.mul_le_mul (p9.mpr (yJ a.2.2)) a.2.1 a.1 (by decide);omega) (q _ _ rfl (.int _ _))
noncomputable def V.dat(v:V):Option PyData:=match v with
 | .none=>some .none
 | .bool b=>some (.bool b)
 | .int i=>some (.int i)
 | .str x=>if iW x then some (.str x)else gM
 |_=>gM
def ed(xs:List V):Option (List PyData):=xs.rec (some []) λv b a=>v.dat.bind λd=>a.map (d::·)
theorem SI(f:am φ h v c)(e:v.dat=some d):(∃g,Reads h c d g)/\d.canLay0=true/\d.depth<=1:=by revert e;exact am.casesOn f (λe=>ae (ao e)<|(aX ⟨_,.none⟩ (by simp[td]) (by simp[tj]))) (λb e=>ae (ao e)<|(aX ⟨_,.bool b⟩ (by simp[td]) (by simp[tj]))) (λi t e=>ae (ao e)<|(aX ⟨_,.int i t⟩ (by simp[td]) (by simp[tj]))) (λx t e=>cU e λq e=>ae (ao e)<|(aX ⟨_,.str x t⟩ (by simp[td,q]) (by simp[tj]))) (λa a a e=>ns e) (λa e=>ns e) (λa a a a a a a e=>ns e) (λa a a a a a a e=>ns e) λa a a a a a e=>ns e
theorem u6(q:aH φ h xs f):ed xs=some a->(∃c,ReadsAll h f a c)/\AT a=true/\Hx a<=1:=by revert a;refine q.ind (C:=λxs f=>∀{a},ed xs=some a->(∃c,ReadsAll h f a c)/\AT a=true/\Hx a<=1) (λe=>?_) λx v xs vs g w i a e=>?_;exact ae (ao e)<|(aX ⟨_,.nil⟩ rfl (lN _));exact h_ e λd j e=>rh e λy k l=>ae l<|bh λA m=>bN (SI g j) λb n o=>xE b λc p=>bN (i k) λb r s=>xE b λH t=>m<|(aX ⟨_,.cons p t⟩ (by simp[AT,n,r]) (Nat.max_le.mpr ⟨o,s⟩))
def X.qM xs ys:=M.opt λc=>(ed xs).bind λa=>(ed ys).map λb=>jD a b
theorem Vd(e:X.qM xs ys H=some (r,H')):∃a c,ed xs=some a/\ed ys=some c/\r=.ok (jD a c)/\H'=H:=M.Ap e λb d f g=>h_ d λa h e=>rh e λc i e=>kN a c h i (f.trans (congrArg Rs.ok e.symm)) g
def X.eqB(a b:V):=match a,b with
 | .int x,.int y=>M.ret (x==y)
 | .str x,.str y=>M.ret (x==y)
 | .none,.none=>M.ret true
 | .bool x,.bool y=>M.ret (x==y)
 | .none,.int _=>M.ret false
 | .int _,.none=>M.ret false
 | .tup xs,.tup ys=>X.qM xs ys
 | .ref i,.ref j=>(M.cC (.ref i)).bd λxs=>(M.cC (.ref j)).bd λys=>X.qM xs ys
 |_,_=>M.bad
def X.eq(a b:V):M V:=(X.eqB a b).bd λr=>M.ret (.bool r)
def X.ne(a b:V):M V:=(X.eqB a b).bd λr=>M.ret (.bool (!r))
def X.lt (a b : V) : M V := M.int a λx => M.int b λy => M.ret (.bool (decide (x < y)))
def X.le (a b : V) : M V := M.int a λx => M.int b λy => M.ret (.bool (decide (x <= y)))
def X.gt (a b : V) : M V := M.int a λx => M.int b λy => M.ret (.bool (decide (y < x)))
def X.ge (a b : V) : M V := M.int a λx => M.int b λy => M.ret (.bool (decide (y <= x)))
noncomputable def V.isNone(v:V):Bool:=match v with
 | .none=>true
 | .g a=>a==.none
 |_=>false
def M.pg(v:V)(m:M a):=match v with
 | .none=>m
 |_=>M.bad
def X.is(a b:V):M V:=M.pg b (M.ret (.bool a.isNone))
def X.bV(a b:V):M V:=M.pg b (M.ret (.bool (!a.isNone)))
theorem bw.eq(R:bw k A):A.units+64<cLine:=by have:=R.2.2.1;exact aL [.lt (J+(.m 10 u)+100) U] (.lt (J+64) U) B this
def vG prog w A s c d r:=(∀(Q)(E),Q (.bool r) s->aJ (aq prog w) A (gQ .Eq c d) Q E s)/\(∀(Q)(E),Q (.bool (!r)) s->aJ (aq prog w) A (gQ .NotEq c d) Q E s)
theorem oM{dc a:PyData}(R:bw k A)(b:Reads s.heap c dc i)(e:Reads s.heap d a j)(f:dc.canLay0=true/\dc.depth<=2)(ld:a.canLay0=true/\a.depth<=2):
 vG prog w A s c d (wz dc a):=
 have g:AU dc=true:=by unfold AU;exact Y f.1<|Y (Wu _)<|decide_eq_true (aG f.2 (lb B))
 have h:AU a=true:=by unfold AU;exact Y ld.1<|Y (Wu _)<|decide_eq_true (aG ld.2 (lb B))
 ⟨λQ E q=>eq_dataH b e g h R.eq q,λQ E q=>ne_dataH b e g h R.eq q⟩
def ce(m:M Bool)(H:Hp)(C:Bool->Prop):=∀r H',m H=some (r,H')->∃a,r=.ok a/\H'=H/\C a
theorem ce.ret(h:C d):ce (M.ret d) H C:=λr H' e=>by injection e with a;injection a with b c;subst b;subst c;exact(bn d rfl rfl h)
theorem ce.bad:ce M.bad H C:=λr H' e=>(ns e)
theorem ce.list{w:cN}{Q:aW}{A:fu}{φ:cy}{H:Hp}{h:aW}{b:V}{c:ay}{m:List V->M Bool}{C:ay->Bool->Prop}(G:Good w Q A φ H h)(hv:am φ h b c)(k:∀a ys vs n,h.get? a=some (cx vs n)->aH φ h ys vs.toList->ce (m ys) H (C (.ref a))):ce ((M.cC b).bd m) H (C c):=λr H' e=>by unfold M.bd at e;rcases d:M.cC b H with _|af;rw[d]at e;exact ns e;obtain⟨y,L⟩:=af;rw[d]at e;refine ji (G.list (xs:=[]) hv d) λi p ys vs n j l=>?_;subst j;refine xA l λo q=>?_;subst o;refine bN q λf s t=>?_;subst s;exact hZ t λf f f g x=>k p.1 ys vs n g x r H' e
theorem ce.v{f:V}{m:V->M Bool}{C:ay->Bool->Prop}(d:am φ h f c)(hi:∀i t,ce (m (.int i)) H (C (.int i t)))(j:ce (m .none) H (C .none))(k:∀x t,ce (m (.str x)) H (C (.str x t)))(l:∀x,ce (m (.bool x)) H (C (.bool x)))(o:∀a n xs vs,h.get? a=some {cls:=.type "tuple",data:=.seq vs.toArray n}->aH φ h xs vs->ce (m (.tup xs)) H (C (.ref a)))(q:∀i a,am φ h (.ref i) (.ref a)->ce (m (.ref i)) H (C (.ref a)))(r:∀g,m (.g g)=M.bad)(s:∀n,m (.de n)=M.bad)(w:∀n,m (.jO n)=M.bad):ce (m f) H (C c):=am.casesOn d j l hi k (λi p e=>q i p.1 (.ref i p e)) (λb=>Y (r _)<|.bad) (λa n xs vs y b d=>o a n xs vs y d) (λb A b b b b b=>Y (s _)<|.bad) λb A b b b b=>Y (w _)<|.bad
theorem ce.Dz(k:∀a b,ed xs=some a->ed ys=some b->C (jD a b)):ce (X.qM xs ys) H C:=λr H' e=>mz (Vd e) λa b c d f g=>(bn _ f g (k a b c d))
theorem uv(a:AT l=true)(b:Hx l<=1):((Wv l).canLay0=true/\(Wv l).depth<=2)/\((Ww l).canLay0=true/\(Ww l).depth<=2):=by simp only[td,tj];exact⟨⟨a,kq b⟩,a,kq b⟩
theorem mv:(Wx.canLay0=true/\Wx.depth<=2)/\(∀b,(Wy b).canLay0=true/\(Wy b).depth<=2)/\∀i,(PyData.int i).canLay0=true/\(PyData.int i).depth<=2:=by simp[td,tj]
theorem Fl(R:bw k A)(G:Good w hb A φ H s.heap)(ha:am φ s.heap a c)(h:am φ s.heap b d):ce (X.eqB a b) H (vG prog w A s c d):=ce.v (m:=λa=>X.eqB a b) (C:=λc=>vG prog w A s c d) ha (λx t=>ce.v h (λy p=>.ret ⟨λQ E q=>PyProof.Rows.eq_int q,λQ E q=>PyProof.Rows.ne_int q⟩) (.ret (oM R (.int x t) .none (mv.2.2 x) mv.1)) (λe e=>.bad) (λe=>.bad) (λe e e e e e=>.bad) (λe e e=>.bad) (λe=>rfl) (λe=>rfl) λe=>rfl) (ce.v h (λy p=>.ret (oM R .none (.int y p) mv.1 (mv.2.2 y))) (.ret (oM R .none .none mv.1 mv.1)) (λe e=>.bad) (λe=>.bad) (λe e e e e e=>.bad) (λe e e=>.bad) (λe=>rfl) (λe=>rfl) λe=>rfl) (λx t=>ce.v h (λe e=>.bad) .bad (λy p=>.ret ⟨λQ E q=>PyProof.Rows.eq_str q,λQ E q=>PyProof.Rows.ne_str q⟩) (λe=>.bad) (λe e e e e e=>.bad) (λe e e=>.bad) (λe=>rfl) (λe=>rfl) λe=>rfl) (λx=>ce.v h (λe e=>.bad) .bad (λe e=>.bad) (λy=>.ret (by have:=oM (prog:=prog) (w:=w) (s:=s) R (.bool x) (.bool y) (mv.2.1 x) (mv.2.1 y);simpa[wz]using this)) (λe e e e e e=>.bad) (λe e e=>.bad) (λe=>rfl) (λe=>rfl) λe=>rfl) (λa n xs vs ho r=>ce.v h (λe e=>.bad) .bad (λe e=>.bad) (λe=>.bad) (λo n2 ys us af l=>ce.Dz λdx dy v L=>by refine bh λR' k'=>bN (u6 r v) λf o a3=>xE f λas ra=>bN (u6 l L) λf b2 b3=>xE f λbs rb=>?_;have:=oM (prog:=prog) (w:=w) R (reads_tuple_at ho rfl rfl ra) (reads_tuple_at af rfl rfl rb) (uv o a3).1 (uv b2 b3).1;refine k' ?_;rwa [wz]at this) (λe e e=>.bad) (λe=>rfl) (λe=>rfl) λe=>rfl) (λi a hr=>ce.v h (λe e=>.bad) .bad (λe e=>.bad) (λe=>.bad) (λe e e e e e=>.bad) (λj b ai=>ce.list (C:=λc=>vG prog w A s c (.ref b)) G hr λa' xs vs n g r=>ce.list G ai λb' ys us m g2 l=>ce.Dz λdx dy v L=>by refine bh λR' k'=>bN (u6 r v) λf o a3=>xE f λas ra=>bN (u6 l L) λf b2 b3=>xE f λbs rb=>?_;have:=oM (prog:=prog) (w:=w) R (reads_list_at g rfl rfl ra) (reads_list_at g2 rfl rfl rb) (uv o a3).2 (uv b2 b3).2;refine k' ?_;rwa [wz]at this) (λe=>rfl) (λe=>rfl) λe=>rfl) (λe=>rfl) (λe=>rfl) λe=>rfl
theorem uM{f:Bool->Bool}(G:Good w p A φ H s.heap)(g:ce m H C)(k:∀a,C a->∀Q E,(∀tk,Q (.bool (f a)) {s with toks:=tk})->aJ (aq prog w) A t Q E s):z prog w p aI A φ s H t (m.bd λr=>M.ret (.bool (f r))) am:=by intro r H' e Q E q x;unfold M.bd at e;rcases h:m H with _|a;rw[h]at e;injection e;refine bh λy v=>?_;obtain⟨n,o⟩:=a;refine ad (g _ _ h) λa b c=>?_;subst b;refine xA c λd ok=>?_;subst d;refine v ?_;rw[h]at e;injection e with i;injection i with j l;subst j;subst l;exact k a ok Q E λtk=>q φ {s with toks:=tk} _ _ rfl G (Step.s .refl) (.bool _)
theorem Of:dA prog w g k (gQ .Eq) X.eq:=λA φ s H a b c d R G f e=>uM G (Fl R G f e) λh ok Q E q=>ok.1 Q E (q s.toks)
theorem MK:dA prog w g k (gQ .NotEq) X.ne:=λA φ s H a b c d R G f e=>uM G (Fl R G f e) λh ok Q E q=>ok.2 Q E (q s.toks)
theorem OS:dA prog w a k (gQ .Lt) X.lt:=kO λA φ s H x y t b G=>z.val G λQ E q=>PyProof.Rows.lt_int (q _ _ rfl (.bool _))
theorem PT:dA prog w a k (gQ .LtE) X.le:=kO λA φ s H x y t b G=>z.val G λQ E q=>PyProof.Rows.le_int (q _ _ rfl (.bool _))
theorem JC:dA prog w a k (gQ .Gt) X.gt:=kO λA φ s H x y t b G=>z.val G λQ E q=>PyProof.Rows.gt_int (q _ _ rfl (.bool _))
theorem Ts:dA prog w a k (gQ .GtE) X.ge:=kO λA φ s H x y t b G=>z.val G λQ E q=>PyProof.Rows.ge_int (q _ _ rfl (.bool _))
theorem BO(d:am φ h a c):(c==.none)=a.isNone:=by refine am.casesOn d ?_ (λb=>?_) (λb b=>?_) (λb b=>?_) (λb b b=>?_) (λb=>?_) (λb b b b b b b=>?_) (λb b b b b b b=>?_) λb b b b b b=>?_<;>first|rfl|simp[V.isNone]
theorem z.pg{t:ay->a_ f}(b:am φ s.heap v c)(k:z prog w d e A φ s H (t .none) m P):z prog w d e A φ s H (t c) (M.pg v m) P:=am.casesOn b k (λa=>z.bad) (λa a=>z.bad) (λa a=>z.bad) (λa a a=>z.bad) (λa=>z.bad) (λa a a a a a a=>z.bad) (λa a a a a a a=>z.bad) λa a a a a a=>z.bad
theorem RI:dA prog w g k (gQ .Is) X.is:=λA φ s H a b c d R G f e=>z.pg e (z.val G λQ E q=>is_none (Y (BO f)<|q _ _ rfl (.bool _)))
theorem Vm:dA prog w g k (gQ .IsNot) X.bV:=λA φ s H a b c d R G f e=>z.pg e (z.val G λQ E q=>isNot_none (Y (BO f)<|q _ _ rfl (.bool _)))
def X.neg(v:V):M V:=M.int v λi=>M.ret (.int (-i))
theorem T3(h:aF prog w n k d loc e m):aF prog w n k d loc (.UnaryOp .USub e pos) (m.bd X.neg):=λA φ s H R G F=>Y (arm_eval_UnaryOp _ _ _ _)<|(h A φ s H R G F).bd λf g j a c b l p=>z.at_ (z.holding (z.int p λi t=>z.val b λQ E q=>PyProof.Rows.neg_int (q _ _ rfl (.int _ _))))
def F1(f:V->M V):List V->M V
 |[a]=>f a
 |_=>M.bad
def F2(f:V->V->M V):List V->M V
 |[a,b]=>f a b
 |_=>M.bad
theorem k9(h:∀A φ s H a c,bw k A->Good w e A φ H s.heap->am φ s.heap a c->z prog w e aI A φ s H (call g [c]) (f a) am):ck prog w e k g (F1 f):=λA φ s H vs l R G i=>aH.casesOn i z.bad λx v xs vs j d=>aH.casesOn d (h A φ s H x v R G j) λb b b b b b=>z.bad
theorem pO(h:∀A φ s H a b c d,bw k A->Good w l A φ H s.heap->am φ s.heap a c->am φ s.heap b d->z prog w l aI A φ s H (call g [c,d]) (f a b) am):ck prog w l k g (F2 f):=λA φ s H vs q R G m=>aH.casesOn m z.bad λx v xs vs n i=>aH.casesOn i z.bad λy o ys r p j=>aH.casesOn j (h A φ s H x y v o R G n p) λe e e e e e=>z.bad
def X.len(v:V):M V:=M.tup v (λxs=>M.bM (xs.length<=bH) (M.ret (.int xs.length))) ((M.jU v).bd λxs=>M.bM (xs.length<=bH) (M.ret (.int xs.length)))
theorem z.tup{s:bS}{t:ay->a_ m}(d:am φ s.heap v c)(k:∀a n xs vs,s.heap.get? a=some {cls:=.type "tuple",data:=.seq vs.toArray n}->¬Own φ a->aH φ s.heap xs vs->z prog w h i A φ s H (t (.ref a)) (f xs) P)(o:z prog w h i A φ s H (t c) e P):z prog w h i A φ s H (t c) (M.tup v f e) P:=by revert o;exact am.casesOn d (λo=>o) (λb o=>o) (λb b o=>o) (λb b o=>o) (λb b b o=>o) (λb o=>o) (λa n xs vs j l d b=>k a n xs vs j l d) (λb b b b b b b o=>o) λb b b b b b o=>o
theorem E5(h:n<=bH):(n:Int)<2^63:=by rw[fA]at h;exact an [.le J 16777216] (.aR (.c J) 9223372036854775808) B h
theorem OY:ck prog w l k (.builtin "len") (F1 X.len):=k9 λA φ s H a c R G f=>z.tup (t:=λc=>call (.builtin "len") [c]) f (λa n xs vs d m g=>z.bM λe=>z.val G λQ E q=>P.len_tuple d (Y nY<|Y g.length<|Hg.mpr (E5 e)) (Y nY<|Y g.length<|q _ _ rfl (.int _ _))) (z.jU G f λo xs vs n p h i d j=>z.bM λe=>by have b:=j.length;rw[cz]at b;exact Y h<|z.val G λQ E q=>call_len_list (bn _ i d.1 ⟨n,d.2⟩) (Y b<|E5 e) (Y b<|q _ _ rfl (.int _ _)))
def X.abs(v:V):M V:=M.int v λa=>M.ret (.int (if a<0 then-a else a))
theorem J5:ck prog w d k (.builtin "abs") (F1 X.abs):=k9 λA φ s H a c R G b=>z.int (t:=λc=>call (.builtin "abs") [c]) b λi t=>z.val G λQ E q=>call_abs_int (λe tk=>q _ _ rfl (.int _ _))
def X.int(v:V):M V:=M.bool v λb=>M.ret (.int (if b then 1 else 0))
theorem V1:ck prog w e k (.type "int") (F1 X.int):=k9 λA φ s H a c R G d=>z.bool (t:=λc=>call (.type "int") [c]) d λb=>z.val G λQ E q=>call_int_bool (q _ _ rfl (.int _ _))
def X.str(v:V):M V:=M.int v λa=>M.bM (a.natAbs<2^64) (M.ret (.str (jE a)))
theorem P1:ck prog w f k (.type "str") (F1 X.str):=k9 λA φ s H a c R G d=>z.int (t:=λc=>call (.type "str") [c]) d λi t=>z.bM λe=>z.val G λQ E q=>P.str_of_int (by by_cases b:i.natAbs=0;refine Y b ?_;decide;exact s6 ((Nat.log2_lt b).mpr e) (lb B)) (q _ _ rfl (.str _ _))
def X.min(a b:V):M V:=M.int a λx=>M.int b λy=>M.ret (.int (if y<x then y else x))
theorem KO(hk:50<=k):ck prog w m k (.builtin "min") (F2 X.min):=pO λA φ s H a b c d R G l f=>z.int (t:=λc=>call (.builtin "min") [c,d]) l λx t=>z.int (t:=λd=>call (.builtin "min") [.int x t,d]) f λy n=>z.of (λr H' e=>by injection e with g;injection g with h i;subst h;subst i;refine(ak _ rfl (λQ E q=>min_two_ints (R.none hk) λo tk j=>q φ _ _ (G.rel.of_keeps j) (Step.s (.of_keeps j)) ?_));split<;>exact .int _ _) G
def X.range(v:V):M V:=M.int v λn=>M.ret (.de n)
theorem T4:ck prog w h k (.type "range") (F1 X.range):=k9 λA φ s H a c R G g=>z.int (t:=λc=>call (.type "range") [c]) g λi t=>z.of (λr H' e=>by have b:=ao e;injection b with d f;exact ae d<|ae f<|(ak _ rfl (λQ E q=>call_range_1 (q φ _ _ (G.rel.push _) (Step.s (.push _)) (.de _ _ _ _ _ (dZ _ rfl) (G.rel.gG (cA _))))))) G
noncomputable def O.cls?(o:O):=match o with
 | .inst C _=>some C
 |_=>gM
set_option tactic.hygienic true in
theorem NB{o:O}{G:Prop}(h:o.cls?=some C)(k:∀a,o=.inst C a->G):G:=by
 rcases o;case inst b a=>obtain rfl:=ao h;exact k a rfl
 all_goals exact ns h
def V.ty(v:V)(H:Hp):Option ay:=match v with
 | .none=>some (.type "NoneType")
 | .bool _=>some (.type "bool")
 | .int _=>some (.type "int")
 | .str _=>some (.type "str")
 | .tup _=>some (.type "tuple")
 | .ref i=>(H[i]?).bind λo=>o.cls?.map gO
 |_=>gM
theorem M.DA{f:Hp->Option b}:M.opt f H=(f H).map λa=>(.ok a,H):=by unfold M.opt;rcases f H<;>rfl
noncomputable def X.jc(a:ay->ay->Option Bool)(b:ay)(c:Option ay):=c.bind λt=>(a t b).map V.bool
def M.g(v:V)(f:ay->M b):=match v with
 | .g a=>f a
 |_=>M.bad
def X.bu(b:ay->ay->Option Bool)(a c:V):=M.g c λd=>M.opt λH=>X.jc b d (a.ty H)
def xy(K:aE)(a:Nat):=qo K a "__class__"=true/\AV K a=true/\fB K (.ref a) "__class__"=some (some (.builtin "object.__class__"))/\tm K (.builtin "object.__class__") "__get__"=some (some (.builtin "getset_descriptor.__get__"))/\takesIn K (.builtin "object.__class__")=some true/\lO K a (.type "object")=some true
theorem z.g{t:ay->a_ i}(d:am φ s.heap v c)(k:∀b,z prog w e h A φ s H (t b) (f b) P):z prog w e h A φ s H (t c) (M.g v f) P:=am.casesOn d z.bad (λa=>z.bad) (λa a=>z.bad) (λa a=>z.bad) (λa a a=>z.bad) k (λa a a a a a a=>z.bad) (λa a a a a a a=>z.bad) λa a a a a a=>z.bad
theorem z.opt(y:∀a,f H=some a->z prog w b c A φ s H t (M.ret a) P):z prog w b c A φ s H t (M.opt f) P:=λr H' e Q E d h=>M.Ap e λa i j k=>y a i r H' (Y j<|Y k rfl) Q E d h
theorem Ko{K:aE}(G:Good w hb A φ H h)(s:am φ h a c)(e:a.ty H=some t)(f:∀l,t=.ref l->xy K l):(∃m,KitX K c t m/\m h)/\c≠.builtin "__main__.__loader__#opaque":=by revert e;refine am.casesOn s (λe=>ae (ao e)<|⟨(ak _ kitx_none trivial),λq=>tu q⟩) (λb e=>ae (ao e)<|⟨(ak _ kitx_bool trivial),λq=>tu q⟩) (λb b e=>ae (ao e)<|⟨(ak _ kitx_int trivial),λq=>tu q⟩) (λb b e=>ae (ao e)<|⟨(ak _ kitx_str trivial),λq=>tu q⟩) (λi p v e=>⟨?_,λq=>tu q⟩) (λb e=>ns e) (λa n xs vs g hn x e=>ae (ao e)<|⟨⟨_,kitx_tuple,_,g,rfl⟩,λq=>tu q⟩) (λb b b b b b b e=>ns e) λb b b b b b e=>ns e;refine h_ e λo hi e=>rh e λC y r=>NB y λes j=>ad (G.rel.objs i o hi) λp' k g=>?_;obtain rfl:=ao (v.symm.trans k);subst j;exact kJ g λa nd ds n L d=>xA d λQ x=>hZ (f C r.symm) λc1 c2 c3 c4 d=>xA d λc5 c6=>ae r<|⟨_,kitx_own c1 c2 c3 c4 c5 c6,L,rfl,rfl,Q⟩
theorem R_{K:aE}(m:K.In n)(o:∀t c b,g t c=some b->kitOne K t c=some b/\∀l,t=.ref l->xy K l):ck prog w n k (.builtin "isinstance") (F2 (X.bu g)):=pO λA φ s H a b c d R G r h=>z.g (t:=λd=>call (.builtin "isinstance") [c,d]) h λv=>z.opt λC hz=>by refine bh λL x=>ad (ii.mp hz) λt i hz=>ad (ij.mp hz) λb j e=>?_;subst e;exact xA (o t v b j) λhk f=>xA (Ko G r i f) λe y=>ad e λHh Z p=>x<|z.val G λQ E q=>kia_one Z (m.keeps G.rel.base) p hk y λtk=>q _ _ rfl (.bool b)
def bg(k:aa)(a:List (aa×V)):Option V:=a.rec none λe c b=>if e.1=k then some e.2 else b
def cc(k:aa)(x:V)(a:List (aa×V)):List (aa×V):=a.rec [(k,x)] λe r b=>if e.1=k then(k,x)::r else e::b
def mB(d:iS)(k:aa)(v:ay)(a:List iS):List iS:=a.rec [d] λe r b=>if cE k e.key then{e with val:=v}::r else e::b
theorem C3:bg k (e::r)=if e.1=k then some e.2 else bg k r:=rfl
theorem wc:cc k x (e::r)=if e.1=k then(k,x)::r else e::cc k x r:=rfl
theorem AB:mB d k v (e::r)=if cE k e.key then{e with val:=v}::r else e::mB d k v r:=rfl
theorem LW k x: ∀ a, ((cc k x a).map (·.1) = a.map (·.1) /\ k ∈ a.map (·.1)) \/ ((cc k x a).map (·.1) = a.map (·.1) ++ [k] /\ k ∉ a.map (·.1)) := by
  intro a
  induction a with
  | nil => exact .inr ⟨rfl, f4⟩
  | cons e r d =>
    refine Y wc ?_
    by_cases h : e.1 = k
    ·exact Y (if_pos h)<|ae h<| .inl ⟨rfl, .head _⟩
    · refine Y (if_neg h) ?_
      rcases d with ⟨b, c⟩ | ⟨b, c⟩
      · exact .inl ⟨congrArg (e.1 :: ·) b, .tail _ c⟩
      · exact .inr ⟨congrArg (e.1 :: ·) b, λq => (ca.mp q).elim (λq => h q.symm) c⟩
theorem xF(d:(e.map (·.1)).Nodup):((cc k x e).map (·.1)).Nodup:=by rcases LW k x e with⟨c,f⟩|⟨c,f⟩;exact Y c<|d;refine Y c ?_;rw[n0];refine(aX d (by simp) (λa h b g=>?_));rw[dW]at g;exact Y g<|λq=>f (q▸h)
theorem xn: cE x (.str y t) = decide (y = x) := by
  by_cases h : y = x <;> kernel_rfl
theorem co.keys(H:co w φ h c b):∀e∈b,∃k,(strKind prog w).is k e.key=true/\e.hash=(strKind prog w).hash k:=by induction H with
 |nil=>exact λe a=>(f4 a).elim
 |cons k t x v c b f _ d=>intro e a;rcases ca.mp a with rfl|a;exact(ak k (ku prog w k t) rfl);exact d e a
theorem co.find(H:co w φ h a b):(∃x v,bg q a=some x/\(b.find? λe=>cE q e.key).map (·.val)=some v/\am φ h x v)\/(bg q a=none/\(b.find? λe=>cE q e.key).map (·.val)=none):=by induction H with
 |nil=>exact .inr ⟨rfl,rfl⟩
 |cons k t x v a b c _ d=>simp only[C3,List.find?_cons,xn];by_cases hk:k=q;simp only[hk,decide_true,if_true];exact .inl (fU x v rfl rfl c);simp only[hk,decide_false,if_false];exact d
theorem co.set(H:co w φ h d e)(f:am φ g x v)(i:∀y a,am φ h y a->am φ g y a):co w φ g (cc q x d) (mB ⟨nV w.params q,.str q p,v⟩ q v e):=by induction H with
 |nil=>exact .cons _ _ _ _ _ _ f .nil
 |cons k t y a d e l m j=>
 simp only[wc,AB,xn];by_cases hk:k=q
 ·refine Y hk ?_;simp only[decide_true,if_true];refine .cons _ _ _ _ _ _ f ?_;clear j;induction m with
 |nil=>exact .nil
 |cons r s A C n o b _ c=>exact .cons _ _ _ _ _ _ (i _ _ b) c
 simp only[hk,decide_false,if_false];exact .cons _ _ _ _ _ _ (i _ _ l) j
theorem co.length(H:co w φ h a b):b.length=a.length:=by induction H with
 |nil=>rfl
 |cons _ _ _ _ _ _ _ _ c=>simp[c]
theorem CN:∀{a},(a.findIdx? λe=>cE q e.key)=none->mB d q v a=a++[d]:=by
 intro c;induction c with
 |nil=>exact λ_=>rfl
 |cons e r f=>intro h;rw[AW]at h;refine Y AB ?_;by_cases b:cE q e.key=true;rw[b]at h;exact sn h;refine Y (if_neg b) ?_;rw[mL.mpr b]at h;simp only[ko,if_false,Wz]at h;refine Y (f h) ?_;rfl
theorem Gx:∀{b}{i},(b.findIdx? λe=>cE q e.key)=some i->mB d q v b=b.modify i λe=>{e with val:=v}:=by
 intro c;induction c with
 |nil=>intro _ h;exact ns h
 |cons e r f=>intro i h;rw[AW]at h;refine Y AB ?_;by_cases a:cE q e.key=true;refine Y (if_pos a) ?_;rw[a]at h;simp only[if_true,s9]at h;subst h;rfl;refine Y (if_neg a) ?_;rw[mL.mpr a]at h;simp only[ko,if_false,ij]at h;obtain⟨j,g,rfl⟩:=h;refine Y (f g) ?_;rfl
theorem co.idx(H:co w φ h a b):(∃i,(b.findIdx? λe=>cE q e.key)=some i/\(cc q x a).length=a.length)\/((b.findIdx? λe=>cE q e.key)=none/\(cc q x a).length=a.length+1):=by induction H with
 |nil=>exact .inr ⟨rfl,rfl⟩
 |cons k t y v a b g _ f=>simp only[wc,AW,xn];by_cases hk:k=q;simp only[hk,decide_true,if_true];exact .inl ⟨0,rfl,by simp⟩;simp only[hk,decide_false,ko,if_false];rcases f with⟨i,c,d⟩|⟨c,d⟩;exact .inl ⟨i+1,by simp[c],by simp[d]⟩;exact .inr ⟨by simp[c],by simp[d]⟩
theorem SM{d:Nat}(b:s.heap.get? d=some (fK a n))(k:co w φ s.heap o a.toList)(t:o.length<=bH)(y:∀p f m,p.get? d=some (fK f m)->(n=o.length->m=(cc q x o).length)->f.toList=mB ⟨nV w.params q,.str q j,v⟩ q v a.toList->fq d s.heap p->Q () {s with heap:=p,toks:=s.toks+1}):aJ (aq prog w) A (dictSet d (.str q j) v) Q E s:=by
 have C:=k.length;rw[cz]at C;refine da (ag ((strKind prog w).pyHash (ku prog w q j) ?_));refine da (ag (wpAny_dictFind_of (ku prog w q j) b rfl (λe h=>k.keys e (Hy.mpr h)) ?_));have g:(a.findIdx? λe=>(strKind prog w).is q e.key)=a.toList.findIdx? λe=>cE q e.key:=by obtain⟨l⟩:=a;simp;rfl
 refine Y g ?_;rcases k.idx with⟨i,c,r⟩|⟨c,r⟩;refine Y c<|ag (lJ (ag (wpAny_updateDict b rfl (wpAny_point (y _ (a.modify i λe=>{e with val:=v}) n ?_ (λe=>e.trans r.symm) ?_ (kh ..))))));exact mJ _ b (WA (Obj.data_mapDict rfl _));refine Y (Gx c) ?_;obtain⟨l⟩:=a;simp;refine Y c<|ag (lJ (wpAny_updateDictKeys (hz:=Y C<|t) b rfl (y _ (a.push ⟨(strKind prog w).hash q,.str q j,v⟩) (n+1) ?_ (λe=>Y e<|Y r rfl) ?_ (kh ..))));exact mJ _ b (WA (Obj.data_mapDictKeys rfl _));refine Y (CN c) ?_;obtain⟨l⟩:=a;simp;rfl
theorem vC{d:Nat}(b:h.get? d=some (fK a n))(c:co w φ h f a.toList):h.MapOf (strKind prog w) d (gm cE a):=(dK _ a n b (aX rfl rfl rfl) rfl ⟨λe h=>c.keys e (Hy.mpr h),λq=>rfl⟩)
theorem yP(c:co w φ h b a.toList)q:(∃x v,bg q b=some x/\gm cE a q=some v/\am φ h x v)\/(bg q b=none/\gm cE a q=none):=by have:=c.find (q:=q);obtain⟨l⟩:=a;unfold gm;exact Y (List.find?_toArray _ _)<|this
noncomputable def O.l7(o:O):=match o with
 | .dict xs=>some xs
 |_=>none
set_option tactic.hygienic true in
theorem O.ry{o:O}(e:o.l7=some xs):o=.dict xs:=by
 rcases o;case dict ys=>refine Y (ao e) ?_;rfl
 all_goals exact ns e
def M.eB(v:V):=M.opt λH=>(v.eH H).bind O.l7
def M.yu(k:aa)(x:V)(i:Nat):M Unit:=λH=>match(H[i]?).bind O.l7 with
 |some a=>if a.length<=bH then some (.ok (),H.set i (.dict (cc k x a)))else none
 |none=>none
def M.D9 v k x:=M.ref v (M.yu k x)
theorem NK(e:M.yu k x i H=some (r,H')):∃a,H[i]? =some (.dict a)/\a.length<=bH/\r=.ok ()/\H'=H.set i (.dict (cc k x a)):=by unfold M.yu at e;rcases b:(H[i]?).bind O.l7 with _|a;rw[b]at e;injection e;rw[b]at e;refine ad (ii.mp b) λo g h=>?_;rw[O.ry h]at g;dsimp only at e;split at e;injection e with c;injection c with d f;subst d;subst f;exact(dS a g (‹_›) rfl rfl);injection e
theorem Good.dict{i:Nat}(G:Good w l A φ H h)(e:φ[i]? =some p)(hi:H[i]? =some (.dict c)):∃b,p.2=p.1/\(c.map (·.1)).Nodup/\h.get? p.1=some (fK b c.length)/\co w φ h c b.toList:=ad (G.rel.objs i _ hi) λm d f=>Y (ao (e.symm.trans d))<|k_ f λa j b g k=>(dS b a j g k)
theorem z.eB(G:Good w h A φ H s.heap)(e:am φ s.heap v c)(y:∀i p b d,v=.ref i->c=.ref p.1->p.2=p.1->φ[i]? =some p->H[i]? =some (.dict b)->s.heap.get? p.1=some (fK d b.length)->co w φ s.heap b d.toList->(b.map (·.1)).Nodup->z prog w h k A φ s H t (m b) P):z prog w h k A φ s H t ((M.eB v).bd m) P:=z.nl λb l=>by refine ad (ii.mp l) λo j n=>?_;rw[O.ry n]at j;exact je (G.obj e j) λi p e q r hi f=>k_ f λa x d g C=>y i p b d e q a r hi g C x
theorem UN(G:Good w L A φ H s.heap)(hd:am φ s.heap d b)(hx:am φ s.heap x v):z prog w L aI A φ s H (setItem b (.str q t) v) (M.D9 d q x) (λc c c c=>True):=z.ref (t:=λb=>setItem b (.str q t) v) hd λi p f=>z.of (λr H' e=>by refine cT (NK e) λes hi hl j k=>Y j<|Y k<|cT (G.dict f hi) λds h1 nd o h=>(ak () rfl (λQ E hq=>?_));have a:=vC (prog:=prog) o h;refine da (ag (wpAny_sequenceKey a.typeIs (by decide) ?_));refine ag (Hz a.typeIs WB (wA WB a.typeIs PySem.entry_dict_setitem ?_ (PySem.args_dict_setitem _ _ _)));refine ag (wpAny_notOrdered_dict a.typeIs ?_);refine(?_:aJ _ _ (dictSet p.1 (.str q t) v>>=_) _ _ s);refine ag (SM (x:=x) o h hl λh' l m g n e' C=>aK (ak .none rfl (aK ?_)));have S:=Step.upd (dT f).1 C ⟨_,g⟩;exact hq φ _ _ (G.rel.upd f (.inl rfl) C (qZ h1 (xF nd) l (Y g<|Y (n rfl) rfl) (Y e'<|h.set (hx.be S) λy af hy=>hy.be S))) S trivial) G
noncomputable def hW(k:Int)n:=if 0<=k then(if k.toNat<n then some k.toNat else none)else if-(n)<=k then some (k+n).toNat else none
def M.at(xs:List V)(k:Int):M V:=if xs.length<=bH then(match hW k xs.length with|some j=>(match xs[j]? with|some x=>M.ret x|none=>M.bad)|none=>M.bad)else M.bad
def M.op{γ:Type}(o:Option γ)(f:γ->M b):=match o with
 |some a=>f a
 |none=>M.bad
noncomputable def M.ge(v:V)(f:ay->M a)(e:M a):=match v with
 | .g b=>f b
 |_=>e
def X.item(b:ay->aa->Option V)a i:=M.vc i (λk=>M.tup a (λxs=>M.at xs k) ((M.cC a).bd λxs=>M.at xs k)) (λq=>M.ge a (λc=>M.op (b c q) M.ret) ((M.eB a).bd λd=>M.op (bg q d) M.ret)) λe=>M.bad
inductive J1(k:Int)(n j:Nat):Prop
 |up (h:k=j) (l:j<n)
 |dn (i:Nat) (h:k= -(i)) (l:i+j=n) (l0:0<i)
theorem Gk(h:hW k n=some j):J1 k n j:=by unfold hW at h;split at h;split at h;rename_i a b;refine .up ?_ (ao h▸b);exact(ao h▸Hj a).symm;exact ns h;split at h;rename_i a b;have c:=Hj (Int.add_left_neg (n)▸Wh b (n));rw[ao h]at c;have e:k= -(k.natAbs):=Y (Int.ofNat_natAbs_of_nonpos (Int.le_of_lt (Hg.mp a)))<|Y (Int.neg_neg _) rfl;refine .dn k.natAbs e ?_ (Int.natAbs_pos.mpr λq=>a (He q.symm));rw[e]at c;generalize k.natAbs=i at*;exact aL [.cu (.c J) (.a (.g (.c U)) (.c u))] (.eq (.a U J) u) B c;exact ns h
theorem B5(h:hW k n=some j)(b:n<=bH): -(n:Int)<=k/\ -(2^63)<=k/\k<2^63/\((0<=k/\j=k.toNat)\/(k<0/\j=(k+n).toNat)):=by rw[fA]at b;rcases Gk h with⟨e,l⟩|⟨i,e,l,c⟩;refine Y e ?_;have a: -(n)<=(j:Int)/\ -(2^63)<=(j:Int)/\(j:Int)<2^63:=ah [.le J (.k 16777216),.lt U J] (.and (.bC (.g (.c J)) (.c U)) (.and (.bC (.g (.k 9223372036854775808)) (.c U)) (.aR (.c U) (.k 9223372036854775808)))) B b l;exact⟨a.1,a.2.1,a.2.2,.inl ⟨tv j,rfl⟩⟩;refine Y e ?_;have a: -(n)<= -(i:Int)/\ -(2^63)<= -(i:Int)/\ -(i:Int)<2^63/\ -(i:Int)<0/\ -(i:Int)+n=j:=aL [.le J (.k 16777216),.eq (.a U u) J,.lt (.k 0) U] (.and (.bC (.g (.c J)) (.g (.c U))) (.and (.bC (.g (.k 9223372036854775808)) (.g (.c U))) (.and (.aR (.g (.c U)) (.k 9223372036854775808)) (.and (.aR (.g (.c U)) (.k 0)) (.cu (.a (.g (.c U)) (.c J)) (.c u)))))) B b l c;exact⟨a.1,a.2.1,a.2.2.1,.inr ⟨a.2.2.2.1,by refine Y a.2.2.2.2 ?_;rfl⟩⟩
theorem UC(h:hW k n=some j):seqIndex? k n=some j:=by delta seqIndex?;rcases Gk h with⟨e,l⟩|⟨i,e,l,b⟩;refine Y e ?_;rw[if_neg (Hf.mpr (tv j))];exact if_pos (iO.mpr ⟨decide_eq_true (tv j),decide_eq_true (nU.mpr l)⟩);refine Y e ?_;have a: -(i:Int)<0/\ -(i:Int)+n=j/\j<n:=aL [.eq (.a U u) J,.lt (.k 0) U] (.and (.aR (.g (.c U)) (.k 0)) (.and (.cu (.a (.g (.c U)) (.c J)) (.c u)) (.lt u J))) B l b;exact Y (if_pos a.1)<|Y a.2.1<|if_pos (iO.mpr ⟨decide_eq_true (tv j),decide_eq_true (nU.mpr a.2.2)⟩)
set_option tactic.hygienic true in
theorem z.op(y:∀a,o=some a->z prog w b c A φ s H t (f a) P):z prog w b c A φ s H t (M.op o f) P:=by
 rcases o;case none=>exact z.bad
 case some a=>exact y a rfl
theorem z.ge{t:ay->a_ j}(i:am φ s.heap v c)(k:∀b,z prog w d h A φ s H (t b) (f b) P)(o:z prog w d h A φ s H (t c) e P):z prog w d h A φ s H (t c) (M.ge v f e) P:=by revert o;exact am.casesOn i (λo=>o) (λa o=>o) (λa a o=>o) (λa a o=>o) (λa a a o=>o) (λb a=>k b) (λa a a a a a a o=>o) (λa a a a a a a o=>o) λa a a a a a o=>o
theorem z.at(h : ∀ j x, hW i xs.length = some j -> xs[j]? = some x -> xs.length <= bH -> z prog w a b A φ s H t (M.ret x) P) : z prog w a b A φ s H t (M.at xs i) P := by
  unfold M.at
  refine z.kR λc => ?_
  · split
    · split
      · exact h _ _ ‹_› ‹_› ‹_›
      · exact z.bad
    · exact z.bad
theorem U'{a:Nat}(G:Good w l A φ H s.heap)(e:s.heap.get? a=some (cx vs n))(f:aH φ s.heap xs vs.toList)(h:∀Q E,aJ (aq prog w) A (wB (.ref a) (.int i t)) Q E s->aJ (aq prog w) A m Q E s):z prog w l aI A φ s H m (M.at xs i) am:=z.at λj x o p hz=>by refine cW (B5 o hz) λg r y k=>ad (f.get p) λv b c=>?_;rw[qp]at b;rw[<-f.length,cz]at g k;refine z.val G λQ E q=>h Q E ?_;rcases k with⟨d,rfl⟩|⟨d,rfl⟩;exact wpAny_getItem_list (bn _ e rfl ⟨n,rfl⟩) d y b (q _ _ rfl c);exact wpAny_getItem_list_neg (bn _ e rfl ⟨n,rfl⟩) d g r b (q _ _ rfl c)
theorem Qy{a:Nat}(G:Good w f A φ H s.heap)(g:s.heap.get? a=some {cls:=.type "tuple",data:=.seq vs.toArray n})(d:aH φ s.heap xs vs)(h:∀Q E,aJ (aq prog w) A (wB (.ref a) (.int i t)) Q E s->aJ (aq prog w) A k Q E s):z prog w f aI A φ s H k (M.at xs i) am:=z.at λj x e l hz=>cW (B5 e hz) λp m o r=>ad (d.get l) λv b c=>z.val G λQ E q=>h Q E (PyProof.Rows.getItem_tuple (bn _ g rfl ⟨n,rfl⟩) m o (Y nY<|Y d.length<|UC e) (Y (HA)<|b) (q _ _ rfl c))
def vk(prog:dO)(w:cN)(d:aW)(a:ay->aa->Option V):=∀(A)(φ)(s)(c)(q)(t)(x),(∀b o,d.get? b=some o->s.heap.get? b=some o)->(∀b,Own φ b->d.get? b=none)->a c q=some x->(∃T id,s.TypeIs c T/\AX (.type T) "__getitem__"=pure (some (.builtin id)))/\∃v,am φ s.heap x v/\∀(Q)(E),(∀tk,Q v {s with toks:=tk})->aJ (aq prog w) A (wB c (.str q t)) Q E s
theorem PC(ht:vk prog w hb L)(G:Good w hb A φ H s.heap)(k:am φ s.heap a c)(hi:am φ s.heap i d)(l:∀c d,subscripted e false c d=operate [c,d] (wB c d)):z prog w hb aI A φ s H (AY f e c d) (X.item L a i) am:=z.vc hi (λj t=>z.tup (t:=λc=>AY f e c (.int j t)) k (λa n xs vs ho h y=>Qy G ho y λQ E g=>AZ (ak _ ho rfl) slot_tuple_getitem.lookup g (l _ _)) (z.getL (t:=λc=>AY f e c (.int j t)) G k λa xs vs n m o=>U' G m o λQ E g=>AZ (ak _ m rfl) slot_list_getitem.lookup g (l _ _))) (λq t=>z.ge (t:=λc=>AY f e c (.str q t)) k (λc=>z.op λx p=>bh λR' k'=>sP (ht A φ s c q t x G.rel.base (λb q=>(G.rel.above b q).1) p) λaf v y get=>bZ af λT id hT hl=>k'<|z.val G λQ E C=>AZ hT hl (get Q E λtk=>C _ _ rfl y) (l _ _)) (z.eB G k λh p' es ds h1 h2 h h h m o h=>z.op λx p=>by refine Y h2 ?_;have hm:=vC (prog:=prog) m o;rcases yP o q with⟨x',v,r,g2,g3⟩|⟨r,g2⟩;rw[p]at r;exact Y (ao r)<|z.val G λQ E C=>AZ hm.typeIs A0.lookup (A3 (ku prog w q t) hm g2 (C _ _ rfl g3)) (l _ _);exact sn (p.symm.trans r))) λh h h=>z.bad
theorem J2(C:vk prog w r t)(L:aF prog w r k h loc f Q)(hi:aF prog w r k h loc e mi)(hs:∀c d,subscripted e false c d=operate [c,d] (wB c d)):aF prog w r k h loc (.Subscript f e pos) (M.bin (X.item t) Q mi):=λA φ s H R G F=>Y (arm_eval_Subscript _ _ _ _)<|(L A φ s H R G F).bd λg i j a c l m p=>((hi A g i j R l (F.step m)).holding).bd λv x y b d n o q=>z.at_ (PC C n (p.be o) q hs)
def rE prog w b k a loc e m:=∀A φ s H,bw k A->Good w b A φ H s.heap->aV b φ a s.heap loc->z prog w b aI A φ s H (evalPart e a) m am
theorem Sm:rE prog w b k a loc none (M.ret .none):=λA φ s H R G F=>z.pure G .none
theorem Ru(h:aF prog w b k a loc e m):rE prog w b k a loc (some e) m:=h
noncomputable def V.part(v:V):=match v with
 | .none=>some gM
 | .int i=>some (some i)
 |_=>gM
noncomputable def kU(xs:List V)(lo hi:Option Int):=(xs.drop (lo.elim 0 (jF xs.length))).take (hi.elim xs.length (jF xs.length)- lo.elim 0 (jF xs.length))
def X.slice(o lo hi:V):=M.op lo.part λa=>M.op hi.part λb=>(M.jU o).bd λxs=>if xs.length<=bH then M.alloc (.list (kU xs a b))else M.bad
theorem Fo(d:am φ h v c)(e:v.part=some a):IsPart c a:=by revert e;exact am.casesOn d (λe=>by cases e;exact .none) (λb e=>ns e) (λi t e=>by cases e;exact .int _ _) (λb b e=>ns e) (λb b b e=>ns e) (λb e=>ns e) (λb b b b b b b e=>ns e) (λb b b b b b b e=>ns e) λb b b b b b e=>ns e
def M.slice(a b mu:M V):=a.bd λo=>b.bd λlo=>mu.bd λhi=>X.slice o lo hi
set_option tactic.hygienic true in
theorem aN.op(h:aN (M.op o f H) Q E):∃a,o=some a/\aN (f a H) Q E:=by
 rcases o;case none=>exact h.elim
 case some a=>exact(ak a rfl h)
theorem aN.yC(G:Good w y A φ H h)(l:am φ h v c)(m:aN (((M.jU v).bd f) H) Q E):∃(a:Nat)(xs:List V)(vs:Array ay)(n:Nat)(b:Obj),c=.ref a/\h.get? a=some b/\(b.cls=.type "list"/\b.data=.seq vs n)/\aH φ h xs vs.toList/\aN (f xs H) Q E:=by refine bh λC o=>fQ m.bd.ends λr H' e p L=>ji (G.yC l e) λq xs vs n b d g=>?_;subst d;refine xA g λi j=>?_;subst i;exact cW j λs t x k=>o<|(lu q.1 xs vs n b s (bA t x k (p _ rfl)))
theorem NL(ho:aF prog w hb k t loc j mo)(hl:rE prog w hb k t loc y ml)(hu:rE prog w hb k t loc C mu)(ht:∀o r,letTemporaryGo j o r=pure ()):aF prog w hb k t loc (.Subscript j (.Slice y C none p) pos) (M.slice mo ml mu):=λA φ s H R G F=>by refine z.mk λQ E h=>wpAny_Subscript_list_slice ?_ ht;refine(ho A φ s H R G F).use (aN.bd h) (λa ap L av c ax a0 d a1=>?_) λx H' q=>q;refine(hl A L av ap R a0 (F.step d)).use (aN.bd ax) (λbk a2 af a3 l a4 a5 f a6=>?_) λx H' q=>q.seq d;refine(hu A af a3 a2 R a5 (F.step (d.trans f))).use (aN.bd a4) (λbm bs ai g m b e i a7=>?_) λx H' q=>q.seq (d.trans f);unfold X.slice at b;refine bh λR' k'=>ad b.op λlo a8 b=>ad b.op λhi a9 b=>ji (aN.yC e (a1.be (f.trans i).toStep) b) λq xs vs n ob a' bb=>?_;subst a';refine cW bb λhg ho aj b=>k' ?_;split at b;rename_i hz;have v:=aj.length;rw[cz]at v;refine(pK q vs lo hi rfl (mW (bn _ hg ho.1 ⟨n,ho.2⟩) (Y v<|hz) (Fo (a6.be i.toStep) a8) (Fo a7 a9) ?_));refine Y (slicePick_plain _ _ _)<|Y v ?_;have bc:aH ai (g.heap.push {cls:=.type "slice",data:=.fields #[l,m,.none]}) (kU xs lo hi) ((vs.toList.drop (lo.elim 0 (jF xs.length))).take (hi.elim xs.length (jF xs.length)- lo.elim 0 (jF xs.length))):=((aj.drop _).take _).be (Step.push _);refine xA ((e.push {cls:=.type "slice",data:=.fields #[l,m,.none]}).vq (n:=0) bc) λR' S'=>?_;rw[A4]at R' S';exact b _ _ _ ((e.step (e.rel.push _) (Step.push _)).step R' S') ((d.trans (f.trans i)).trans (Step.s ((Step.push _).trans S'))) (Good.jm e.rel (g.heap.objs.size+1,g.heap.objs.size+1) _);exact b.elim
noncomputable def M.yZ(v:V)(xs:List V):M Unit:=λH=>match v with
 | .ref i=>some (.ok (),H.set i (.list xs))
 |_=>none
def c8 v:=(M.cC v).bd λa=>M.ret ()
def md v:=(M.eB v).bd λa=>M.ret ()
def X.append(l x:V):M V:=(M.cC l).bd λxs=>if xs.length<=bH then(M.yZ l (xs++[x])).bd λa=>M.ret .none else M.bad
def X.extend(l x:V):M V:=(M.cC l).bd λxs=>(M.cC x).bd λys=>if xs.length+ys.length<=1000000 then(M.yZ l (xs++ys)).bd λa=>M.ret .none else M.bad
def X.get d k:=M.str k λq=>(M.eB d).bd λa=>M.ret ((bg q a).getD .none)
def X.items(d:V):M V:=M.ref d λi=>(M.eB (.ref i)).bd λa=>M.ret (.jO i)
def X.cx(o:Option O):M V:=match o with
 |some (.list xs)=>M.d8 xs
 |some (.dict a)=>M.d8 (a.map λe=>V.str e.1)
 |_=>M.bad
def X.list(v:V):M V:=match v with
 | .tup xs=>M.d8 xs
 | .ref i=>λH=>X.cx H[i]? H
 |_=>M.bad
def X.tuple(v:V):M V:=M.tup v (λxs=>M.ret (.tup xs)) ((M.cC v).bd λxs=>M.bM (xs.length<=bH) (M.ret (.tup xs)))
theorem Ax{s:bS}{xs:List V}{vs:Array ay}{n:Nat}(G:Good w g A φ H s.heap)(c:φ[i]? =some p)(b:p.2=p.1)(d:fq p.1 s.heap a)(e:a.get? p.1=some (cx f h))(j:aH φ s.heap ys f.toList):Rel w g φ (H.set i (.list ys)) a/\Step aI φ s.heap φ a:=by have S:=Step.upd (dT c).1 d ⟨_,e⟩;exact⟨G.rel.upd c (.inl rfl) d (ir b f h e (j.be S)),S⟩
theorem dH.list{prog:dO}{w:cN}{l:aW}{name:aa}{id:String}(f:Slot "list" name id)(m:tw (.builtin id)=pure (.type "method_descriptor")):dH prog w l name c8 (.builtin id):=by refine λA φ s H o c r H' G t e=>c_ (EX e) λxs h b d=>Y b<|Y d<|ad (ii.mp h) λo h v=>?_;rw[O.vO v]at h;exact fQ (G.obj t h) λi p j b d=>Y b<|cW d λj j j k=>bZ k λvs n g j=>(aX rfl rfl (λx Q E q=>HB (ak _ g rfl) PySem.F.plainAttrs_list f m (λa e=>(ak _ (HC e▸g) rfl)) q))
theorem dH.dict{id:String}(h:Slot "dict" name id)(l:tw (.builtin id)=pure (.type "method_descriptor")):dH prog w t name md (.builtin id):=by refine λA φ s H o c r H' G m e=>c_ (EX e) λxs j b d=>Y b<|Y d<|ad (ii.mp j) λo j n=>?_;rw[O.ry n]at j;exact fQ (G.obj m j) λi p f b d=>Y b<|hZ d λf f f f k=>ad k λv g f=>(aX rfl rfl (λx Q E q=>HB (ak _ g rfl) WC h l (λa e=>(ak _ (HC e▸g) rfl)) q))
theorem Ej:ck prog w hb k (.builtin "list.append") (F2 X.append):=pO λA φ s H a b c d R G v f=>by refine z.cC G v λi p xs vs n x y h C h5 L o=>?_;subst x;subst y;refine z.kR λhz=>z.of (λr H' e=>?_) G;injection e with j;injection j with l m;refine ae l<|ae m<|(ak _ rfl (λQ E q=>?_));have t:=o.length;rw[cz]at t;refine wpAny_list_append_plain ⟨n,L⟩ (λh' zz hs=>xE zz λn' g=>?_) (Y t<|hz);exact xA (Ax (xs:=xs) (vs:=vs) (n:=n) G C h hs g (Y wC<|o.append (.cons _ _ _ _ f .nil))) λR' S'=>q φ _ _ R' S' .none
theorem SU:ck prog w hb k (.builtin "list.extend") (F2 X.extend):=pO λA φ s H a b c d R G ha l=>by refine z.cC G ha λi p xs vs n h1 h2 o h4 h5 h C=>Y h1<|Y h2<|z.cC G l λj p2 ys L m g1 g2 af g4 g5 g6 g7=>Y g1<|Y g2<|z.kR λhz=>z.of (λr H' e=>?_) G;injection e with t;injection t with v y;subst v;subst y;refine(ak _ rfl (λQ E q=>?_));have f:=C.length;rw[cz]at f;have g:=g7.length;rw[cz]at g;refine Hv WD (ak _ h rfl) PySem.F.entry_list_extend (PySem.F.args_list_extend_2 _ _) (AutoSeq1.list_extend_list_list_0 p.1 vs n p2.1 L m (by simp[Wt,fA];exact λ_=>aU [.le (u+D) 1000000,.eq J u,.eq U D] (.le (J+U) 16777216) B hz f g) (Y fA<|aU [.le (U+u) 1000000,.eq J U,.eq D u] (.le J 16777216) B hz f g) (Y fA<|aU [.le (u+D) 1000000,.eq J u,.eq U D] (.le (J+U) (16777216+1)) B hz f g)) (aX h g6 ?_);obtain⟨R',S'⟩:=Ax (xs:=xs) (vs:=vs) (n:=n) G h4 o (kh ..) (n6 h (λx=>x++L)) (Y f8<|C.append g7);exact q φ _ _ R' S' .none
theorem Wc(lo:(a==jA)=false):MeetsIn prog w (wD.«dict.get» ⟨[.ref a,.str q t],[]⟩) (λe R s=>s.heap.MapOf (strKind prog w) a f/\R (.ok (.ret ((f q).getD .none))) {s with toks:=s.toks+1}):=.of_wp λA R s d=>xA d λT b=>by refine(?_:aJ _ _ (dictGet a (.str q t)>>=_) _ _ s);refine ag (HD (ku prog w q t) T ?_);rcases c:f q with _|v;rw[c]at b;exact ag (WE lo (aK (ak .none rfl b)));rw[c]at b;exact aK (ak v rfl b)
theorem Ol:ck prog w n k (.builtin "dict.get") (F2 X.get):=pO λA φ s H a b c d R G o j=>z.str (t:=λd=>call (.builtin "dict.get") [c,d]) j λq t=>z.eB G o λi p es r y C af L h5 h6 l nd=>by refine Y y<|Y C ?_;have m:=vC (prog:=prog) h6 l;have f:∀(x),(∃v,(gm cE r q).getD .none=v/\am φ s.heap x v)->z prog w n aI A φ s H (call (.builtin "dict.get") [.ref p.1,.str q t]) (M.ret x) am:=λx zz=>ad zz λv e hv=>z.val G λQ E hq=>A5 wE m.typeIs HE (PySem.F.args_dict_get_2 _ _) (Wc (G.rel.oA L)) ⟨m,Y e<|hq _ _ rfl hv⟩;rcases yP l q with⟨x,v,g,h,g3⟩|⟨g,h⟩;refine Y g<|f x (ak v (by refine Y h ?_;rfl) g3);refine Y g<|f .none (ak .none (by refine Y h ?_;rfl) .none)
theorem nr{d:Nat}{b:List (aa×V)}(s:h.get? d=some (fK g n))(r:co w φ h b g.toList)(y:(b.map (·.1)).Nodup):∃a,h.DictAt (strKind prog w) d a n/\a.map (·.1)=b.map (·.1)/\a.length=b.length/\(∀(i:Nat)k x,b[i]? =some (k,x)->∃v,a[i]? =some (k,v)/\am φ h x v):=by
 have c:∀{b}{l},co w φ h b l->∃a,Pairs (strKind prog w) l a/\a.map (·.1)=b.map (·.1)/\a.length=b.length/\(∀(i:Nat)(k)(x),b[i]? =some (k,x)->∃v,a[i]? =some (k,v)/\am φ h x v):=by
  intro b l H;induction H with
  |nil=>exact(dS [] .nil rfl rfl (λi k x e=>by simp at e))
  |cons k t x v b g A _ C=>refine cT C λa j f m o=>(dS ((k,v)::a) (.cons (ku prog w k t) rfl j) (by simp[f]) (by simp[m]) (λi L Q e=>?_));rcases i with _|i;simp at e;exact xA e λp q=>Y p<|ae q<|(ak v rfl A);exact o i L Q (by simpa using e)
 exact cT (c r) λa j f m o=>(dS a (iu _ g s (aX rfl rfl rfl) rfl (λe h=>r.keys e (Hy.mpr h)) ⟨j,Y f<|y⟩) f m o)
theorem Ul:ck prog w C k (.builtin "dict.items") (F1 X.items):=k9 λA φ s H a c R G n=>z.ref (t:=λc=>call (.builtin "dict.items") [c]) n λi p b=>z.eB G (.ref i p b) λj L es ds h1 o y h4 h5 l v x=>by rw[<-(HC o)]at l;refine ad (nr (prog:=prog) l v x) λd m o0=>z.of (λr H' e=>?_) G;injection e with f;injection f with g h;subst g;subst h;exact(ak _ rfl (λQ E q=>A5 WF m.dictOf.typeIs PySem.F.entry_dict_items (PySem.F.args_dict_items_1 _) (meets_dict_items (strKind prog w) p.1 (G.rel.oA b)) ⟨⟨d,m.dictOf⟩,q φ _ _ (G.rel.push _) (Step.s (Step.push _)) (.jO _ _ p (dZ _ rfl) (G.rel.gG (cA _)) b)⟩))
theorem D1(G:Good w j A φ H s.heap)(k:aH φ s.heap xs vs)(x:∀Q E,xs.length<=bH->(∀a tk c,(∀b o,s.heap.get? b=some o->a.get? b=some o)->a.get? s.heap.objs.size=some (cx vs.toArray c)->Q (.ref s.heap.objs.size) {s with heap:=a,toks:=tk})->aJ (aq prog w) A t Q E s):z prog w j aI A φ s H t (M.d8 xs) am:=by unfold M.d8;refine z.kR λl=>z.of (λr H' e=>?_) G;injection e with d;injection d with f h;subst f;subst h;refine(ak _ rfl (λQ E q=>x Q E l λa tk c i g=>?_));have S:Step aI φ s.heap (φ++[(s.heap.objs.size,s.heap.objs.size)]) a:=Step.new i (cA _) (cA _);exact q _ _ _ (G.rel.new i (aS _) (aS _) (ir rfl vs.toArray c g (Y Wr<|k.be S))) S (Good.jm G.rel (s.heap.objs.size,s.heap.objs.size) _)
theorem GH{b : List (aa × V)} {vs : Array ay} {a : List (aa × ay)} (n : a.map (·.1) = b.map (·.1)) (c : vs.size = b.length) (f : ∀ (i : Nat)v, vs[i]? = some v -> ∃k x, a[i]? = some (k, x) /\ (strKind prog w).is k v = true) :
    aH φ h (b.map λe => V.str e.1) vs.toList := by
  have d : ∀ (b : List (aa × V)) (l) (a : List (aa × ay)), a.map (·.1) = b.map (·.1) -> l.length = b.length -> (∀ (i : Nat) (v), l[i]? = some v -> ∃k x, a[i]? = some (k, x) /\ (strKind prog w).is k v = true) -> aH φ h (b.map λe => V.str e.1) l := by
    intro b
    induction b with
    | nil => intro l a _ c _; cases l with
      | nil => exact .nil
      | cons => simp at c
    | cons e b o =>
      intro l a hk c f
      rcases l with _ | ⟨v, l⟩
      · simp at c
      · rcases a with _ | ⟨p, a⟩
        · simp at hk
        · simp only [kn, WG] at hk
          refine bZ (f 0 v rfl) λk x g j => ?_
          simp only [List.getElem?_cons_zero, s9] at g
          refine xE (A6 (j)) λt m =>Y m ?_
          have : k = e.1 :=ae hk.1<|Y g rfl
          refine Y this<| .cons _ _ _ _ (.str _ _) (o l a hk.2 (by simpa using c) λi v q => ?_)
          exact bZ (f (i + 1) v (by simpa using q)) λk x g j =>(bQ k x (by simpa using g) j)
  exact d b vs.toList a n (by simpa using c) λi v q => f i v (by simpa using q)
theorem JF(hk:50<=k):ck prog w hb k (.type "list") (F1 X.list):=k9 λA φ s H a c R G ha=>by refine am.casesOn ha z.bad (λb=>z.bad) (λb b=>z.bad) (λb b=>z.bad) (λi p hp=>?_) (λb=>z.bad) (λa n xs vs y hn m=>?_) (λb b b b b b b=>z.bad) λb b b b b b=>z.bad;intro r H' e Q E hQ hE;have e:X.cx H[i]? H=some (r,H'):=e;rcases hi:H[i]? with _|o;rw[hi]at e;injection e;rw[hi]at e;refine ad (G.rel.objs i _ hi) λp' t y=>?_;rw[hp]at t;injection t with l;subst l;rcases o with xs|C|_|_|_|_|_;refine gF y λa vs n g m=>D1 G m (λQ E h q=>?_) r H' e Q E hQ hE;have x:=m.length;rw[cz]at x;exact call_list_seq p.1 (.inl rfl) g rfl rfl (λj=>q j s.toks) (Y x<|h);refine k_ y λa nd ds g he=>cT (nr (prog:=prog) g he nd) λap hd h2 L b=>?_;by_cases h:(C.map λe=>V.str e.1).length<=bH;unfold X.cx M.d8 at e;dsimp only at e;rw[if_pos h]at e;injection e with l;injection l with af ai;subst af;subst ai;refine kdl_call (kdl_dict (G.rel.oA hp)) (R.none hk) hd (by refine Y L ?_;simpa using h) λj tk f c' kp g' d=>?_;have m:aH φ j (C.map λe=>V.str e.1) f.toList:=GH h2 (Y d.1<|Y L rfl) λi v q=>d.2 i v q;have S:Step aI φ s.heap (φ++[(s.heap.objs.size,s.heap.objs.size)]) j:=Step.new kp (cA _) (cA _);have aj:aH (φ++[(s.heap.objs.size,s.heap.objs.size)]) j (C.map λe=>V.str e.1) f.toList:=GH h2 (Y d.1<|Y L rfl) λi v q=>d.2 i v q;exact hQ _ _ _ _ rfl (G.step (G.rel.new kp (aS _) (aS _) (ir rfl f c' g' aj)) S) (Step.s S.any) (Good.jm G.rel (s.heap.objs.size,s.heap.objs.size) _);unfold X.cx M.d8 at e;dsimp only at e;rw[if_neg h]at e;injection e;injection e;injection e;injection e;injection e;injection e;exact D1 G m λQ E h q=>call_list_seq a (.inr rfl) y rfl rfl (λj=>q j s.toks) (Y nY<|Y m.length<|h)
theorem Ux:ck prog w C k (.type "tuple") (F1 X.tuple):=k9 λA φ s H a c R G i=>z.tup (t:=λc=>call (.type "tuple") [c]) i (λa n xs vs j p v=>z.val G λQ E q=>call_tuple_same (bn _ j rfl ⟨n,rfl⟩) (q _ _ rfl (.tup a n xs vs j p v))) (z.getL (t:=λc=>call (.type "tuple") [c]) G i λa xs vs n x l=>z.bM λy=>z.of (λr H' e=>by have b:=l.length;rw[cz]at b;injection e with f;injection f with g h;subst g;subst h;refine(ak _ rfl (λQ E q=>call_tuple_list (bn _ x rfl ⟨n,rfl⟩) (λm d=>?_) (Y b<|y)));have o:Step aI φ s.heap φ (m.push {cls:=.type "tuple",data:=.seq vs}):=(Step.of_keeps d).trans (Step.push _);exact q φ _ _ ((G.rel.of_keeps d).push {cls:=.type "tuple",data:=.seq vs}) o (.tup _ 0 _ vs.toList (dZ m rfl) ((G.rel.of_keeps d).gG (cA _)) (l.be o))) G)
theorem SQ a:bindSpecial (HF "BaseException.__getattribute__") a=pure (HF "BaseException.__getattribute__",[a]):=by kernel_rfl
theorem UK:plainId "BaseException.__getattribute__"=true:=by decide+kernel
theorem Qw{K:aE}(X:K.In s.heap)(I:InstAt s.heap x l C e)(b:fB K (.ref C) "__getattribute__"=some (some (.builtin "BaseException.__getattribute__")))(f:fB K (.ref C) "__getattr__"=some none)(i:lO K C (.type "BaseException")=some true)(j:findObj K C e name=some (.value v))(k:wF v=true)(h:Q v {s with toks:=s.toks+1}):aJ (aq prog w) A (wx (.ref x) name a) Q E s:=by obtain⟨m,g,d,t,os⟩:=s;have c:=I.type (M:=aq prog w);have L1:=tx (M:=aq prog w) X b;have L3:=looks_find (M:=aq prog w) X I j;refine ag (wpAny_mkText (da (ag (c.at (ag (L1.at ?_))))));refine ag<|(tx X f).at<|ag (A7 (da ?_));delta callGetattribute;refine Y (by rcases a<;>rfl:(a&&onTheHeap (HF "BaseException.__getattribute__"))=false)<|Y (if_neg WH) ?_;delta boundAndCalled;refine Y (SQ _)<|ag (aK (qh (HG UK F.entry_bexc_ga (@HH (aq prog w) _ _ _ "BaseException.__getattribute__" "BaseException" "__getattribute__" (.ref x) [.str name t] [] _ (by decide+kernel) (by decide+kernel) (I.type.andThen (n7 X i)) (F.args_bexc_ga _ _) ?_))));refine ag (aK (ag (aK (ag (c.at (ag (L3.at ?_)))))));refine aK<|(?_:aJ _ _ (handedOut v) _ _ _);exact Y (handedOut_of k)<|aK h
noncomputable def Gr:List ay:=[.type "ValueError",.type "Exception",.type "BaseException",.type "object"]
theorem Vo a:refuseLoop a "__setattr__" Gr=pure ():=by kernel_rfl
noncomputable def uV:List ay->Bool
 |[]=>false
 | .ref c::r=>uV r
 |v::r=>v::r==Gr
set_option tactic.hygienic true in
theorem VJ a:∀{l},uV l=true->refuseLoop a "__setattr__" l=pure ():=by
 intro l;induction l with
 |nil=>intro e;injection e
 |cons v r b=>
 intro e;rcases v;case ref c=>exact Y (refuseLoop_ref _ _ _ _)<|b e
 case type n=>exact Y (bI (e))<|Vo a
 all_goals injection e
set_option tactic.hygienic true in
theorem Jc:∀{l},uV l=true->l.contains (.type "object")=true:=by
 intro l;induction l with
 |nil=>exact λe=>ft e
 |cons v r a=>
 intro e;rcases v;case ref c=>rw[List.contains_cons];exact Y (a e)<|Y (Bool.or_true _) rfl
 case type n=>refine Y (bI (e)) ?_;rfl
 all_goals exact ft e
def uS K C:=(qr K C).any λa=>uV a.mro
theorem Jy{K:aE}(X:K.In s.heap)(I:InstAt s.heap x o C p)(k:uS K C=true)(l:fB K (.ref C) name=some none)(h:∀b,aJ (aq prog w) A.in1 (WI (.ref x) (.ref C) (.str name tk) name v b) (λg s'=>match g with| .done f=>R (.ok f) s'| .again i=>i.quiet=true/\eU (aq prog w) A i R s') (λe=>R (.error e)) s):eU (aq prog w) A (.call (.builtin "object.__setattr__") ⟨[.ref x,.str name tk,v],[]⟩) R s:=by
 have a:=PySem.F.store_object;refine ad (any_some k) λd j c=>?_;have m:d.mro.isEmpty=false:=by cases q:d.mro with|nil=>rw[q]at c;exact ft c|cons _ _=>rfl
 have sub:d5 (aq prog w) s.heap (A8 (.ref x) (.type "object")) true:=I.type.andThen (n7 X (by unfold lO;refine Y j<|Y (WJ _ _)<|Y (if_neg (by refine Y m ?_;decide))<|Y (Jc c) rfl));refine HG a.slot.plain a.entry (@HH (aq prog w) _ _ s "object.__setattr__" "object" "__setattr__" (.ref x) [.str name tk,v] [] _ a.kind a.split sub (a.args (.ref x) (.str name tk) v) ?_);have n:d5 (aq prog w) s.heap (mroOf (.ref C)) d.mro:=(A9 X j).andThen .now;refine Y (osa_eq _ _ _ _)<|Y (refuse_eq _ _)<|ag (ag (I.type.here (ag (n.here ?_))));exact Y (VJ _ c)<|aK (ag (I.type.here (ag ((tx X l).here (ag (aK (h _)))))))
noncomputable def vJ(K:aE)(C:Nat):=fB K (.ref C) "__getattribute__"==some (some (.builtin "BaseException.__getattribute__"))&&fB K (.ref C) "__getattr__"==some none&&lO K C (.type "BaseException")==some true
theorem Od{K:aE}(X:K.In s.heap)(I:InstAt s.heap x f C e)(a:qo K C name=true\/vJ K C=true)(b:findObj K C e name=some (.value v))(c:wF v=true)(h:Q v {s with toks:=s.toks+1}):aJ (aq prog w) A (wx (.ref x) name d) Q E s:=by rcases a with a|a;exact get_value X I (HI a).1 b c h;unfold vJ at a;rw[bO,bO]at a;exact Qw X I (bI a.1.1) (bI a.1.2) (bI a.2) b c h
theorem Gw{K:aE}(X:K.In s.heap)(I:InstAt s.heap x i C j)(a:plainOver K C=true\/uS K C=true)(d:fB K (.ref C) name=some none)(h:∀b,aJ (aq prog w) A.in1 (WI (.ref x) (.ref C) (.str name tk) name v b) (λc s'=>match c with| .done f=>R (.ok f) s'| .again g=>g.quiet=true/\eU (aq prog w) A g R s') (λe s'=>R (.error e) s') s):eU (aq prog w) A (.call (.builtin "object.__setattr__") ⟨[.ref x,.str name tk,v],[]⟩) R s:=by rcases a with a|a;exact osa_open (r:=none) X I a (by unfold takerIn;refine Y d ?_;rfl) h;exact Jy X I a d h
noncomputable def V.rH(v:V):=match v with
 | .g _=>true
 |_=>false
noncomputable def O.fields(H:Hp)(o:Option O):=match o with
 |some (.inst C a)=>some (C,a)
 |some (.exc C (some j) _)=>(match H[j]? with
 |some (.bG a)=>some (C,a)
 |_=>none)
 |_=>none
def M.inst(v:V):=match v with
 | .ref i=>M.opt λH=>O.fields H H[i]?
 |_=>M.bad
def X.attr(ok:Nat->aa->Bool)(name:aa)v:=(M.inst v).bd λp=>if ok p.1 name then(match bg name p.2 with
 |some x=>if x.rH then M.bad else M.ret x
 |none=>M.bad)else M.bad
def O.stored(H:Hp)(i:Nat)(o:Option O)(name:aa)(x:V):Option Hp:=match o with
 |some (.inst C a)=>if a.length<=1000 then some (H.set i (.inst C (cc name x a)))else none
 |some (.exc C (some j) _)=>(match H[j]? with
 |some (.bG a)=>if a.length<=1000 then some (H.set j (.bG (cc name x a)))else none
 |_=>none)
 |some (.exc C none r)=>some (H.set i (.exc C (some H.length) r)++[.bG [(name,x)]])
 |_=>none
noncomputable def O.cls(o:Option O):=match o with
 |some (.inst C _)=>some C
 |some (.exc C _ _)=>some C
 |_=>none
def X.setAttr(ok:Nat->aa->Bool)(name:aa)(v x:V):M Unit:=match v with
  | .ref i=>λH=>match O.cls H[i]? with
    |some C=>if ok C name then(match O.stored H i H[i]? name x with
      |some H'=>some (.ok (),H')
      |none=>none)else none
    |none=>none
  |_=>M.bad
def attrOk(K:aE)(C:Nat)name:=(qo K C name||vJ K C)&&AV K C&&fB K (.ref C) name==some none&&(plainOver K C||uS K C)&&fB K (.ref C) "__setattr__"==some (some (.builtin "object.__setattr__"))
inductive sN w φ h(a C:Nat)es(dx:Nat):Prop
 |mk (ox:Obj) (ds) (n) (nd:(es.map (·.1)).Nodup) (dict:ox.dict=some dx) (dat:h.get? dx=some (fK ds n)) (ents:co w φ h es ds.toList) (inst:InstAt h a ox C (some (fK ds n)))
inductive Ai(H:Hp)C es:O->Prop
 |inst:Ai H C es (.inst C es)
 |exc (j) (r) (hj:H[j]? =some (.bG es)):Ai H C es (.exc C (some j) r)
theorem UU(e:O.fields H (some o)=some (C,f)):Ai H C f o:=by rcases o with _|_|⟨i,h⟩|⟨i,d,r⟩|_|_|_;exact ns e;exact ns e;have a:=ao e;injection a with b c;exact Y b<|Y c<| .inst;rcases d with _|j;exact ns e;have e:(match H[j]? with|some (.bG f)=>some (i,f)|_=>none)=some (C,f):=e;rcases g:H[j]? with _|k;rw[g]at e;exact ns e;rw[g]at e;rcases k with _|_|_|_|h|_|_;exact ns e;exact ns e;exact ns e;exact ns e;have a:=ao e;injection a with b c;exact Y b<|ae c<| .exc j r g;exact ns e;exact ns e;exact ns e;exact ns e;exact ns e
theorem Ge(c:dG w φ h p (.inst C d)):sN w φ h p.1 C d p.2:=kJ c λj e f n g a=>xA a λb i=>.mk _ f n e rfl b i ⟨g,rfl,rfl,b⟩
theorem Gb(G:Rel w v φ H h)(e:dG w φ h p (.exc C (some j) r))(f:H[j]? =some (.bG g)):∃q,φ[j]? =some q/\q.2=q.1/\sN w φ h p.1 C g q.1:=by refine bh λx i=>xA e λk a=>eJ a λq vs y k c l=>cT (G.objs j _ f) λA b m o a=>bZ a λs n d t=>i ?_;obtain rfl:=ao (c.symm.trans b);exact(bn q c m (.mk _ s n o rfl d t ⟨l,rfl,rfl,d⟩))
theorem CR(G:Good w n A φ H h)(g:am φ h v c)(e:O.fields H (v.eH H)=some (C,k)):∃a l,c=.ref a/\sN w φ h a C k l:=by rcases b:v.eH H with _|o;rw[b]at e;exact ns e;rw[b]at e;refine je (G.obj g b) λi p d f s hi b=>?_;rcases UU e with _|⟨j,r,m⟩;exact(bQ p.1 p.2 f (Ge b));exact c_ (Gb G.rel b m) λq d d I=>(bQ p.1 q.1 f I)
theorem M.Ga{v:V}:∀H,M.inst v H=M.opt (λH=>O.fields H (v.eH H)) H:=by
 intro H
 rcases v<;>rfl
theorem z.inst{t:ay->a_ k}(G:Good w d A φ H s.heap)(h:am φ s.heap v c)(y:∀a C e b,sN w φ s.heap a C e b->z prog w d i A φ s H (t (.ref a)) (m (C,e)) P):z prog w d i A φ s H (t c) ((M.inst v).bd m) P:=by have:M.inst v=M.opt λH=>O.fields H (v.eH H):=funext M.Ga;exact Y this<|z.nl λf hz=>bZ (CR G h hz) λa b j I=>Y j<|y a f.1 f.2 b I
theorem Db(g:co w φ h c a):(∃x v,bg q c=some x/\getL q a=some (some v)/\am φ h x v)\/(bg q c=none/\getL q a=some none):=by
 have i:a.any (·.refKey)=false:=by
  clear q;induction g with
  |nil=>rfl
  |cons k t x v c a o _ j=>simp only[WK,j,A_];rfl
 have l:(λe:iS=>cE q e.key)=λe=>e.key.isStr q:=funext λe=>(isStr_of q e.key).symm;have:=g.find (q:=q);rw[l]at this;unfold getL;rcases this with⟨x,v,d,b,m⟩|⟨d,b⟩;refine ad (ij.mp b) λe n f=>?_;subst f;exact .inl (fU x _ d (Y n rfl) m);rw[Wz]at b;exact .inr ⟨d,by refine Y b<|Y i ?_;rfl⟩
theorem KW(b:am φ h x v)(c:x.rH=false):wF v=true:=by revert c;exact am.casesOn b (λh=>rfl) (λa h=>rfl) (λa a h=>rfl) (λa a h=>rfl) (λa a a h=>rfl) (λv h=>tf h) (λa a a a a a a h=>rfl) (λa a a a a a a h=>rfl) λa a a a a a h=>rfl
theorem xW{K:aE}(h:attrOk K C name=true):(qo K C name=true\/vJ K C=true)/\AV K C=true/\fB K (.ref C) name=some none/\(plainOver K C=true\/uS K C=true)/\fB K (.ref C) "__setattr__"=some (some (.builtin "object.__setattr__")):=by unfold attrOk at h;simp only[bO,gR,beq_iff_eq]at h;exact(mW h.1.1.1.1 h.1.1.1.2 h.1.1.2 h.1.2 h.2)
theorem z.Gg[Decidable p](k:p->z prog w a b A φ s H t m P):z prog w a b A φ s H t (if p then m else M.bad) P:=z.bM k
theorem CB{K:aE}(h:K.In e)(d:∀C n,ok C n=true->attrOk K C n=true)(G:Good w e A φ H s.heap)(i:am φ s.heap a c):z prog w e aI A φ s H (wx c name true) (X.attr ok name a) am:=z.inst (t:=λc=>wx c name true) G i λa C r y ⟨L,ds,n,nd,e2,e3,j,I⟩=>z.Gg λk=>by refine hZ (xW (d _ _ k)) λl m o h4 h5=>?_;rcases Db j with⟨x,v,b,f,g⟩|⟨b,f⟩;refine Y b ?_;dsimp only;split;exact z.bad;rename_i p;exact z.val G λQ E q=>Od (h.keeps G.rel.base) I l (findObj_own m o rfl f) (KW g (by simpa using p)) (q _ {s with toks:=s.toks+1} rfl g);exact Y b<|z.bad
theorem T1{K:aE}(g:K.In f)(e:∀C n,ok C n=true->attrOk K C n=true)(h:aF prog w f k b loc o i)(d:ql o name b (br o b)=br o b):aF prog w f k b loc (.Attribute o name pos) (i.bd (X.attr ok name)):=VU h (λA φ s H a c R=>CB g e) d
theorem Vr(a:co w φ h b l):l.any (·.refKey)=false:=by induction a with
 |nil=>rfl
 |cons k t x v b d e _ c=>simp only[WK,c,A_];rfl
theorem Fb{o:Nat}(q:s.heap.get? o=some (fK b n))(y:co w φ s.heap L b.toList)(hz:L.length<=1000)(h:∀r a g t,r.get? o=some (fK a g)->a.toList=mB ⟨nV w.params name,.str name t,v⟩ name v b.toList->fq o s.heap r->a.size<=1001->R () {s with heap:=r,toks:=s.toks+1}):aJ (aq prog w) A (nsSet o name v) R E s:=by
 have C:=y.length;rw[cz]at C;refine ag (ag (wpAny_askSetting (aK (ag (wpAny_mkText (ag (A' q ?_)))))));dsimp only;have c:(!b.any (·.key.isStr name)&&b.any (·.refKey))=false:=ae (Array.any_toList (p:=λe:iS=>e.refKey))<|Y (Vr y)<|Y (Bool.and_false _) rfl;refine Y (aRefKeyMayBeTheName_at _ _)<|Y c ?_;have Q:(λe:iS=>cE name e.key)=λe=>e.key.isStr name:=funext λe=>(isStr_of name e.key).symm;have x:∀tk,∃a g,Obj.putName name (nV w.params name) (.str name tk) v (fK b n)=fK a g/\a.toList=mB ⟨nV w.params name,.str name tk,v⟩ name v b.toList/\a.size<=b.size+1:=λtk=>Y Obj.putName_eq ?_;unfold Obj.putNameByArray;dsimp only;have i:(b.findIdx? λe=>e.key.isStr name)=b.toList.findIdx? λe=>cE name e.key:=Y Q ?_;obtain⟨l⟩:=b;simp;refine Y i ?_;cases H:b.toList.findIdx? λe=>cE name e.key with
  |some j=>exact(fU _ _ rfl (by refine Y (Gx H) ?_;obtain⟨l⟩:=b;simp) (by simp))
  |none=>exact(fU _ _ rfl (by refine Y (CN H) ?_;obtain⟨l⟩:=b;simp) (by simp))
 refine fQ (x s.toks) λa g d k m=>wpAny_updatePart q ?_;have f:=mJ (Obj.putName name (nV w.params name) (.str name s.toks) v) q (by refine Y d ?_;rfl);rw[d]at f;exact h _ a g _ f k (kh ..) (aL [.le U 1000,.eq u U,.le J (u+1)] (.le J 1001) B hz C m)
inductive sw(H:Hp)i name x C:O->Hp->Prop
 |inst (es) (l:es.length<=1000):sw H i name x C (.inst C es) (H.set i (.inst C (cc name x es)))
 |exc (j) (r) (es) (hj:H[j]? =some (.bG es)) (l:es.length<=1000):sw H i name x C (.exc C (some j) r) (H.set j (.bG (cc name x es)))
 |new (r):sw H i name x C (.exc C none r) (H.set i (.exc C (some H.length) r)++[.bG [(name,x)]])
theorem Nw(a:O.cls (some o)=some C)(e:O.stored H i (some o) name x=some H'):sw H i name x C o H':=by rcases o with _|_|⟨f,b⟩|⟨f,d,r⟩|_|_|_;exact ns a;exact ns a;cases a;have e:=e;exact cU e λg e=>ae (ao e)<| .inst b ‹_›;refine ae (ao a) ?_;rcases d with _|j;exact ae (ao e)<| .new r;have e:(match H[j]? with|some (.bG b)=>if b.length<=1000 then some (H.set j (.bG (cc name x b)))else none|_=>none)=some H':=e;rcases c:H[j]? with _|h;rw[c]at e;exact ns e;rw[c]at e;rcases h with _|_|_|_|b|_|_;exact ns e;exact ns e;exact ns e;exact ns e;dsimp only at e;exact cU e λg e=>ae (ao e)<| .exc j r b c ‹_›;exact ns e;exact ns e;exact ns a;exact ns a;exact ns a
theorem Cr(h:n<=1001):n<=bH+1:=Y fA<|aG h (lb B)
theorem Fu{K:aE}{ok:Nat->aa->Bool}(XK:K.In hb)(hc:attrOk K C name=true)(G:Good w hb A φ H s.heap)(hx:am φ s.heap x v)(I:sN w φ s.heap a C p h)(hz:p.length<=1000)(f:Own φ h)(q:∀e c i,e.get? h=some (fK c i)->fq h s.heap e->co w φ e (cc name x p) c.toList->Step aI φ s.heap φ e->∀tk,Q () {s with heap:=e,toks:=tk}):aJ (aq prog w) A (setAttr (.ref a) name v) Q E s:=by refine hZ (xW hc) λh1 h2 h3 h4 h5=>?_;have j:=XK.keeps G.rel.base;refine ad (any_some h2) λcd k l=>?_;obtain⟨ox,ds,n,nd,r,e3,t,I⟩:=I;refine set_plain j I h5 (Gw j I h4 h3 λb=>?_);obtain⟨m,d,hn,-⟩:=I;obtain⟨oc,af,ai,aj⟩:=ox;dsimp only at d r;subst d r;refine ag (aK (ag (ag (A' m (ag (Looks.here (A9 j k) ?_))))));refine Y l<|aK (ag (aK (ag ?_)));refine Fb e3 t hz λe c i ap g eq L o=>?_;have S:=Step.upd f L ⟨_,g⟩;exact ag (wpAny_lookBehind g (pastItsLine_dict (Cr o)) (aK (q e c i g L (Y eq<|t.set (hx.be S) λy av hy=>hy.be S) S _)))
theorem M8{K:aE}(XK:K.In hb)(hc:attrOk K C name=true)(G:Good w hb A φ H s.heap)(hx:am φ s.heap x v)(hp:φ[i]? =some p)(ho:dG w φ s.heap p (.exc C none r))(q:∀h s',Good w hb A h (H.set i (.exc C (some H.length) r)++[.bG [(name,x)]]) s'.heap->aP aI φ s h s'->Q () s'):aJ (aq prog w) A (setAttr (.ref p.1) name v) Q E s:=by
 refine hZ (xW hc) λh1 h2 h3 h4 h5=>?_;have n:=XK.keeps G.rel.base;refine ad (any_some h2) λcd t y=>gF ho λa vs sl aj m=>?_;have I:InstAt s.heap p.1 {cls:=.ref C,dict:=none,data:=.fields vs,slots:=sl} C none:=⟨m,rfl,rfl,trivial⟩;refine set_plain n I h5 (Gw n I h4 h3 λb=>?_);refine ag (aK (ag (ag (A' m (ag (Looks.here (A9 n t) ?_))))));refine Y y ?_;have j:=cO iX m;refine ag (ag (wpAny_alloc (aK (ag (wpAny_update j ?_)))));refine aK (a:=some s.heap.objs.size) (ag (aK (ag ?_)));have R1:=G.rel.new (p:=(s.heap.objs.size,s.heap.objs.size)) (o:=.bG []) (λb o=>cO _) (aS _) (aS _) (kG rfl (by simp) (#[]) 0 (dZ s.heap (o:=iX) rfl) .nil);have S1:Step aI φ s.heap (φ++[(s.heap.objs.size,s.heap.objs.size)]) (s.heap.push iX):=Step.new (λb o=>cO _) (cA _) (cA _);have k:(φ++[(s.heap.objs.size,s.heap.objs.size)])[i]? =some p:=nE hp;have d:(φ++[(s.heap.objs.size,s.heap.objs.size)])[H.length]? =some (s.heap.objs.size,s.heap.objs.size):=ae G.rel.len<|Y (mI (aS _)) ?_;simp
 have hu:=mJ (λo=>{cls:=o.cls,dict:=some s.heap.objs.size,data:=o.data,slots:=o.slots}) j rfl;have e:fq p.1 (s.heap.push iX) ((s.heap.push iX).update p.1 λo=>{cls:=o.cls,dict:=some s.heap.objs.size,data:=o.data,slots:=o.slots}):=kh ..;have L:=(e.2 _ (qd (du m))).trans (dZ s.heap rfl);generalize s.heap.objs.size=f at*;generalize ((s.heap.push iX).update p.1 λo=>{cls:=o.cls,dict:=some f,data:=o.data,slots:=o.slots})=l at*;have R2:=R1.upd k (.inl rfl) e (o:=.exc C (some H.length) r) ⟨a,(f,f),vs,sl,aj,d,hu⟩;refine Fb (s:={s with heap:=l,toks:=s.toks+1}) L (φ:=φ++[(f,f)]) .nil (by simp) λh' af n' ap g eq hs ai=>?_;have c:=S1.trans ((Step.upd (dT k).1 e ⟨_,hu⟩).trans (Step.upd (dT d).1 hs ⟨_,g⟩));have R3:=R2.upd d (.inl rfl) hs (o:=.bG [(name,x)]) (kG rfl (by simp) af n' g (Y eq<| .cons _ _ _ _ _ _ (hx.be c) .nil));rw[List.set_append_left _ _ (ae G.rel.len<|(bR.mp hp).1),WL _ _ (by simp),WM,Nat.sub_self]at R3;exact ag (wpAny_lookBehind g (pastItsLine_dict (Cr ai)) (aK (q _ _ (G.step R3 c) (Step.s c))))
theorem Um(e:X.setAttr ok name (.ref i) x H=some (r,H')):∃C o,H[i]? =some o/\ok C name=true/\r=.ok ()/\sw H i name x C o H':=by
 have e:(match O.cls H[i]? with
 |some C=>if ok C name then(match O.stored H i H[i]? name x with
 |some H'=>some (Rs.ok (),H')
 |none=>none)else none
 |none=>none)=some (r,H'):=e;rcases hi:H[i]? with _|o;rw[hi]at e;injection e;rw[hi]at e;rcases a:O.cls (some o)with _|C;rw[a]at e;injection e;rw[a]at e;dsimp only at e;refine cU e λh e=>?_;cases b:O.stored H i (some o) name x with
 |none=>rw[b]at e;injection e
 |some g=>rw[b]at e;injection e with c;injection c with d f;exact Y d<|ae f<|(kN C o rfl (‹_›) rfl (Nw a b))
theorem E6{K:aE}(XK:K.In hb)(f:∀C n,ok C n=true->attrOk K C n=true)(G:Good w hb A φ H s.heap)(ha:am φ s.heap a c)(hx:am φ s.heap x v):z prog w hb aI A φ s H (setAttr c name v) (X.setAttr ok name a x) (λy y y y=>True):=by
 intro r H' e Q E hQ hE;have e0:∀a,a.eH H=none->X.setAttr ok name a x H=none:=λa h=>by rcases a with _|_|_|_|i|_|_|_|_;rfl;rfl;rfl;rfl;have h:H[i]? =none:=h;refine(?_:(match O.cls H[i]? with|some C=>_|none=>none)=_);refine Y h ?_;rfl;rfl;rfl;rfl;rfl
 rcases d:a.eH H with _|o;rw[e0 a d]at e;injection e;refine bh λR' k'=>bZ (G.obj ha d) λi p k af=>?_;subst k;refine xA af λai aj=>?_;subst ai;refine bN aj λhp hi d=>mz (Um e) λC o' L hc k st=>?_;subst k;refine k' ?_;rw[hi]at L;injection L with ap;subst ap;rcases st with⟨es,l⟩|⟨j,b,es,hj,l⟩|b;have ne:=d.1;have I:=Ge d;have nd:=d.2.1;exact Fu (ok:=ok) XK (f _ _ hc) G hx I l (dT hp).2 λh' m n' g hs t S tk=>hQ φ _ () () rfl (G.step (G.rel.upd hp (.inr rfl) hs (kG ne (xF nd) m n' ((hs.2 _ (ch ne)).trans (kJ d λy y ds n f1 y=>f1)) ⟨g,t⟩)) S) (Step.s S) trivial;refine bh λR' k'=>c_ (Gb G.rel d hj) λq hq av I=>?_;obtain⟨_,_,_,nd,_⟩:=id I;exact k'<|Fu (ok:=ok) XK (f _ _ hc) G hx I l (dT hq).1 λh' m n' g hs t S tk=>hQ φ _ () () rfl (G.step (G.rel.upd hq (.inl rfl) hs (kG av (xF nd) m n' g t)) S) (Step.s S) trivial;exact M8 XK (f _ _ hc) G hx hp d λax s' G' S=>hQ ax s' () () rfl G' S trivial
def bF C name v:=(M.inst v).bd λp=>if p.1=C then(match bg name p.2 with|none=>M.ret ()|some _=>M.bad)else M.bad
theorem dH.inst{K:aE}{C f:Nat}(m:K.In p)(k:qo K C name=true)(q:fB K (.ref C) name=some (some (.ref f)))(t:isFn K (.ref f)=true):dH prog w p name (bF C name) (.ref f):=by intro A φ s H o c r H' G y e;unfold bF M.bd at e;rw[M.Ga,M.DA]at e;rcases h:O.fields H (o.eH H)with _|af;rw[h]at e;injection e;rw[h]at e;obtain⟨a,dx,rfl,ox,L,n,nd,e2,e3,he,I⟩:=CR G y h;dsimp only[Ba]at e;split at e;rename_i hc;rcases Db he with⟨x,v,b,l,g3⟩|⟨b,l⟩;rw[b]at e;injection e;rw[b]at e;injection e with d;injection d with i j;subst i;subst j;rw[hc]at I;refine(aX rfl rfl (λpl Q E=>method_fn (m.keeps G.rel.base) I (HI k).1 (HI k).2 q (beq_iff_eq.mp t) ?_));refine(?_:(lookIn name (dictOf L.toList n)).map _=_);refine Y (lookIn_dict _ _ _)<|Y l ?_;rfl;injection e
theorem EW{K:aE}{C f:Nat}(XK:K.In hb)(ho:aF prog w hb k g loc q (M.ret (.g (.ref C))))(hg:tm K (.ref C) "__getattribute__"=some (some (.builtin "type.__getattribute__")))(t:readsIn K C mc=true)(e:qs K (.ref C) mc name=some (.val (.ref f)))(hk:gW K (.ref f))(ha:db prog w hb k g loc h ms)(hf:ck prog w hb k (.ref f) m)(n:ql q name g (br q g)=br q g)(v:s_ (h.length+([]:List ww).length) (fy pos (d4 h g)) (lL pos (lM [] g))=true)(o:(j.endLine==pos.line)=true):aF prog w hb k g loc (.Call (.Attribute q name j) h [] pos) (M.call m ms):=λA φ s H R G F=>by
 refine Y (Hs _ _ _ _ _ _ _)<|Y n<|z.pS (ho A φ s H R G F) λaf d c i y p=>?_;obtain rfl:=am.gv p;refine z.at_ ?_;have L:tc true q g j pos=pure pos:=by delta tc;simp[o]
 delta Ht;refine Y v<|λr H' e' Q E hQ hE=>ag (da (method_cls (XK.keeps i.rel.base) hg (cls_value (XK.keeps i.rel.base) t e rfl ?_)));refine Y L<|ag (aK ?_);exact um (s:={d with toks:=d.toks+1}) XK hk ha hf R i (F.step y) .nil r H' e' Q E (λl s' b a t G S p=>hQ l s' b a t G (aP.of_same (rfl:ju {d with toks:=d.toks+1} d) S) p) λl s' x e t G F=>hE l s' x e t G (eu.of_same (rfl:ju {d with toks:=d.toks+1} d) F)
def M.make(C:Nat)(m:List V->M V)vs:=(M.alloc (.inst C [])).bd λa=>(m (a::vs)).bd λr=>match r with
 | .none=>M.ret a
 |_=>M.bad
theorem EV{A:fu}{C:Nat}:A.under (.builtin "type.__call__" ⟨.ref C::a,[]⟩)={A with depth:=A.depth+1,units:=A.units+1}:=by
 have b:(Bb "type.__call__" ⟨gO C::a,[]⟩).weight=1:=by kernel_rfl
 have c:(Bb "type.__call__" ⟨gO C::a,[]⟩).cUnits=1:=by kernel_rfl
 have e:(Bb "type.__call__" ⟨gO C::a,[]⟩).envs=[]:=by kernel_rfl
 have f:(Bb "type.__call__" ⟨gO C::a,[]⟩).guards=[]:=by kernel_rfl
 obtain⟨g,d,h,i,j⟩:=A;kernel_rfl
theorem KR{K:aE}{C f:Nat}(XK:K.In hb)(hm:makesIn K C=true)(hi:fB K (.ref C) "__init__"=some (some (.ref f)))(hf:typeIn K (.ref f)=some (.type "function"))(y:iN prog w hb k (.ref f) m):iN prog w hb (k+1) (.ref C) (M.make C m):=by intro A φ s H vs cs R G hv r H' e RR hQ hE;have Xs:=XK.keeps G.rel.base;obtain⟨d,gg,dd,tt,oo⟩:=s;refine make_core (makes_of Xs hm) (tx Xs hi) (λL=>bind_fn Xs L hf) (.inl rfl)<|Y EV ?_;have kp:∀b o,d.get? b=some o->((d.push iX).push (nW C d.objs.size)).get? b=some o:=λb o e=>cO _ (cO _ e);have hI:=dZ (d.push iX) (o:=nW C d.objs.size) rfl;rw[A4]at hI;have S:Step aI φ d (φ++[(d.objs.size+1,d.objs.size)]) ((d.push iX).push (nW C d.objs.size)):=Step.new kp (jd (gS _)) (cA _);have G':Good w hb {A with depth:=A.depth+1,units:=A.units+1} (φ++[(d.objs.size+1,d.objs.size)]) (H++[.inst C []]) ((d.push iX).push (nW C d.objs.size)):=⟨(G.rel.new kp (gS _) (aS _) (kG (by simp) (by simp) (#[]) 0 hI ⟨(cO (nW C d.objs.size) (dZ d rfl)),.nil⟩)),λl hl=>(G.dQ l hl).step S⟩;have n:am (φ++[(d.objs.size+1,d.objs.size)]) ((d.push iX).push (nW C d.objs.size)) (.ref H.length) (.ref (d.objs.size+1)):=Good.jm G.rel (d.objs.size+1,d.objs.size) _;simp only[M.make,M.bd,M.alloc]at e;rcases h:m (.ref H.length::vs) (H++[.inst C []])with _|av;rw[h]at e;injection e;obtain⟨Q,af⟩:=av;rw[h]at e;have Rm:=(bA (R.1.imp id λh=>an [.lt (.a J (.k 1)) (.k 50)] (.lt J (.k 50)) B h) (by have:=R.2.1;skip;exact aL [.lt (.a J (.m 2 (.a U (.k 1)))) u] (.lt (.a (.a J (.k 1)) (.m 2 U)) u) B this) (by have:=R.2.2.1;skip;exact aL [.lt (.a (.a J (.m 10 (.a U (.k 1)))) (.k 100)) u] (.lt (.a (.a (.a J (.k 1)) (.m 10 U)) (.k 100)) u) B this) R.2.2.2);refine y {A with depth:=A.depth+1,units:=A.units+1} _ ⟨(d.push iX).push (nW C d.objs.size),gg,dd,tt,oo⟩ _ (.ref H.length::vs) (.ref (d.objs.size+1)::cs) Rm G' (.cons _ _ _ _ n (hv.be S)) Q af h _ (λi j b a hr g q p=>?_) λi j ai aj hr g ap=>?_;subst hr;dsimp only at e;revert e;refine am.casesOn p (λe=>?_) (λc e=>ns e) (λc c e=>ns e) (λc c e=>ns e) (λc c c e=>ns e) (λc e=>ns e) (λc c c c c c c e=>ns e) (λc c c c c c c e=>ns e) λc c c c c c e=>ns e;injection e with t;injection t with v x;subst v;subst x;exact⟨rfl,hQ i j _ _ rfl ⟨g.rel,g.dQ⟩ (aP.trans (Step.s S) q) (n.be q.toStep)⟩;subst hr;injection e with t;injection t with v x;subst v;subst x;exact hE i j ai aj rfl ⟨g.rel,g.dQ⟩ (ap.after (Step.s S))
def M.sq(m:M (Out b))(k:b->M (Out c)):=m.bd λo=>match o with
 | .go a=>k a
 | .ret v=>M.ret (.ret v)
def X.setItem o i x:=M.vc i (λj=>(M.cC o).bd λxs=>M.bM (0<=j/\j<xs.length/\xs.length<=bH) (M.yZ o (xs.set j.toNat x))) (λq=>M.D9 o q x) λa=>M.bad
def X.iadd(a b:V):M V:=M.int a λx=>M.int b λy=>M.ret (.int (x+y))
def M.cM(n:Nat)(v:V):=match v with
 | .tup xs=>if xs.length=n then M.ret xs else M.bad
 |_=>M.bad
def M.iC(v:V)(k:V->V->M c):=(M.cM 2 v).bd λxs=>match xs with
 |[a,b]=>k a b
 |_=>M.bad
def M.RJ(v:V)(k:V->V->V->M d):=(M.cM 3 v).bd λxs=>match xs with
 |[a,b,c]=>k a b c
 |_=>M.bad
def M.iG(v:V)(k:V->V->V->V->V->M f):=(M.cM 5 v).bd λxs=>match xs with
 |[a,b,c,d,e]=>k a b c d e
 |_=>M.bad
def bt(a b:Loc):=∀x v,a.lookup x=some v->b.lookup x=some v
theorem bt.refl:bt a a:=λb b h=>h
theorem bt.nil:bt [] a:=λb b h=>by simp at h
theorem bt.keep(r:bt a b):bt ((x,v)::a) ((x,v)::b):=λy c e=>by by_cases q:y=x;subst q;simpa using e;rw[dw,beq_false_of_ne q]at e⊢;exact r y c e
def j6(a:dE)x:=a.kindOf x=some .local\/(a.kindOf x=some .cell/\(a.cells.lookup x).isSome=true)
theorem z.jN{f:a->a_ γ}(y:z prog w b c A φ s H (f t) m P):z prog w b c A φ s H ((Pure.pure t:a_ a)>>=f) m P:=λr H' e Q E d h=>ag (aK (y r H' e Q E d h))
theorem aV.le(F:aV b φ a h loc)(r:bt l loc):aV b φ a h l:=F.weaken r
theorem t4(i:j6 a x)(G:Good w d A φ H s.heap)(F:aV d φ a s.heap loc)(j:am φ s.heap v c):z prog w d (cm a) A φ s H (Bc a x c) (M.ret ()) (λb k l l=>b=φ/\aV d b a k ((x,v)::loc)):=by intro r H' e Q E m q;injection e with f;injection f with g h;subst g;subst h;exact HJ (Ef G F j i λs' n o p=>m φ s' () () rfl n o ⟨rfl,p⟩)
theorem z.fH(x:z prog w d aI A φ s H t m P)(y:∀c s' H' b a,Good w d A c H' s'.heap->aP aI φ s c s'->P c s'.heap b a->z prog w d j A c s' H' (f a) (k b) l):z prog w d j A φ s H (t>>=f) (m.bd k) l:=z.bd (P:=λc i b a=>Step aI φ s.heap c i/\P c i b a) (λr H' e Q E n o=>x r H' e Q E (λc s' b a h G S p=>n c s' b a h G S.any ⟨S,p⟩) λc s' x e h G F=>o c s' x e h G (F.weaken λv q=>q.elim)) λc s' H' b a G S p=>y c s' H' b a G ⟨p.1,S.os,S.gens⟩ p.2
inductive Stores prog w env:List aa->List (ay->a_ Unit)->Prop
 |nil:Stores prog w env [] []
 |cons {x:aa} {t:ay->a_ Unit} {xs:List aa} {ts:List (ay->a_ Unit)} (h:j6 env x) (ht:∀c(A)(s)(Q)(E),aJ (aq prog w) A (Bc env x c) Q E s->aJ (aq prog w) A (t c) Q E s)
 (hs:Stores prog w env xs ts):Stores prog w env (x::xs) (t::ts)
theorem zH{prog:dO}{w:cN}{t:aW}{b:dE}{xs:List aa}{a:List (ay->a_ Unit)}(x:Stores prog w b xs a):∀{vs}{l}{A}{φ}{s}{H}{loc},xs.length=vs.length->Good w t A φ H s.heap->aV t φ b s.heap loc->aH φ s.heap vs l->z prog w t (cm b) A φ s H (assignInOrder a l) (M.ret ()) (λy h' g g=>aV t y b h' ((xs.zip vs).reverse++loc)):=by induction x with
 |nil=>intro vs l A φ s H loc i G F k;rw[Be.mp i.symm]at k⊢;rcases k;exact z.pure G F
 |cons hc ht ai ih=>intro vs l A φ s H loc i G F k;revert i;refine aH.casesOn k (λi=>by injection i) λv c vs l k C i=>?_;refine z.mk λQ E h=>ag (da (ht c A s _ _ ?_));refine(t4 hc G F k).gC (Q':=λg H'=>H'=H) rfl λg H' L af g e m d p=>?_;obtain⟨rfl,n⟩:=p;subst e;refine(ih (bX i) m n (aH.step d F.jT C)).gC (Q':=λg f=>f=H') rfl λg f j o g e q r p=>?_;subst e;refine h j o _ q (d.trans r) ?_;(refine Y qt<|Y tz<|Y (cr _ _ _) ?_);exact p
theorem K3(h:bt (post a) loc):dm prog w c k b loc [] (M.ret (.go a)) post:=λA φ s H R G F=>z.pure G ⟨rfl,F.le h⟩
theorem Kg{st:fw}(h:bP prog w l k f loc st m q)(r:∀b,dm prog w l k f (q b) t (kk b) post):dm prog w l k f loc (st::t) (M.sq m kk) post:=λA φ s H R G F=>by refine Y (Bf _ _ _)<|(h A φ s H R G F).bd λe g i o y a n p=>?_;rcases o with b|v;exact xA p λd j=>Y d<|r b A e g i R a j;exact ad p λc d x=>Y d<|z.pure a (ak c rfl x)
theorem LV{mt:M Bool}{mb:M (Out r)}(m:gc prog w l k h loc i mt)(n:dm prog w l k h loc j mb post)(o:dm prog w l k h loc b q post):bP prog w l k h loc (.If i j b pos) (M.ite mt mb q) post:=λA φ s H R G F=>by refine Y (arm_exec_If _ _ _ _ _)<|z.at_ ((m A φ s H R G F).fH λa d e x c f g p=>?_);subst p;rcases x;exact o A a d e R f (F.step g);exact n A a d e R f (F.step g)
theorem Ku(h:aF prog w j k b loc e m):bP prog w j k b loc (.Return (some e) pos) (m.bd λv=>M.ret (.ret v)) post:=λA φ s H R G F=>Y (HK _ _ _)<|z.at_<|(h A φ s H R G F).fH λd f g x c a i p=>z.pure a (ak c rfl p)
theorem TN(h:aF prog w l k b loc e m)(hi:interactive b=false)(n:wG e none pos.line b=pure false):bP prog w l k b loc (.Expr e pos) (m.bd λo=>M.ret (.go ())) (λo=>loc):=λA φ s H R G F=>z.mk λQ E r=>wpAny_Expr_any ((h A φ s H R G F).use (aN.bd r) (λv j d f c g i a p=>g d f .next i a.any ⟨rfl,F.step a⟩) λx H' q=>q.any .refl) hi n
theorem u3(e:mM a c pos.line d=pure false)(f:kz a c d=pure none):exec (.Assign a c pos) d=(do standAt pos;let b <-(pure false:a_ Bool);if b then do{evalThenUse c d λv=>assignAll v ((eV a d).map (·.2));pure .next}else do{let v <-br c d;assignStores d v (<-(pure none:a_ (Option (List aa)))) ((eV a d).map (·.2))}):=Y (HL _ _ _ _)<|Y e<|Y f rfl
theorem PL(h:aF prog w C k b loc a m)(L:j6 b x)(hs:wG a (some (.Name x p)) pos.line b=pure false):bP prog w C k b loc (.Assign [.Name x p] a pos) (m.bd λv=>M.ret (.go v)) (λv=>(x,v)::loc):=λA φ s H R G F=>by refine Y (u3 (by exact hs) (by rfl))<|z.at_ (z.jN ?_);exact(h A φ s H R G F).fH λr y g v c i j q=>z.jN<|z.mk λQ E h=>ag (ag (jB ((t4 L i (F.step j) q).gC (Q':=λt H'=>H'=g) rfl λt H' d l t e n o f=>by subst e;exact aK (h d l .next n o ⟨rfl,f.2⟩))))
theorem uj{a:Nat}(f:A.handled=none)(G:Good w k A φ H s.heap)(g:s.heap.get? a=some {cls:=.type "tuple",data:=.seq vs.toArray n})(i:c=vs.length)(h:∀d,(∀b o,s.heap.get? b=some o->d.get? b=some o)->Q vs {s with heap:=d}):aJ (aq prog w) A (unpackItems (.ref a) c none) Q E s:=by
 refine Y i ?_;have:=PyProof.Rows.unpackItems_tuple (prog:=prog) (w:=w) (E:=E) f (bn _ g rfl ⟨n,rfl⟩) λd j=>by simpa using h d λb o e=>j b o (gN (du e)) e
 simpa using this
theorem Stores.len(h:Stores prog w c xs a):a.length=xs.length:=by induction h with
 |nil=>rfl
 |cons _ _ _ b=>exact congrArg (·+1) b
theorem N5(h : aF prog w hb k d loc i m) (y : Stores prog w d xs ((eV g d).map (·.2))) (t : (eV g d).findIdx? (·.1) = none)
    (hs : mM [.Tuple g kk p] i pos.line d = pure false) (hw : kz [.Tuple g kk p] i d = pure none) (hk : 50 <= k) :
    bP prog w hb k d loc (.Assign [.Tuple g kk p] i pos) (m.bd λv => (M.cM xs.length v).bd λvs => M.ret (.go vs)) (λvs => (xs.zip vs).reverse ++ loc) := λA φ s H R G F => by
  refine Y (u3 hs hw)<|z.at_ (z.jN ?_)
  skip
  refine (h A φ s H R G F).fH λj o r v c l L q => z.jN<|(?_ : z prog w hb (cm d) A j o r (n8 (.Tuple g kk p) d c >>= λb => pure Flow.next) _ _)
  refine Y (HM _ _ _ _ _) ?_
  refine am.casesOn q z.bad (λb=>z.bad) (λb b=>z.bad) (λb b=>z.bad) (λb b b=>z.bad) (λb=>z.bad) (λa n vs cs ho hn hv => ?_) (λb b b b b b b=>z.bad) λb b b b b b=>z.bad
  delta M.cM
  dsimp only
  split
  · rename_i hl
    refine z.mk λQ E h => ag (ag (jB ?_))
    unfold unpack
    have C := y.len
    rw [bD] at C
    refine Y t<|ag (da (uj (R.none hk) l ho (Y hv.length<|Y hl<|Y C rfl) λh' kp => ?_))
    have S' : Step aI j o.heap j h' := Step.of_keeps kp
    exact (zH y hl.symm (l.step (l.rel.of_keeps kp) S') ((F.step L).step S') (hv.be S')).gC (Q' := λb H' => H' = r) rfl λb H' x af b e ai aj f => aK (h x af .next (e ▸ ai) (aP.trans (Step.s S'.any) aj) ⟨rfl, f⟩)
  · exact z.bad
theorem aH.reverse(q:aH φ h xs a):aH φ h xs.reverse a.reverse:=q.ind (C:=λxs a=>aH φ h xs.reverse a.reverse) .nil λx v xs vs b d c=>Y tz<|Y tz<|c.append (.cons _ _ _ _ b .nil)
theorem VX(c:∀x∈l,j6 a x):Stores prog w a l (l.map λn=>Bc a n):=by induction l with
 |nil=>exact .nil
 |cons x l d=>exact .cons (c x (.head _)) (λb b b b b h=>h) (d λy e=>c y (.tail _ e))
theorem S_(h : aF prog w hb k j loc d m) (hx : ∀ x ∈ xs, j6 j x)
    (hs : mM [.Tuple l kk p] d pos.line j = pure false) (hw : kz [.Tuple l kk p] d j = pure (some xs)) (hk : 50 <= k) :
    bP prog w hb k j loc (.Assign [.Tuple l kk p] d pos) (m.bd λv => (M.cM xs.length v).bd λvs => M.ret (.go vs)) (λvs => (xs.reverse.zip vs.reverse).reverse ++ loc) := λA φ s H R G F => by
  refine Y (HL _ _ _ _)<|Y hs<|Y hw<|z.at_ (z.jN ?_)
  skip
  refine (h A φ s H R G F).fH λi r t v c g y q => z.jN ?_
  skip
  refine z.TZ ?_
  refine am.casesOn q z.bad (λb=>z.bad) (λb b=>z.bad) (λb b=>z.bad) (λb b b=>z.bad) (λb=>z.bad) (λa n vs cs ho hn hv => ?_) (λb b b b b b b=>z.bad) λb b b b b b=>z.bad
  delta M.cM
  dsimp only
  split
  · rename_i hl
    refine z.mk λQ E h => ag (uj (R.none hk) g ho (Y hv.length<|Y hl rfl) λh' kp => ?_)
    have S' : Step aI i r.heap i h' := Step.of_keeps kp
    exact ag ((zH (VX (λx q => hx x (Bg.mp q))) (Y WN<|Y WN<|hl.symm) (g.step (g.rel.of_keeps kp) S') ((F.step y).step S') (hv.be S').reverse).gC (Q' := λb H' => H' = t) rfl λb H' o C b e L af f => aK (h o C .next (e ▸ L) (aP.trans (Step.s S'.any) af) ⟨rfl, f⟩))
  · exact z.bad
theorem DI{t:a_ Unit}(h:z prog w d (cm a) A φ s H t m (λe k b b=>aV d e a k l)):z prog w d (cm a) A φ s H (t>>=λb=>pure Flow.next) (m.bd λb=>M.ret (Out.go ())) (jQ d a (λ_=>l)):=h.bd λf g i b b c j p=>z.pure c ⟨rfl,p⟩
theorem Pn{K:aE}(XK:K.In hb)(ax:∀C n,ok C n=true->attrOk K C n=true)(h:aF prog w hb k b loc a m)(ho:aF prog w hb k b loc o mo)(hs:mM [.Attribute o name p] a pos.line b=pure false)(hw:kz [.Attribute o name p] a b=pure none):bP prog w hb k b loc (.Assign [.Attribute o name p] a pos) (m.bd λv=>mo.bd λx=>(X.setAttr ok name x v).bd λt=>M.ret (.go ())) (λt=>loc):=λA φ s H R G F=>by
 refine Y (u3 hs hw)<|z.at_ (z.jN ?_);refine(h A φ s H R G F).fH λd f g v c y L q=>z.jN<|(?_:z prog w hb (cm b) A d f g (n8 (.Attribute o name p) b c>>=λt=>pure Flow.next) _ _);refine Y (arm_assign_Attribute _ _ _ _ _)<|ae M.cR ?_;have i:=F.step L.toStep;refine DI<|((ho A d f g R y i).holding).fH λa3 a4 a5 x ov af j ai=>z.at_ ?_;have e:X.setAttr ok name x v=(X.setAttr ok name x v).bd λt=>M.ret ():=by funext H;delta M.bd M.ret;rcases X.setAttr ok name x v H with _|a7;rfl;obtain⟨r,H'⟩:=a7;rcases r<;>rfl
 refine Y e<|(E6 XK ax af ai (q.be j)).holding.fH λl aj a6 t t ap av t=>?_;intro r H' e Q E hQ hE;injection e with a0;injection a0 with a1 a2;subst a1;subst a2;exact AP (hQ l aj _ _ rfl ap (Step.s .refl) ((i.step j).step av.toStep))
theorem Kl(G:Good w hb A φ H s.heap)(m:am φ s.heap o c)(hi:am φ s.heap i d)(y:am φ s.heap x v):z prog w hb aI A φ s H (setItem c d v) (X.setItem o i x) (λa a a a=>True):=z.vc (t:=λd=>setItem c d v) hi (λj t=>z.cC G m λi p xs vs n h1 h2 g h4 h5 C L=>z.bM λhc=>by subst h1 h2;refine bN hc λc1 b f=>?_;rw[<-L.length,cz]at b f;rw[fA]at f;refine z.of (λr H' e=>?_) G;have h:=ao e;injection h with k l;refine ae k<|ae l<|(ak () rfl (λQ E q=>ki_setAt C c1 (by(revert b f;apply dj j;exact λaf ai=>λb f=>aL [.aR (.s (.c J) (.c U)) (.c u),.le u (.k 16777216)] (.aR (.s (.c J) (.c U)) (.k 9223372036854775808)) B b f)) b ?_));exact xA (Ax (xs:=xs) (vs:=vs) (n:=n) G h4 g (kh ..) (n6 C (λx=>x.setIfInBounds j.toNat v)) (Y WO<|L.set _ y)) λR' S'=>q φ _ _ R' S' trivial) (λq t=>UN G m y) λa a a=>z.bad
theorem M.Uy{m:M Unit}:m=m.bd λb=>M.ret ():=by funext H;delta M.bd M.ret;rcases m H with _|a;rfl;obtain⟨r,H'⟩:=a;rcases r<;>rfl
theorem Si(h:aF prog w hb k a loc b m)(ho:aF prog w hb k a loc o mo)(hi:aF prog w hb k a loc i mi)(hs:mM [.Subscript o i p] b pos.line a=pure false)(hw:kz [.Subscript o i p] b a=pure none):bP prog w hb k a loc (.Assign [.Subscript o i p] b pos) (m.bd λv=>mo.bd λx=>mi.bd λy=>(X.setItem x y v).bd λt=>M.ret (.go ())) (λt=>loc):=λA φ s H R G F=>by refine Y (u3 hs hw)<|z.at_ (z.jN ?_);refine(h A φ s H R G F).fH λj l n v c af ai q=>z.jN<|(?_:z prog w hb (cm a) A j l n (n8 (.Subscript o i p) a c>>=λt=>pure Flow.next) _ _);have e:(mo.bd λx=>mi.bd λy=>(X.setItem x y v).bd λt=>M.ret (Out.go ()))=(mo.bd λx=>mi.bd λy=>X.setItem x y v).bd λt=>M.ret (.go ()):=Y M.cR ?_;congr 1;funext x;exact Y M.cR rfl;refine Y (arm_assign_Subscript _ _ _ _ _)<|Y e ?_;have d:=F.step ai.toStep;refine DI<|((ho A j l n R af d).holding).fH λC aj ap x ov av f ax=>((hi A C aj ap R av (d.step f)).holding).fH λa8 a9 a' y iv a0 g a1=>z.at_<|Y (M.Uy (m:=X.setItem x y v))<|(Kl a0 (ax.be g) a1 (q.be (f.trans g))).holding.fH λL a2 bb t t a3 a4 t=>?_;intro r H' e Q E hQ hE;have a5:=ao e;injection a5 with a6 a7;subst a6;subst a7;exact AP (hQ L a2 _ _ rfl a3 (Step.s .refl) (((d.step f).step g.toStep).step a4.toStep))
theorem Mh:dA prog w a k (inplaceOp .Add) X.iadd:=kO λA φ s H x y t b G=>z.val G λQ E q=>PyProof.Rows.iadd_int (q _ _ rfl (.int _ _))
theorem K2{K:aE}(XK:K.In hb)(a0:∀C n,ok C n=true->attrOk K C n=true)(h:aF prog w hb k a1 loc ax m)(ho:aF prog w hb k a1 loc o mo):bP prog w hb k a1 loc (.AugAssign (.Attribute o name p) .Add ax pos) (mo.bd λx=>(X.attr ok name x).bd λf=>m.bd λv=>(X.iadd f v).bd λg=>(X.setAttr ok name x g).bd λo0=>M.ret (.go ())) (λo0=>loc):=λA φ s H R G F=>by
 refine Y (arm_exec_AugAssign_2 _ _ _ _ _ _ _)<|z.at_<|(ho A φ s H R G F).fH λa8 a9 a' x ov a2 a3 af=>?_;have ai:=F.step a3.toStep;have e:((X.attr ok name x).bd λf=>m.bd λv=>(X.iadd f v).bd λg=>(X.setAttr ok name x g).bd λo0=>M.ret (Out.go ()))=((X.attr ok name x).bd λf=>m.bd λv=>X.iadd f v).bd λg=>(X.setAttr ok name x g).bd λo0=>M.ret (.go ()):=by rw[M.cR];congr 1;funext x;exact Y M.cR rfl
 refine Y e<|z.fH (P:=am) ?_ λL aj ap y nv i b j=>z.at_ ?_;refine z.holding (z.at_ ?_);refine(CB XK a0 a2 af).fH λL aj ap f c i b j=>((h A L aj ap R i (ai.step b)).holding).fH λa l av v d q t a4=>z.at_ (z.operate ?_);exact Mh A a l av _ _ _ _ R q (j.be t.toStep) a4;refine(E6 XK a0 i (af.be b) j).holding.fH λa l av o0 o0 q t o0=>?_;intro r H' e Q E hQ hE;injection e with a5;injection a5 with a6 a7;subst a6;subst a7;exact ag (AP (aK (hQ a l _ _ rfl q (Step.s .refl) ⟨rfl,(ai.step b).step t.toStep⟩)))
structure cL(hb:aW)(A:fu)φ(h:aW)I:Prop where
 off:¬Own φ I
 ab:hb.get? I=none
 at_:∃o,h.get? I=some o/\(∀vs n,o.data≠.seq vs n)/\((∃vs,o.data=.fields vs)->iL o.cls)
 nf:∀l,A.frames=some l->∀en∈l,en.frame≠some I
theorem Good.CW{I:Nat}(G:Good w i A φ H h)(c:h.get? I=none):∀l,A.frames=some l->∀a∈l,a.frame≠some I:=λl d a b q=>by refine bh λj e=>uK (G.dQ l d a b) λhk L o f g k=>e ?_;obtain rfl:=ao (f.symm.trans q);exact ns (c.symm.trans g)
theorem cL.nt(x:cL b A φ h I):∀o,h.get? I=some o->(∀vs n,o.data≠.seq vs n)/\((∃vs,o.data=.fields vs)->iL o.cls):=λo e=>by obtain⟨c,a,r⟩:=x.at_;exact ae (ao (a.symm.trans e))<|r
theorem cL.kept(x:cL j A φ h I)(k:∀b o,b≠I->h.get? b=some o->f.get? b=some o):Kept φ h φ f:=⟨λe=>e,λ{b o}e g q=>⟨k b o (λc=>q.elim (λa=>fD a λvs n d=>(x.nt o (c▸e)).1 vs n d) λa=>xA a λd i=>i ((x.nt o (c▸e)).2 d)) e,g⟩⟩
theorem Good.past(G:Good w f A φ H h)(x:cL f A φ h I)(k:∀b o,b≠I->h.get? b=some o->s.get? b=some o):Good w f A φ H s:=by have g:∀b,Own φ b->b≠I:=λb q e=>x.off (e▸q);refine⟨⟨λb o e=>k b o (λq=>by rw[q,x.ab]at e;exact ns e) (G.rel.base b o e),G.rel.len,λi o e=>?_,G.rel.sep,G.rel.above,G.rel.lo,G.rel.low,G.rel.ne⟩,λl j m a=>?_⟩;exact ad (G.rel.objs i o e) λp c d=>(ak p c (d.mono (x.kept k) (λt=>k _ _ (g _ (dT c).1)) λt=>k _ _ (g _ (dT c).2)));exact uK (G.dQ l j m a) λhk L o n d r=>(jZ hk L o n (k _ _ (λq=>x.nf l j m a (Y n<|Y q rfl)) d) r)
theorem aV.hF{I:Nat}(F:aV l φ g h loc)(x:∃o vs,h.get? I=some o/\o.data=.fields vs):g.locals≠I/\∀y a,g.cells.lookup y=some a->a≠I:=by refine bZ x λn vs j i=>⟨λq=>?_,λy a e q=>?_⟩;refine ad F.ns λm b k=>eJ b λo p r d f k=>?_;rw[q,j]at d;obtain rfl:=ao d;rw[i]at f;injection f;refine xA (F.cells y a e) λb k=>bZ b λc o d f=>?_;rw[q,j]at d;obtain rfl:=ao d;rw[i]at f;injection f
theorem aV.past(F:aV n φ d h loc)(x:cL n A φ h I)(t:d.locals≠I)(p:∀y a,d.cells.lookup y=some a->a≠I)(k:∀b o,b≠I->h.get? b=some o->w.get? b=some o):aV n φ d w loc:=by refine ad F.ns λm C i=>fW (id C) λo H L Q r=>⟨F.kind,F.gl,F.bl,(ak m (k8 o H L (k _ _ t Q) r) (λy v e q=>?_)),λy v e=>?_,λy a e=>?_,F.apart,F.off,F.ab⟩;exact ad (i y v e q) λc hc i=>(ak c hc (i.mono (x.kept k)));rcases F.kC y v e with q|⟨q,a,c,s,⟨j,f,g⟩,i⟩;exact .inl q;exact .inr (jZ q a c s (ak j (k _ _ (p y a s) f) g) (i.mono (x.kept k)));exact bN (F.cells y a e) λl hn hl=>bZ l λc j f g=>(aX (bQ c j (k _ _ (p y a e) f) g) hn hl)
theorem Step.past{I:Nat}(S:Step i φ h a d)(j:h.get? I=none)(k:∀b o,b≠I->d.get? b=some o->l.get? b=some o):Step i φ h a l:=by
 have g:∀b o,h.get? b=some o->b≠I:=λb o e q=>by rw[q,j]at e;exact ns e
 refine⟨S.pre,λb o e=>?_,λb o e m n=>?_,S.fresh⟩;exact xE (S.fg b o e) λc f=>⟨c,k b c (g b o e) f⟩;exact ad (S.kp b o e m n) λc f p=>(ak c (k b c (g b o e) f) p)
theorem aP.past{I:Nat}(S:aP d c a φ s)(e:a.heap.get? I=none)(k:∀b o,b≠I->s.heap.get? b=some o->s'.heap.get? b=some o)[q:m8 s s']:aP d c a φ s':=⟨S.toStep.past e k,q.os.trans S.os,q.gens.trans S.gens⟩
theorem cL.step(x:cL c A φ h I)(S:Step d φ h a f)(g:¬d I):cL c A a f I:=ad x.at_ λo e r=>ad (S.kp I o e x.off g) λi j b=>⟨S.ie e x.off,x.ab,(ak i j (Y b.data<|Y b.cls<|r)),x.nf⟩
inductive It where
 |list (i:Nat)
 |dict (i n:Nat)
 |tup (xs:List V)
 |de (n:Nat)
def It.next(K:It)(j:Nat):M (Option V):=match K with
 | .list i=>(M.cC (.ref i)).bd λxs=>M.ret xs[j]?
 | .dict i n=>(M.eB (.ref i)).bd λa=>if a.length=n then M.ret (a[j]?.map λe=>V.str e.1)else M.bad
 | .tup xs=>M.ret xs[j]?
 | .de n=>M.ret (if j<n then some (.int j)else none)
noncomputable def It.nH(i:Nat)(o:Option O):Option (It×Nat):=match o with
 |some (.list xs)=>some (.list i,xs.length)
 |some (.dict a)=>some (.dict i a.length,a.length)
 |_=>none
def M.eN(v:V):=match v with
 | .ref i=>M.opt λH=>It.nH i H[i]?
 | .tup xs=>M.ret (.tup xs,xs.length)
 | .de n=>if-1000000<n/\n<1000000 then M.ret (.de n.toNat,n.toNat)else M.bad
 |_=>M.bad
def It.At(K:It)(φ:cy)(h:aW)(I j:Nat):Prop:=match K with
 | .list i=>∃p,φ[i]? =some p/\h.IsListIter I p.1 j
 | .dict i n=>∃p,φ[i]? =some p/\h.IsKeyIter I p.1 j n n
 | .tup xs=>∃a n vs,h.get? a=some {cls:=.type "tuple",data:=.seq vs.toArray n}/\¬Own φ a/\aH φ h xs vs/\h.IsTupleIter I a j
 | .de n=>HN h I (j) ((n)- j) 1
theorem It.step{φ:cy}{K:It}(x:K.At φ h I j)(a:cL H A φ h I)(S:Step k φ h g l)(nt:lg k h)(v:¬k I):K.At g l I j:=by refine ad a.at_ λo e r=>?_;have c:∀{o vs},h.get? I=some o->o.data=.fields vs->l.get? I=some o:=λe w=>S.keep I _ e a.off v (.inl λd d q=>by rw[w]at q;injection q);refine xE S.pre λt m=>?_;rcases K with i|⟨i,n⟩|xs|n;exact ad x λp f hi=>(ak p (Y m<|nE f) (ad hi λo b r=>(ak o (c b r.2) r)));exact ad x λp f hi=>(ak p (Y m<|nE f) (ad hi λo b r=>(ak o (c b r.2) r)));exact jY x λy n vs b s C hi=>(dK y n vs (S.keep _ _ b s (λq=>(nt _ _ q b).1 _ _ rfl) (.inl λd d q=>(by injection q))) (S.ie b s) (C.step S nt) (ad hi λo b r=>(ak o (c b r.2) r)));exact c x rfl
theorem It.fld{K:It}(x:K.At φ h I j):∃o vs,h.get? I=some o/\o.data=.fields vs:=by rcases K with i|⟨i,n⟩|xs|n;exact ad x λp d a=>c_ a λo e c b=>(bQ o _ e b);exact ad x λp d a=>c_ a λo e c b=>(bQ o _ e b);exact jY x λf n vs g k l a=>c_ a λo e c b=>(bQ o _ e b);exact(bQ _ _ x rfl)
theorem Fq n:WP 0 n 1=(n.toNat:Int):=by unfold WP;refine Y (if_pos (by decide)) ?_;split;refine Y (Int.ediv_one _) ?_;omega;omega
theorem GD{s:bS}(G:Good w b A φ H s.heap)(a:o.data=.fields vs)(c:iL o.cls):cL b A φ (s.heap.push o) s.heap.objs.size:=⟨G.rel.gG (cA _),G.rel.hM (cA _),(bn o (dZ _ (wq a)) (λvs n q=>(by rw[a]at q;injection q)) (λd=>c)),G.CW (cA _)⟩
def sU(prog:dO)(w:cN)(d:aW)(A:fu)(φ:cy)(s:bS)(c:ay)(K:It):=∀(Q)(E),(∀a I,s.heap.get? I=none->(∀b o,s.heap.get? b=some o->a.get? b=some o)->K.At φ a I 0->cL d A φ a I->Q (.ref I) {s with heap:=a})->aJ (aq prog w) A (pyIter c) Q E s
theorem vj{K:It}(G:Good w d A φ H s.heap)(e:o.data=.fields vs)(f:iL o.cls)(a:K.At φ (s.heap.push o) s.heap.objs.size 0)(r:∀Q E,Q (.ref s.heap.objs.size) {s with heap:=s.heap.push o}->aJ (aq prog w) A (pyIter c) Q E s):sU prog w d A φ s c K:=λQ E q=>r Q E (q _ _ (cA _) (λb g=>cO _) a (GD G e f))
theorem jP(h:T≠"range"/\T≠"dict_items"/\T≠"code"):iL (.type T):=(aX (λe=>h.1 (HP e)) (λe=>h.2.1 (HP e)) (λe=>h.2.2 (HP e)))
theorem Mg(h: -1000000<n/\n<1000000):WQ 0 n 1=true:=by simp only[WQ,Builtin.Range.rangeFitsLong,Fq n,bO,decide_eq_true_eq];refine⟨⟨⟨⟨⟨ar [] [] (.bC (.g (.k 9223372036854775808)) (.k 0)) B,ar [] [] (.aR (.k 0) (.k 9223372036854775808)) B⟩,⟨by(revert h;apply dj n;exact λa b=>λh=>ah [.and (.aR (.g (.k 1000000)) (.s (.c J) (.c U))) (.aR (.s (.c J) (.c U)) (.k 1000000))] (.bC (.g (.k 9223372036854775808)) (.s (.c J) (.c U))) B h),by(revert h;apply dj n;exact λa b=>λh=>ah [.and (.aR (.g (.k 1000000)) (.s (.c J) (.c U))) (.aR (.s (.c J) (.c U)) (.k 1000000))] (.aR (.s (.c J) (.c U)) (.k 9223372036854775808)) B h)⟩⟩,⟨ar [] [] (.bC (.g (.k 9223372036854775808)) (.k 1)) B,ar [] [] (.aR (.k 1) (.k 9223372036854775808)) B⟩⟩,⟨by(revert h;apply dj n;exact λa b=>λh=>aL [.and (.aR (.g (.k 1000000)) (.s (.c J) (.c U))) (.aR (.s (.c J) (.c U)) (.k 1000000)),.or (.cu (.c u) (.s (.c J) (.c U))) (.and (.eq u (.k 0)) (.bC (.s (.c J) (.c U)) (.k 0)))] (.bC (.g (.k 9223372036854775808)) (.c u)) B h kL),by(revert h;apply dj n;exact λa b=>λh=>aL [.and (.aR (.g (.k 1000000)) (.s (.c J) (.c U))) (.aR (.s (.c J) (.c U)) (.k 1000000)),.or (.cu (.c u) (.s (.c J) (.c U))) (.and (.eq u (.k 0)) (.bC (.s (.c J) (.c U)) (.k 0)))] (.aR (.c u) (.k 9223372036854775808)) B h kL)⟩⟩,?_⟩;refine Y (gR _ _) ?_;right;refine Y (if_pos (by decide)) ?_;simp only[bO,decide_eq_true_eq];(revert h;apply dj n;exact λa b=>λh=>ah [.and (.aR (.g (.k 1000000)) (.s (.c J) (.c U))) (.aR (.s (.c J) (.c U)) (.k 1000000))] (.and (.bC (.g (.k 9223372036854775808)) (.a (.s (.c J) (.c U)) (.s (.k 1) (.k 1)))) (.aR (.a (.s (.c J) (.c U)) (.s (.k 1) (.k 1))) (.k 9223372036854775808))) B h)
inductive vV i:O->It×Nat->Prop
 |list (xs):vV i (.list xs) (.list i,xs.length)
 |dict (es):vV i (.dict es) (.dict i es.length,es.length)
theorem Qn(e:It.nH i (some o)=some a):vV i o a:=by rcases o with xs|b|_|_|_|_|_;exact ae (ao e)<| .list xs;exact ae (ao e)<| .dict b;exact ns e;exact ns e;exact ns e;exact ns e;exact ns e
theorem Jp(G:Good w d A φ H s.heap)(b:φ[i]? =some p)(c:dG w φ s.heap p o)(e:vV i o f):sU prog w d A φ s (.ref p.1) f.1:=by rcases e with xs|r;exact gF c λa vs n g t=>vj G rfl (jP (by decide)) (ak p b (bn _ (dZ _ rfl) rfl rfl)) λQ E q=>wpAny_pyIter_list (bn _ g rfl ⟨n,rfl⟩) q;refine k_ c λa h v g j=>cT (nr g j h) λm k x l y=>vj G rfl (jP (by decide)) (ak p b (bn _ (dZ _ rfl) rfl (by refine Y l ?_;rfl))) λQ E q=>wpAny_pyIter_dict (G.rel.oA b) k q
theorem It.iter(G:Good w y A φ H s.heap)(k:am φ s.heap v c)(e:M.eN v H=some (r,H')):∃K n,r=.ok (K,n)/\H'=H/\sU prog w y A φ s c K:=by revert e;refine am.casesOn k (λe=>ns e) (λd e=>ns e) (λd d e=>ns e) (λd d e=>ns e) (λi p l e=>?_) (λd e=>ns e) (λa n xs vs h m k e=>?_) (λa n t C v h m e=>?_) λd d d d d d e=>ns e;have e:M.opt (λH=>It.nH i H[i]?) H=some (r,H'):=e;rw[M.DA]at e;refine ad (ij.mp e) λx hz e=>?_;injection e with b f;refine ae b<|ae f ?_;rcases hi:H[i]? with _|o;rw[hi]at hz;injection hz;rw[hi]at hz;refine ad (G.rel.objs i _ hi) λL j h=>?_;rw[l]at j;injection j with b;subst b;exact(fU x.1 x.2 rfl rfl (Jp G l h (Qn hz)));injection e with b;injection b with f g;exact ae f<|ae g<|(fU _ _ rfl rfl (vj G rfl (jP (by decide)) (dK a n vs (cO _ h) m (k.be (.push _)) (bn _ (dZ _ rfl) rfl rfl)) λQ E q=>wpAny_pyIter_tuple (bn _ h rfl ⟨n,rfl⟩) q));have e:(if-1000000<n/\n<1000000 then M.ret (It.de n.toNat,n.toNat)else M.bad) H=some (r,H'):=e;split at e;injection e with b;injection b with f g;refine ae f<|ae g<|(fU _ _ rfl rfl (vj G rfl (jP (by decide)) ?_ λQ E q=>wpAny_pyIter_range h (Mg ‹_›) q));refine(?_:HN _ _ 0 ((n.toNat)-(0)) 1);exact Y (Fq n)<|Y (Int.sub_zero _)<|dZ _ rfl;injection e
def hJ(prog:dO)(w:cN)(e:aW)(A:fu)(φ:cy)(s:bS)(K:It)(I j:Nat)o:=∀(Q)(E),(∀a tk c,(∀b o,b≠I->s.heap.get? b=some o->a.get? b=some o)->(o=none->c=none/\tk=s.toks)->(∀v,o=some v->∃d,c=some d/\am φ a v d/\K.At φ a I (j+1)/\cL e A φ a I)->Q c {s with heap:=a,toks:=tk})->aJ (aq prog w) A (n9 (.ref I)) Q E s
theorem hJ.fin{K:It}{I:Nat}(r:∀Q E,(∀a,Heap.ExtBut I s.heap a->Q gM {s with heap:=a})->aJ (aq prog w) A (n9 (.ref I)) Q E s):hJ prog w d A φ s K I j gM:=λQ E q=>r Q E λa b=>q a s.toks gM (b) (λc=>⟨rfl,rfl⟩) λc e=>(ns e)
theorem hJ.one{K:It}(a:cL i A φ s.heap I)(r:∀Q E,(∀d tk c o h,fq I s.heap d->am φ d v c->K.At φ d I (j+1)->d.get? I=tC o->o.data=.fields h->iL o.cls->Q (tC c) {s with heap:=d,toks:=tk})->aJ (aq prog w) A (n9 (.ref I)) Q E s):hJ prog w i A φ s K I j (tC v):=λQ E q=>r Q E λd tk c o h k l f e m p=>q d tk (tC c) (λb o q=>(k.2 b q).trans) (λe=>(by injection e)) λt e=>by injection e with g;subst g;exact(dS c rfl l f ⟨a.off,a.ab,(bn _ e (λvs n q=>(by rw[m]at q;injection q)) (λx=>p)),a.nf⟩)
theorem hJ.end_{K:It}(x:hJ prog w f A φ s K I j gM)Q E(q:∀a,(∀b o,b≠I->s.heap.get? b=some o->a.get? b=some o)->Q gM {s with heap:=a}):aJ (aq prog w) A (n9 (.ref I)) Q E s:=x Q E λa tk c d e g=>by obtain⟨rfl,rfl⟩:=e rfl;exact q a d
theorem hJ.item{K:It}(x:hJ prog w h A φ s K I j (tC v))Q E(q:∀d tk c,(∀b o,b≠I->s.heap.get? b=some o->d.get? b=some o)->am φ d v c->K.At φ d I (j+1)->cL h A φ d I->Q (tC c) {s with heap:=d,toks:=tk}):aJ (aq prog w) A (n9 (.ref I)) Q E s:=x Q E λd tk c i n k=>ad (k v rfl) λl e f=>Y e<|bN f λm g a=>q d tk l i m g a
theorem cL.but{s:bS}(a:cL f A φ s.heap I)(c:fq I s.heap d):Kept φ s.heap φ d:=a.kept λb o q e=>(c.2 b q).trans e
theorem Jw(y:A.handled=none)(G:Good w g A φ H s.heap)(x:(It.list i).At φ s.heap I j)(a:cL g A φ s.heap I)(hi:H[i]? =some (.list xs)):hJ prog w g A φ s (.list i) I j xs[j]? :=by refine ad x λp h b=>c_ (G.rel.objs i _ hi) λp' e o0 f=>bZ f λvs n k l=>?_;obtain rfl:=ao (h.symm.trans e);rcases m:xs[j]? with _|v;exact .fin λQ E q=>wpAny_pyNext_list_end y b (bn _ k rfl ⟨n,rfl⟩) (HQ.mpr (ae cz<|Y l.length<|qu.mp m)) q;refine ad (l.get m) λc r C=>?_;rw[qp]at r;exact .one a λQ E q=>wpAny_pyNext_list_item b (bn _ k rfl ⟨n,rfl⟩) r λL d t=>c_ (id d) λo e1 e2 e3=>q L s.toks c o _ t (C.mono (a.but t)) (ak p h d) e1 e3 (Y e2<|jP (by decide))
theorem PX(hh:A.handled=none)(G:Good w n A φ H s.heap)(x:(It.dict i c.length).At φ s.heap I j)(a:cL n A φ s.heap I)(hi:H[i]? =some (.dict c)):hJ prog w n A φ s (.dict i c.length) I j (c[j]?.map λe=>V.str e.1):=by refine ad x λp r k=>cT (G.dict r hi) λds h1 nd g he=>cT (nr (prog:=prog) g he nd) λl y h2 h h4=>?_;have d:s.heap.IsKeyIter I p.1 j l.length c.length:=Y h<|k;rcases C:c[j]? with _|L;exact .fin λQ E q=>wpAny_pyNext_dict_end hh d y (qu.mpr (Y h<|qu.mp C)) q;exact ad (h4 j L.1 L.2 C) λv hv o0=>.one a λQ E q=>wpAny_pyNext_dict_item d y hv λaf h' f b hs=>c_ (id b) λo e1 e2 e3=>xE (A6 (f)) λt m=>Y m<|q h' s.toks _ o _ hs (.str _ _) (ak p r (by rw[h]at b;exact b)) e1 e3 (Y e2<|jP (by decide))
theorem Og(l:A.handled=none)(x:(It.tup xs).At φ s.heap I j)(a:cL m A φ s.heap I):hJ prog w m A φ s (.tup xs) I j xs[j]? :=by refine jY x λt n vs f i g b=>?_;rcases k:xs[j]? with _|v;exact .fin λQ E q=>wpAny_pyNext_tuple_end l b (bn _ f rfl ⟨n,rfl⟩) (by refine Y (HA) ?_;rw[qu];exact Y g.length<|qu.mp k) q;exact ad (g.get k) λc p h=>.one a λQ E q=>wpAny_pyNext_tuple_item b (bn _ f rfl ⟨n,rfl⟩) (Y (HA)<|p) λr d e=>c_ (id d) λo y C H=>q r s.toks c o _ e (h.mono (a.but e)) (dK t n vs ((a.but e).kp f i (.inl (iI _ _ rfl))).1 i (g.mono (a.but e)) d) y H (Y C<|jP (by decide))
theorem TU(e:A.handled=none)(x:(It.de n).At φ s.heap I j)(a:cL f A φ s.heap I):hJ prog w f A φ s (.de n) I j (if j<n then some (.int j)else none):=by by_cases c:j<n;refine Y (if_pos c)<| .one a λQ E q=>wpAny_pyNext_range_item x (ah [.lt U J] (.aR (.k 0) (.s (.c J) (.c U))) B c) λd b g=>q d _ _ _ _ g (.int _ _) ?_ b rfl (jP (by decide));refine(?_:HN d I (((j+1))) ((n)-((j+1))) 1);exact Y (by exact ah [] (.cu (.s (.c J) (.c (.a U (.k 1)))) (.s (.s (.c J) (.c U)) (.k 1))) B:(n)-((j+1))=(n)-(j:Int)- 1)<|b;exact Y (if_neg c)<| .fin λQ E q=>wpAny_pyNext_range_end e x (ah [.n (.lt U J)] (.bC (.s (.c J) (.c U)) (.k 0)) B c) q
def It.oP(K:It)(j:Nat)(H:Hp):Option (Option V):=match K with
 | .list i=>((H[i]?).bind O.lB).map λxs=>xs[j]?
 | .dict i n=>((H[i]?).bind O.l7).bind λa=>if a.length=n then some (a[j]?.map λe=>V.str e.1)else none
 | .tup xs=>some xs[j]?
 | .de n=>some (if j<n then some (.int j)else none)
theorem It.L6{K:It}{j:Nat}:∀H,K.next j H=(K.oP j H).map λo=>(.ok o,H):=by intro H;rcases K with i|⟨i,n⟩|xs|n;refine(?_:(M.cC (.ref i)).bd _ H=_);unfold M.cC M.bd M.opt It.oP V.eH;dsimp only;rcases(H[i]?).bind O.lB<;>rfl;refine(?_:(M.eB (.ref i)).bd _ H=_);unfold M.eB M.bd M.opt It.oP V.eH;dsimp only;rcases(H[i]?).bind O.l7 with _|a;rfl;refine(?_:(if a.length=n then M.ret (a[j]?.map λe=>V.str e.1)else M.bad) H=(if a.length=n then some (a[j]?.map λe=>V.str e.1)else none).map _);split<;>rfl;rfl;rfl
theorem It.BK{K:It}(c:A.handled=none)(G:Good w h A φ H s.heap)(x:K.At φ s.heap I j)(a:cL h A φ s.heap I)(e:K.oP j H=some o):hJ prog w h A φ s K I j o:=by rcases K with i|⟨i,n⟩|xs|n;refine ad (ij.mp e) λxs d g=>ae g<|ad (ii.mp d) λo b f=>?_;rw[O.vO f]at b;exact Jw c G x a b;refine ad (ii.mp e) λl d e=>ad (ii.mp d) λo b f=>?_;rw[O.ry f]at b;split at e;rename_i k;refine ae (ao e) ?_;subst k;exact PX c G x a b;exact ns e;exact ae (ao e)<|Og c x a;exact ae (ao e)<|TU c x a
noncomputable def M.fI(m:M b):M b:=λH=>match m H with
 |some (.ok a,H')=>some (.ok a,H')
 |_=>none
noncomputable def M.loop(K:It)(mb:b->V->M (Out b)):Nat->Nat->b->M (Out b)
 |0,_,_=>M.bad
 |n+1,j,a=>(K.next j).bd λo=>match o with
 |none=>M.ret (.go a)
 |some v=>(M.fI (mb a v)).bd λr=>match r with
 | .go c=>M.loop K mb n (j+1) c
 | .ret v=>M.ret (.ret v)
def M.Cc(c:M V)(a:b)(mb:b->V->M (Out b)):=c.bd λv=>(M.eN v).bd λp=>M.loop p.1 mb (p.2+1) 0 a
noncomputable def It.isList(K:It):=match K with
 | .list _=>true
 |_=>false
def M.rL(c:M V)(a:b)(mb:b->V->M (Out b)):=c.bd λv=>(M.eN v).bd λp=>if p.1.isList then M.loop p.1 mb (p.2+1) 0 a else M.bad
theorem aN.fI(h:aN (((M.fI m).bd f) H) Q E):aN (m H) (λa H'=>aN (f a H') Q E) λc c=>False:=by have h:=h.bd;unfold M.fI at h;rcases b:m H with _|d;rw[b]at h;exact h;obtain⟨r,H'⟩:=d;rw[b]at h;rcases r<;>exact h
theorem aN.next{K:It}(h:aN (((K.next j).bd f) H) Q E):∃o,K.oP j H=some o/\aN (f o H) Q E:=by have h:=h.bd;rw[It.L6]at h;rcases a:K.oP j H with _|o;rw[a]at h;exact h.elim;rw[a]at h;exact(ak o rfl h)
theorem M.GL{m:M l}(e:(m.bd f) H=some (r,H')):(∃a b,m H=some (.ok a,b)/\f a b=some (r,H'))\/∃x,m H=some (.ex x,H')/\r=.ex x:=by unfold M.bd at e;rcases h:m H with _|k;rw[h]at e;injection e;obtain⟨c,b⟩:=k;rw[h]at e;rcases c with a|x;exact .inl (bQ a b rfl e);injection e with d;injection d with i j;exact ae i<|ae j<| .inr (ak x rfl rfl)
def ur(prog:dO)(w:cN)(e:aW)(k:Nat)(a:dE)(d:aY)(tk:V->M g)(h:g->Loc):=∀A φ s H v c loc,bw k A->Good w e A φ H s.heap->aV e φ a s.heap loc->am φ s.heap v c->z prog w e (cm a) A φ s H (n8 d a c) (tk v) (λf i b j=>aV e f a i (h b++loc))
theorem M4(t:j6 j x):ur prog w L k j (.Name x p) M.ret (λv=>[(x,v)]):=λA φ s H v c loc R G F y=>by refine Y (HR _ _ _ _)<|z.at_ ?_;intro r H' e Q E C hE;injection e with l;injection l with m n;subst m;subst n;refine t4 t G F y _ _ rfl _ _ (λo f b a q g h p=>?_) (λd d d d q d d=>(by injection q));obtain⟨rfl,i⟩:=p;exact C _ f v a rfl g h i
theorem Dh(l:Stores prog w h xs ((eV g h).map (·.2)))(i:(eV g h).findIdx? (·.1)=none)(hk:50<=k):ur prog w hb k h (.Tuple g kk p) (M.cM xs.length) (λvs=>(xs.zip vs).reverse):=λA φ s H v c loc R G F x=>by
 refine Y (HM _ _ _ _ _)<|z.at_<|am.casesOn x z.bad (λd=>z.bad) (λd d=>z.bad) (λd d=>z.bad) (λd d d=>z.bad) (λd=>z.bad) (λa n vs cs ho hn x=>?_) (λd d d d d d d=>z.bad) λd d d d d d=>z.bad;unfold M.cM;dsimp only;refine z.kR λhl=>?_;intro r H' e Q E hQ hE;unfold unpack;have m:=l.len;rw[bD]at m;refine Y i<|ag (da (uj (R.none hk) G ho (Y x.length<|Y hl<|Y m rfl) λh' kp=>?_));have y:Step aI φ s.heap φ h':=Step.of_keeps kp;refine zH l hl.symm (G.step (G.rel.of_keeps kp) y) (F.step y) (x.be y) _ _ rfl _ _ (λj o b a hr q t f=>?_) (λd d d d hr d d=>(by injection hr));injection e with C;injection C with L af;subst L;subst af;exact hQ j o _ _ rfl q (aP.trans (Step.s y.any) t) f
inductive LoopAt w hb A env(inv:α->Loc)It₀(tk:V->M β)(mb:α->β->M (Out α))I φ₀ s₀ Q n s:Prop
 |mk (j) (a) (φ) (H) (e:aN (M.loop It₀ (λa v=>(tk v).bd (mb a)) n j a H) Q λo0 o0=>True) (G:Good w hb A φ H s.heap) (S:aP (cm env) φ₀ s₀ φ s) (F:aV hb φ env s.heap (inv a)) (at_:It₀.At φ s.heap I j) (as:cL hb A φ s.heap I)
theorem I0{I:Nat}(R:bw k A)(r:m.isList=true\/∀v,qv g (.ref I) v=pure ())(ht:ur prog w hb k d g tk lf)(bx:∀a b,dm prog w hb k d (lf b++t a) a6 (mb a b) t)(hI:l.heap.get? I=none)(hk:50<=k)n s(L:LoopAt w hb A d t m tk mb I f l (λo H'=>KQ w hb A (cm d) f l (jQ hb d t) (λfl=>RR (.ok fl)) o H') n s):eU (aq prog w) A (.forLoop g (.ref I) a6 [] d) RR s:=by
 refine WR (LoopAt w hb A d t m tk mb I f l λo H'=>KQ w hb A (cm d) f l (jQ hb d t) (λfl=>RR (.ok fl)) o H') (λn s L=>?_) n L;rcases n with _|n;obtain⟨_,_,_,_,e,_⟩:=L;exact e.elim;obtain⟨j,a,φ,H,e,G,S,F,At,As⟩:=L;have nI:¬cm d I:=λq=>xA (F.hF (It.fld At)) λn1 n2=>q.elim (λq=>n1 q.symm) λzz=>xE zz λy q=>n2 y _ q rfl;refine ad (aN.next e) λo e1 h=>?_;have nx:=It.BK (prog:=prog) (R.none hk) G At As e1;rcases o with _|v;exact nx.end_ _ _ λh' kp=>aK (h φ _ _ (G.past As kp) (S.past hI kp) ⟨rfl,F.past As (F.hF (It.fld At)).1 (F.hF (It.fld At)).2 kp⟩);refine nx.item _ _ λh' aj c kp hv a4 a5=>?_;have a7:=G.past As kp;have ap:=F.past As (F.hF (It.fld At)).1 (F.hF (It.fld At)).2 kp;have a8:aP (cm d) f l φ {s with heap:=h',toks:=aj}:=S.past hI kp;have go:∀(Q)(E),Q () {s with heap:=h',toks:=aj}->aJ (aq prog w) A (qv g (.ref I) c) Q E {s with heap:=h',toks:=aj}:=λQ E q=>by
  rcases r with r|r;cases m with
  |list i=>exact ad a4 λp hp hi=>letGo_listiter hi q
  |_=>exact ft r
  exact Y (r _)<|aK q
 clear G F At As kp e e1 nx S r;exact go _ _ ((ht A φ {s with heap:=h',toks:=aj} H v c (t a) R a7 ap hv).gC (aN.fI h).bd λb a9 a2 bb o0 bc bk x av=>(bx a b A a2 bb a9 R bk av).gC bc λo bm af bs fl ax a0 C p=>by have S':=(a8.trans x).trans C;rcases o with a'|v;refine xA p λa1 bv=>Y a1 ?_;have a3:=It.step a4 a5 x.toStep ap.jT nI;have ai:=a5.step x.toStep nI;exact(ak n (f9 _) (.mk (j+1) a' af bm ax a0 S' bv (It.step a3 ai C.toStep av.jT nI) (ai.step C.toStep nI)));exact ad p λc a1 hv=>Y a1<|ax af bs _ a0 S' (ak c rfl hv))
theorem aN.eN(G:Good w g A φ H s.heap)(i:am φ s.heap v c)(h:aN (((M.eN v).bd f) H) Q E):∃K n,aN (f (K,n) H) Q E/\sU prog w g A φ s c K:=by refine fQ h.bd.ends λr H' e j l=>bZ (It.iter (prog:=prog) G i e) λK n a b=>?_;subst a;refine xA b λd k=>?_;subst d;exact(bQ K n (j _ rfl) k)
theorem Dk{mb:L->β->M (Out L)}(R:bw k A)(r:f.isList=true\/∀I v,qv d (.ref I) v=pure ())(Q:ur prog w j k e d tk lf)(t:∀a b,dm prog w j k e (lf b++g a) l (mb a b) g)(hk:50<=k)(G:Good w j A φ H s.heap)(F:aV j φ e s.heap (g a))(it:sU prog w j A φ s c f)(S:aP (cm e) i m φ s)(h:aN (M.loop f (λa v=>(tk v).bd (mb a)) (n+1) 0 a H) (KQ w j A (cm e) i m (jQ j e g) λfl s'=>RR (.ok fl) s') E'):aJ (aq prog w) A (pyIter c) (λx s'=>eU (aq prog w) A (.forLoop d x l [] e) RR s') E s:=it _ _ λy I hI C At As=>by have p:Step aI φ s.heap φ y:=Step.of_keeps C;exact I0 R (r.imp id λh=>h I) Q t hI hk (n+1) {s with heap:=y} (.mk 0 a φ H (h.imp (λo o q=>q.seq S) λo o o=>trivial) (G.step (G.rel.of_keeps C) p) (Step.s p.any) (F.step p) At As)
theorem RC(hi:aF prog w p k b loc d y)(C:bt (g a) loc)(L:j6 b t)(m:∀a v,dm prog w p k b ((t,v)::g a) i (mb a v) g)(hs:∀x,mN d b x=pure x)(hk:50<=k):bP prog w p k b loc (.For (.Name t tp) d i [] pos) (M.Cc y a mb) g:=λA φ s H R G F=>z.mk λQ E h=>by refine wpAny_For ?_ hs;refine(hi A φ s H R G F).use (aN.bd h) (λv q o r c j e f hv=>?_) λx H' h=>h.any aP.refl;exact bZ (aN.eN e hv j) λK n l it=>Dk R (.inr λo0 o0=>rfl) (M4 L) (m) hk e ((F.step f).le C) it f.any l
theorem MP{mb:L->List V->M (Out L)}(hi:aF prog w t k d loc e mi)(ha:bt (j a) loc)(p:Stores prog w d xs ((eV f d).map (·.2)))(l:(eV f d).findIdx? (·.1)=none)(q:∀a vs,dm prog w t k d ((xs.zip vs).reverse++j a) m (mb a vs) j)(hs:∀x,mN e d x=pure x)(hk:50<=k):bP prog w t k d loc (.For (.Tuple f kk tp) e m [] pos) (M.rL mi a λa v=>(M.cM xs.length v).bd (mb a)) j:=λA φ s H R G F=>z.mk λQ E h=>by refine wpAny_For ?_ hs;refine(hi A φ s H R G F).use (aN.bd h) (λv y r C c o g i hv=>?_) λx H' h=>h.any aP.refl;refine bZ (aN.eN (prog:=prog) g hv o) λK n b it=>?_;dsimp only at b;split at b;rename_i hl;exact Dk R (.inl hl) (Dh p l hk) (q) hk g ((F.step i).le ha) it i.any b;exact b.elim
noncomputable def M.compLoop(K:It)(el:V->M V)(l:V):Nat->Nat->M Unit
 |0,_=>M.bad
 |n+1,j=>(K.next j).bd λo=>match o with
 |none=>M.ret ()
 |some v=>(M.fI (el v)).bd λa=>M.compLoop K el l n (j+1)
def M.turn(mt:V->M Bool)(a:V->M V)l v:=(mt v).bd λb=>match b with
 |true=>(a v).bd λy=>X.append l y
 |false=>M.ret .none
structure Taken(env:dE)(cl:List (aa×fN)):Prop where
 sub:∀p∈cl,env.cells.lookup p.1=some p.2
 nd:(cl.map (·.1)).Nodup
theorem Taken.apart(T : Taken a g) (F : aV k φ a h loc) : g.Pairwise λx y => x.2 ≠ y.2 := by
  have b : ∀ l : List (aa × fN), (∀ p ∈ l, a.cells.lookup p.1 = some p.2) -> (l.map (·.1)).Nodup -> l.Pairwise λx y => x.2 ≠ y.2 := by
    intro l
    induction l with
    | nil =>exact λ_ _=>.nil
    | cons p l j =>
      intro d f
      simp only [kn, mK] at f
      refine .cons (λq c e => ?_) (j (λq c => d q (.tail _ c)) f.2)
      skip
      have i := d q (.tail _ c)
      rw [<- e] at i
      have := name_of_addr F.apart (mem_of_lookup (d p (.head _))) (mem_of_lookup i)
      exact f.1 (this ▸ ig.mpr (ak q c rfl))
  exact b g T.sub T.nd
def jt(b a:dE)(loc c:Loc):=∀y v,c.lookup y=some v->loc.lookup y=some v/\(b.kindOf y=some .cell\/b.kindOf y=some .free)/\(a.kindOf y=some .cell\/a.kindOf y=some .free)/\(a.cells.lookup y).isSome=true
theorem Pv(F:aV y φ g h loc)(T:Taken g A)(H:jt g (dz d A C g) loc p)(hk:d.kind=.function)(k:∀b o,h.get? b=some o->L.get? b=some o)(r:L.Ns C m)(s:¬Own φ C)(t:y.get? C=none):aV y φ (dz d A C g) L p:=by refine⟨hk,F.gl,F.bl,(ak m r (λx v e q=>?_)),λx v e=>?_,λx a e=>?_,T.apart F,s,t⟩;refine cW (H x v e) λQ Q f Q=>?_;rcases f with f|f<;>(have i:=ao (f.symm.trans q);injection i);refine cW (H x v e) λh1 f h3 h4=>xE (qf.mp h4) λa ha=>?_;rcases F.kC x v h1 with q|⟨_,a',c,j,⟨o,l,n⟩,hv⟩;rcases f with f|f<;>(have i:=ao (f.symm.trans q);injection i);rw[(T.sub _ (mem_of_lookup ha))]at j;obtain rfl:=ao j;exact .inr (jZ h3 a c ha (ak o (k _ _ l) n) (hv.be (Step.of_keeps k)));exact bN (F.cells x a (T.sub _ (mem_of_lookup e))) λw hn hl=>bZ w λc o l n=>(aX (bQ c o (k _ _ l) n) hn hl)
theorem Gu{M:kg}(G:Good w hb A φ H s.heap)(F:aV hb φ j s.heap loc)(hv:am φ s.heap v c)(hx:j.kindOf x=some .local)(h:∀s',gJ s' s->Good w hb A φ H s'.heap->fq j.locals s.heap s'.heap->(∃m,s'.heap.Ns j.locals m)->aV hb φ j s'.heap ((x,v)::loc)->Q () s'):aJ M A (storeName j x c) Q E s:=by obtain⟨m,hm,aj⟩:=F.ns;have Ft:=F.jT;refine Wp hx hm (λh' r t=>?_) (by refine Y F.kind ?_;rfl);obtain⟨G',S'⟩:=G.qO t F.off F.ab (by obtain⟨l,C,L,g,_⟩:=r;exact⟨l,g⟩) (λb o q=>Ft b o (.inl q)) (λo0 o0 o0=>by obtain⟨l,C,L,g,i,_⟩:=r;exact(ak l g (iI C L i)));have vs:∀{y}{d},am φ s.heap y d->am φ h' y d:=λq=>q.step (S'.weaken λb q=>.inl q) Ft;refine h _ rfl G' t ⟨_,r⟩ ⟨F.kind,F.gl,F.bl,(ak _ r (λy af e ky=>?_)),λy af e=>?_,λy a e=>?_,F.apart,F.off,F.ab⟩;by_cases q:y=x;subst q;simp only[lK,s9]at e;subst e;exact(ak c (by simp) (vs hv));rw[dw,beq_false_of_ne q]at e;obtain⟨d,n,hu⟩:=aj y af e ky;exact(ak d (by simp[q,n]) (vs hu));by_cases q:y=x;exact Y q<| .inl hx;rw[dw,beq_false_of_ne q]at e;rcases F.kC y af e with ky|⟨ky,a,d,ha,f,hu⟩;exact .inl ky;refine .inr (jZ ky a d ha (f.sameBut t λai=>?_) (vs hu));obtain⟨o,p,n⟩:=f;obtain⟨l,C,L,g,i,_⟩:=hm;rw[ai,g]at p;injection p with k;subst k;rw[n]at i;injection i;obtain⟨⟨d,f⟩,ap,hl⟩:=F.cells y a e;refine(aX ⟨d,f.sameBut t λai=>?_⟩ ap hl);obtain⟨o,p,n⟩:=f;obtain⟨l,C,L,g,i,_⟩:=hm;rw[ai,g]at p;injection p with k;subst k;rw[n]at i;injection i
def u0(prog:dO)(w:cN)(e:aW)(a:dE)(d:aY)(tk:V->M f)(g:f->Loc):=∀(A)(φ)(s)(H)(v)(c)(loc)(Q'),A.handled=none->Good w e A φ H s.heap->aV e φ a s.heap loc->am φ s.heap v c->aN (tk v H) Q' (λh h=>False)->∀(Q)(E),(∀b s',Q' b H->gJ s' s->Good w e A φ H s'.heap->(∀b o,b≠a.locals->s.heap.get? b=some o->s'.heap.get? b=some o)->aV e φ a s'.heap (g b++loc)->Q () s')->aJ (aq prog w) A (n8 d a c) Q E s
theorem xx(d:a.kindOf x=some .local):u0 prog w k a (.Name x p) M.ret (λv=>[(x,v)]):=λA φ s H v c loc Q' l G F e h Q E q=>Y (HR _ _ _ _)<|ag (jB (HJ (Gu G F e d λs' f g i m j=>q v s' h f g (λb o n=>(i.2 b n).trans) j)))
structure gw w hb A cenv aB(It₀:It)I s₀ φ₀ l lc j φ H(s:bS):Prop where
 good:Good w hb A φ H s.heap
 step:aP aI φ₀ s₀ φ s
 fr:aV hb φ cenv s.heap aB
 at_:It₀.At φ s.heap I j
 as:cL hb A φ s.heap I
 li:am φ s.heap l lc
theorem gw.turn(n:d.heap.get? I=none)(c:gw w m A f h a I d e l p j φ H s)[m8 s s'](i:a.At φ s'.heap I (j+1))(k:cL m A φ s'.heap I)(g:∀b o,b≠I->s.heap.get? b=some o->s'.heap.get? b=some o):gw w m A f h a I d e l p (j+1) φ H s':=xA (c.fr.hF (It.fld c.at_)) λq r=>⟨c.good.past c.as g,c.step.past n g,c.fr.past c.as q r g,i,k,c.li.mono (c.as.kept g)⟩
theorem gw.run(c:gw w h A e g a I f b l i j φ H s)(G:Good w h A d H' s'.heap)(S:aP aI φ s d s'):gw w h A e g a I f b l i j d H' s':=⟨G,c.step.trans S,c.fr.step S,It.step c.at_ c.as S kH id,c.as.step S.toStep id,c.li.be S⟩
theorem gw.le(c:gw w i A d g a I e b l k j φ H s)(h:bt f g):gw w i A d f a I e b l k j φ H s:=⟨c.good,c.step,c.fr.le h,c.at_,c.as,c.li⟩
theorem It.past{K:It}(x:K.At φ h I j)(a:I≠C)(kk:Kept φ h φ d)(k:∀b o,b≠C->h.get? b=some o->d.get? b=some o):K.At φ d I j:=by rcases K with i|⟨i,n⟩|xs|n;exact ad x λp c hi=>(ak p c (hi.at λo e=>k _ o a e));exact ad x λp c hi=>(ak p c (hi.at λo e=>k _ o a e));exact jY x λg n vs l f m hi=>(dK g n vs ((kk.kp l f (.inl (iI _ _ rfl))).1) f (m.mono kk) (hi.at λo e=>k _ o a e));exact k _ _ a x
theorem gw.store(y:f.heap.get? a.locals=none)(c:gw w m A a af g I f h l C j φ H s)(t:gJ s' s)(G:Good w m A φ H s'.heap)(k:∀b o,b≠a.locals->s.heap.get? b=some o->s'.heap.get? b=some o)(L:aV m φ a s'.heap i):gw w m A a i g I f h l C j φ H s':=by have nt:=λo e=>c.fr.jT _ o (.inl rfl) e;have kk:Kept φ s.heap φ s'.heap:=⟨id,λ{b o}e Q q=>⟨k b o (λv=>q.elim (λp=>fD p λvs n d=>(nt o (v▸e)).1 vs n d) λp=>xA p λd od=>od ((nt o (v▸e)).2 d)) e,Q⟩⟩;have x:=(c.fr.hF (It.fld c.at_)).1;exact ad c.as.at_ λo e r=>⟨G,c.step.past y k (q:=⟨t.os,t.gens⟩),L,It.past c.at_ (ch x) kk k,⟨c.as.off,c.as.ab,(ak o (k _ _ (ch x) e) r),c.as.nf⟩,c.li.mono kk⟩
def u7(prog:dO)(w:cN)(c:aW)(A:fu)(b:dE)(loc:Loc)(TT:(Bool->bS->Prop)->bS->Prop)(m:M Bool):=∀(φ)(s)(H)(Q'),Good w c A φ H s.heap->aV c φ b s.heap loc->aN (m H) Q' (λd d=>False)->∀kk,(∀t H' a s',Q' t H'->Good w c A a H' s'.heap->aP aI φ s a s'->kk t s')->TT kk s
abbrev Uo(prog:dO)(w:cN)(A:fu)(j a:aY)(c:dE)(I:Nat)(l:ay)(o:Result->bS->Prop)(TT:(Bool->bS->Prop)->bS->Prop)(k:Nat->bS->Prop)(n:Nat)(s:bS):Prop:=aJ (aq prog w) A (n9 (.ref I)) (λr d=>match r with
 |none=>o (.ok .next) d
 |some v=>aJ (aq prog w) A (qv a (.ref I) v) (λb f=>aJ (aq prog w) A (n8 a c v) (λb g=>TT (λok e=>if ok=true then aJ (aq prog w) A (br j c) (λx h=>aJ (aq prog w) A (call (.builtin "list.append") [l,x]) (λb i=>∃m,m<n/\k m i) (λb b=>False) h) (λb b=>False) e else∃m,m<n/\k m e) g) (λb b=>False) f) (λb b=>False) d) (λb b=>False) s
def uC prog w A d a e cU c pos b I g TT h:=∀(f)(_:∀n s,f n s->Uo prog w A d a b I g h TT f n s)(n)(s),f n s->eU (aq prog w) A (.compLoop (.ListComp d [⟨a,e,cU,0⟩] c pos) 0 (.ref I) g b) h s
theorem xb:uC prog w A y i k [] j pos l I C (λkk s=>kk true s) H:=λt d n s h=>by refine kcp_loop t (λn s h=>?_) n h;refine iY (d n s h) (λr m c=>?_) λa a f=>f.elim;rcases r with _|v;exact c;refine iY c (λa o e=>iY e (λa p b=>?_) λa a f=>f.elim) λa a f=>f.elim;dsimp only at b;rw[if_pos rfl]at b;exact iY b (λx q g=>iY g (λa a h=>h) λa a f=>f.elim) λa a f=>f.elim
theorem U9:uC prog w A L l o [c] m pos d I Q (λkk s=>aJ (aq prog w) A (isTrue c d (br c d)) kk (λa a=>False) s) RR:=λH g n s h=>by refine kct_loop H (λn s h=>?_) n h;refine iY (g n s h) (λr p e=>?_) λa a f=>f.elim;rcases r with _|v;exact e;refine iY e (λa q i=>iY i (λa t j=>iY j (λok y b=>?_) λa a f=>f.elim) λa a f=>f.elim) λa a f=>f.elim;rcases ok with _|_;rw[if_neg (by decide)]at b⊢;exact b;rw[if_pos rfl]at b⊢;exact iY b (λx C k=>iY k (λa a h=>h) λa a f=>f.elim) λa a f=>f.elim
theorem xw:u7 prog w b A a loc (λkk=>kk true) (M.ret true):=λφ s H Q' G F h kk q=>q true H φ s h G .refl
theorem Te(R:bw k A)(h:gc prog w e k d loc c m):u7 prog w e A d loc (λkk s=>aJ (aq prog w) A (isTrue c d (br c d)) kk (λg g=>False) s) m:=λφ s H Q' G F i kk hk=>(h A φ s H R G F).gC i λb H' f s' a e j l p=>by subst p;exact hk _ H' f s' e j l
inductive zS w hb A cenv aB It₀ I s₀ φ₀ l lc el(QF:Hp->Prop)n s:Prop
 |mk (j) (φ) (H) (e:aN (M.compLoop It₀ el l n j H) (λo0 H'=>QF H') λo0 o0=>True) (c:gw w hb A cenv aB It₀ I s₀ φ₀ l lc j φ H s)
theorem Lh{cU:List aY}{lf:β->Loc}(R:bw k A)(hI:r.heap.get? I=none)(hC:r.heap.get? d.locals=none)(j_:uC prog w A bm g bx cU a9 pos d I lc TT RR)(aj:f.isList=true\/∀v,qv g (.ref I) v=pure ())(ht:u0 prog w hb d g tk lf){mt:β->M Bool}{me:β->M V}(cf:∀v,el v=(tk v).bd λb=>(mt b).bd λt=>match t with
 |true=>(me b).bd λy=>X.append l y
 |false=>M.ret .none)(ax:∀b,bt C (lf b++C))(cl:∀b,u7 prog w hb A d (lf b++C) TT (mt b))(b0:∀b,aF prog w hb k d (lf b++C) bm (me b))(cs:∀H' φ s,QF H'->Good w hb A φ H' s.heap->aP aI af r φ s->aV hb φ d s.heap C->am φ s.heap l lc->RR (.ok .next) s)(hk:50<=k)n s(L:zS w hb A d C f I r af l lc el QF n s):eU (aq prog w) A (.compLoop (.ListComp bm [⟨g,bx,cU,0⟩] a9 pos) 0 (.ref I) lc d) RR s:=by
 refine j_ (zS w hb A d C f I r af l lc el QF) (λn s L=>?_) n s L;rcases n with _|n;obtain⟨_,_,_,e,_⟩:=L;exact e.elim;obtain⟨j,φ,H,e,c⟩:=L;refine ad (aN.next e) λo e1 h=>?_;have nx:=It.BK (prog:=prog) (R.none hk) c.good c.at_ c.as e1;rcases o with _|v;exact xA (c.fr.hF (It.fld c.at_)) λn1 n2=>nx.end_ _ _ λh' kp=>cs H φ _ h (c.good.past c.as kp) (c.step.past hI kp) (c.fr.past c.as n1 n2 kp) (c.li.mono (c.as.kept kp));refine nx.item _ _ λh' a0 x kp hv a7 bs=>?_;have ap:=c.turn (s':={s with heap:=h',toks:=a0}) hI a7 bs kp;have go:∀(Q)(E),Q () {s with heap:=h',toks:=a0}->aJ (aq prog w) A (qv g (.ref I) x) Q E {s with heap:=h',toks:=a0}:=λQ E q=>by
  rcases aj with aj|aj;cases f with
  |list i=>exact ad a7 λp hp hi=>letGo_listiter hi q
  |_=>exact ft aj
  exact Y (aj _)<|aK q
 clear nx e1 e c aj a7 bs kp;have h:=aN.fI h;rw[cf]at h;have bv:∀(m:Nat){a1}{a8}{H'}{s'},bt C a1->aN (M.compLoop f el l n (j+1) H') (λo0=>QF) (λo0 o0=>True)->gw w hb A d a1 f I r af l lc (j+1) a8 H' s'->∃m,m<n+1/\zS w hb A d C f I r af l lc el QF m s':=λm o0 a8 H' s' ax h c=>(ak n (f9 _) (.mk (j+1) a8 H' h (c.le ax)));exact go _ _ (ht A φ {s with heap:=h',toks:=a0} H v x C _ (R.none hk) ap.good ap.fr hv h.bd _ _ λb b1 b2 a' a2 bb a3=>by refine cl b φ b1 H _ a2 a3 b2.bd _ λt b3 bc b4 a4 a5 b5=>?_;have ai:=(ap.store hC a' a2 bb a3).run a5 b5;rcases t with _|_;exact(if_neg (by decide)).mpr (bv 0 (ax b) a4 ai);exact Y (if_pos rfl)<|(b0 b A bc b4 b3 R a5 ai.fr).gC (aN.bd a4) λy b6 bk b7 a b8 av a6 p=>(Ej A bk b7 b6 [l,y] [lc,a] R av (.cons _ _ _ _ (ai.run av a6).li (.cons _ _ _ _ p .nil))).gC b8 λo0 cv ct cw o0 b9 b' cd o0=>bv 0 (ax b) b9 ((ai.run av a6).run b' cd))
theorem It.self{K:It}(x:K.At φ s.heap I j)(q:Q (.ref I) s):aJ (aq prog w) A (pyIter (.ref I)) Q E s:=by rcases K with i|⟨i,n⟩|xs|n;exact ad x λp a hi=>wpAny_pyIter_listiter hi q;exact ad x λp a hi=>wpAny_pyIter_keyiter hi q;exact jY x λb n vs c d e hi=>wpAny_pyIter_tupleiter hi q;exact wpAny_pyIter_rangeiter x q
theorem t_{cU:List aY}{el:V->V->M V}{mt:β->M Bool}{me:β->M V}{lo:It->Bool}(R:bw k A)(G:Good w hb A φ H s.heap)(F:aV hb φ d s.heap loc)(hi:aF prog w hb k d loc af mi)(hs:∀x,mN af d x=pure x)(b1:mO a d=pure cl)(T:Taken d cl)(ax:a.kind=.function)(bb:∀x∈a.names,x.2=.local->a.names.lookup x.1=some .local)(b2:∀x∈a.names,x.2≠.cell)(bc:∀C,jt d (dz a cl C d) loc a9){TT:dE->(Bool->bS->Prop)->bS->Prop}(j_:∀bk j I lc RR,lo j=true->uC prog w A bx i af cU a pos bk I lc (TT bk) RR/\(j.isList=true\/∀v,qv i (.ref I) v=pure ()))(ht:∀C,u0 prog w hb (dz a cl C d) i tk lf)(cs:∀l v,el l v=(tk v).bd λb=>(mt b).bd λt=>match t with
 |true=>(me b).bd λy=>X.append l y
 |false=>M.ret .none)(ct:∀b,bt a9 (lf b++a9))(cv:∀C b,u7 prog w hb A (dz a cl C d) (lf b++a9) (TT (dz a cl C d)) (mt b))(b7:∀C b,aF prog w hb k (dz a cl C d) (lf b++a9) bx (me b))(h:aN ((mi.bd λv=>(M.eN v).bd λp=>if lo p.1 then(M.alloc (.list [])).bd λl=>(M.compLoop p.1 (el l) l (p.2+1) 0).bd λo0=>M.ret l else M.bad) H) Qv Ev)(cw:∀v H' a5 s' c C,Qv v H'->Good w hb A a5 H' s'.heap->aP aI φ s a5 s'->am a5 s'.heap v c->s.heap.get? C=none->cL hb A a5 s'.heap C->(∃m,s'.heap.Ns C m)->compPost (aq prog w) A E b4 Q c C (.ok .next) s')(hE:∀x H',Ev x H'->EK w hb A aI φ s E x H')(hk:50<=k):aJ (aq prog w) A (comprehension (.ListComp bx [⟨i,af,cU,0⟩] a pos) a d p0 (newList []) false (br af d) b4) Q E s:=by
 refine wpAny_comprehension_free rfl hs b1 ax bb<|(hi A φ s H R G F).use h.bd (λv ai f aj c bm a0 a1 hv=>?_) hE;refine bZ (aN.eN (prog:=prog) a0 hv bm) λj n ap it=>?_;dsimp only at ap;split at ap;rename_i c3;refine it _ _ λh' I hI kp At As=>?_;have a2:Step aI f aj.heap f h':=Step.of_keeps kp;have a3:=a0.step (a0.rel.of_keeps kp) a2;have bs:=(F.step a1).step a2;have a6:aP aI φ s f {aj with heap:=h'}:=a1.trans (Step.s a2);have c4:=a1.toStep.m7 hI;have nf:∀C,s.heap.get? C=none->∀l,A.frames=some l->∀en∈l,en.frame≠some C:=λC hC=>G.CW hC;clear it bm hv a1 hI a0 kp a2 h F G c v;refine qg<|xA (a3.vq (n:=0) .nil) λav g=>?_;have a7:am (f++[(h'.objs.size,h'.objs.size)]) (h'.push (cx ([]).toArray 0)) (.ref ai.length) (.ref h'.objs.size):=Good.jm a3.rel (h'.objs.size,h'.objs.size) _;refine WS b2 (by intro y hy;simp at hy) (λa4 b5 b6=>?_) ax;have a':(h'.push (cx ([]).toArray 0)).get? (h'.push (cx ([]).toArray 0)).objs.size=none:=cA _;have L:∀b o,(h'.push (cx ([]).toArray 0)).get? b=some o->a4.get? b=some o:=λb o e=>(b6.2 b (gN (du e))).trans (cO _ e);generalize (h'.push (cx ([]).toArray 0)).objs.size=C at*;generalize h'.push (cx ([]).toArray 0)=c6 at*;generalize h'.objs.size=N at*;have r:=Step.of_keeps (φ:=f++[(N,N)]) L;have b8:=(a3.step av g).step (av.of_keeps L) r;have b9:aP aI φ s (f++[(N,N)]) {aj with heap:=a4}:=a6.trans (Step.s (g.trans r));have b0:=(a6.toStep.trans g).m7 a';have b':=Pv (bs.step g) T (bc _) ax L b5 (av.gG a') (av.hM a');have a8:=It.step (It.step At As g kH id) (As.step g id) r kH id;have b3:=(As.step g id).step r id;have hl:=a7.be r;clear At As g av a7 r bs a3 a' L a6 b5 b6 T bc;have cd:aN (((M.compLoop j (el (.ref ai.length)) (.ref ai.length) (n+1) 0).bd λo0=>M.ret (V.ref ai.length)) (ai++[.list []])) Qv Ev:=ap;clear ap;have bv:∀(RR),(∀s',compPost (aq prog w) A E b4 Q (.ref N) C (.ok .next) s'->RR (.ok .next) s')->eU (aq prog w) A (.compLoop (.ListComp bx [⟨i,af,cU,0⟩] a pos) 0 (.ref I) (.ref N) (dz a cl C d)) RR {aj with heap:=a4}:=λRR cf=>by refine xA (j_ (dz a cl C d) j I (.ref N) RR c3) λrl go=>Lh R c4 b0 rl go (ht _) (cs _) ct (cv _) (b7 _) (λH' a5 s' q G' S' F' V'=>cf s' (cw _ H' a5 s' _ C q G' S' V' b0 ?_ (ad (F'.ns) λm hm o0=>⟨m,hm⟩))) hk (n+1) {aj with heap:=a4} (.mk 0 _ _ (aN.imp cd.bd (λo0 o0 q=>q) λo0 o0 o0=>trivial) ⟨b8,b9,b',a8,b3,hl⟩);exact ad (id F'.ns) λm c5 o0=>eJ c5 λo es ep ho hd o0=>⟨F'.off,F'.ab,(ak o ho (F'.jT _ o (.inl rfl) ho)),nf C b0⟩
 exact codeAny_compStart_list (bv _ λo0 h=>h) (It.self a8 (bv _ λo0 h=>h));exact ap.elim
def M.w_(lo:It->Bool)(a:M V)(el:V->V->M V):=a.bd λv=>(M.eN v).bd λp=>if lo p.1 then(M.alloc (.list [])).bd λl=>(M.compLoop p.1 (el l) l (p.2+1) 0).bd λb=>M.ret l else M.bad
def M.yh(a:M V)(b:V->M V):=M.w_ (λc=>true) a λl v=>(b v).bd λy=>X.append l y
def M.BX(a:M V)(mt:V->M Bool)(b:V->M V):=M.w_ (λc=>true) a λl v=>(mt v).bd λt=>match t with
 |true=>(b v).bd λy=>X.append l y
 |false=>M.ret .none
def M.EF(n:Nat)(a:M V)(b:List V->M V):=M.w_ It.isList a λl v=>(M.cM n v).bd λxs=>(b xs).bd λy=>X.append l y
theorem ym{v:V}(h:a.lookup x=none):bt a ([(x,v)]++a):=λy b e=>by by_cases q:y=x;subst q;exact ns (h.symm.trans e);refine(?_:dY y ((x,v)::a)=_);rw[dw];exact Y (beq_false_of_ne q)<|e
theorem Ry{prog:dO}{w:cN}{k:aW}{A:fu}{φ:cy}{H:Hp}{a:dE}{xs:List aa}{d:List (ay->a_ Unit)}(t:Stores prog w a xs d):∀{vs}{h}{s}{loc}{Q}{E},(∀x∈xs,a.kindOf x=some .local)->xs.length=vs.length->Good w k A φ H s.heap->aV k φ a s.heap loc->aH φ s.heap vs h->(∀s',gJ s' s->Good w k A φ H s'.heap->(∀b o,b≠a.locals->s.heap.get? b=some o->s'.heap.get? b=some o)->aV k φ a s'.heap ((xs.zip vs).reverse++loc)->Q () s')->aJ (aq prog w) A (assignInOrder d h) Q E s:=by induction t with
 |nil=>intro vs h s loc Q E _ f G F g q;rw[Be.mp f.symm]at g q;rcases g;exact aK (q s rfl G (λi i i e=>e) F)
 |cons hc ht ap ih=>
  intro vs h s loc Q E hk f G F g q;revert f q;refine aH.casesOn g (λf=>by injection f) λv c vs h g C f q=>?_;refine ag (da (ht c A s _ _ (HJ (Gu G F g (hk _ (.head _)) λs' so G' p L F'=>?_))));have S:Step (cm a) φ s.heap φ s'.heap:=by skip;refine eZ (id L) λm o es ep ho i=>?_;skip;refine⟨⟨[],by simp⟩,λb r e=>?_,λb r e i q=>(ak r ((p.2 b λl=>q (.inl l)).trans e) .refl),λi q=>.inl q⟩;by_cases l:b=a.locals;exact Y l<|⟨o,ho⟩;exact⟨r,(p.2 b l).trans e⟩
  refine ih (λy hy=>hk y (.tail _ hy)) (bX f) G' F' (aH.step S F.jT C) λaf j ai kp aj=>q af (j.trans so) ai (λb o n e=>kp b o n ((p.2 b n).trans e)) ?_;(refine Y qt<|Y tz<|Y (cr _ _ _) ?_);exact aj
theorem NR(j:Stores prog w f xs ((eV g f).map (·.2)))(hk:∀x∈xs,f.kindOf x=some .local)(i:(eV g f).findIdx? (·.1)=none):u0 prog w hb f (.Tuple g kk p) (M.cM xs.length) (λvs=>(xs.zip vs).reverse):=λA φ s H v c loc Q' L G F l h Q E q=>by
 revert h;refine am.casesOn l (λh=>h.elim) (λd h=>h.elim) (λd d h=>h.elim) (λd d h=>h.elim) (λd d d h=>h.elim) (λd h=>h.elim) (λa n vs cs ho hn l h=>?_) (λd d d d d d d h=>h.elim) λd d d d d d h=>h.elim;have h:aN ((if vs.length=xs.length then M.ret vs else M.bad) H) Q' (λd d=>False):=h;split at h
 ·rename_i C;refine Y (HM _ _ _ _ _)<|ag (jB ?_);unfold unpack;have k:=j.len;rw[bD]at k;refine Y i<|ag (da (uj L G ho (Y l.length<|Y C<|Y k rfl) λh' m=>?_));have r:Step aI φ s.heap φ h':=Step.of_keeps m;exact Ry j hk C.symm (G.step (G.rel.of_keeps m) r) (F.step r) (l.be r) λs' so G' t y=>q vs s' h so G' (λb o n e=>t b o n (m b o e)) y
 ·exact h.elim
theorem zy{C:Nat}(i:KQ w g A aI φ s am Q v H')(j:Good w g A a H' s'.heap)(k:aP aI φ s a s')(l:am a s'.heap v c)(p:s.heap.get? C=none)(h:cL g A a s'.heap C)(d:∃m,s'.heap.Ns C m):compPost (aq prog w) A E none Q c C (.ok .next) s':=by refine xE d λm d=>(ak m d (λq r=>?_));have f:∀b o,b≠C->s'.heap.get? b=some o->q.get? b=some o:=λb o n e=>(r.2 b n).trans e;exact i a _ c (j.past h f) (k.past p f) (l.mono (h.kept f))
theorem Vq(hi:aF prog w L k d loc f mi)(g:mO a d=pure q)(T:Taken d q)(n:∀C,jt d (dz a q C d) loc m)(hx:a.names.lookup x=some .local)(r:m.lookup x=none)(o:∀C v,aF prog w L k (dz a q C d) ((x,v)::m) t (me v))(e:∀x∈a.names,x.2=.local->a.names.lookup x.1=some .local)(i:∀x∈a.names,x.2≠.cell)(j:a.kind=.function)(hs:∀x,mN f d x=pure x)(hk:50<=k):aF prog w L k d loc (.ListComp t [⟨.Name x px,f,[],0⟩] a pos) (M.yh mi me):=λA φ s H R G F=>z.mk λQ E h=>Y (HS _ _ _ _)<|t_ (hk:=hk) (lo:=λp=>true) R G F hi hs g T j e i n (λaf y I lc RR p=>⟨xb,.inr λp=>rfl⟩) (λC=>xx (tD hx)) (λl v=>rfl) (λb=>ym r) (λC b=>xw) (o) h (λv H' ai s' c C=>zy) (λp p h=>h)
theorem J_{mt:V->M Bool}(hi:aF prog w t k d loc f mi)(i:mO a d=pure q)(T:Taken d q)(o:∀C,jt d (dz a q C d) loc g)(hx:a.names.lookup x=some .local)(y:g.lookup x=none)(j:∀C v,gc prog w t k (dz a q C d) ((x,v)::g) ct (mt v))(p:∀C v,aF prog w t k (dz a q C d) ((x,v)::g) L (me v))(e:∀x∈a.names,x.2=.local->a.names.lookup x.1=some .local)(m:∀x∈a.names,x.2≠.cell)(n:a.kind=.function)(hs:∀x,mN f d x=pure x)(hk:50<=k):aF prog w t k d loc (.ListComp L [⟨.Name x px,f,[ct],0⟩] a pos) (M.BX mi mt me):=λA φ s H R G F=>z.mk λQ E h=>Y (HS _ _ _ _)<|t_ (hk:=hk) (lo:=λr=>true) R G F hi hs i T n e m o (λai af I lc RR r=>⟨U9,.inr λr=>rfl⟩) (λC=>xx (tD hx)) (λl v=>rfl) (λb=>ym y) (λC b=>Te R (j C b)) (p) h (λv H' aj s' c C=>zy) (λr r h=>h)
theorem RY(hi:aF prog w hb k d loc f mi)(j:mO a d=pure p)(T:Taken d p)(q:∀C,jt d (dz a p C d) loc i)(t:∀C,Stores prog w (dz a p C d) xs ((eV g (dz a p C d)).map (·.2)))(m:∀C,(eV g (dz a p C d)).findIdx? (·.1)=none)(hx:∀x∈xs,a.names.lookup x=some .local)(y:∀vs,bt i ((xs.zip vs).reverse++i))(r:∀C vs,aF prog w hb k (dz a p C d) ((xs.zip vs).reverse++i) L (me vs))(e:∀x∈a.names,x.2=.local->a.names.lookup x.1=some .local)(n:∀x∈a.names,x.2≠.cell)(o:a.kind=.function)(hs:∀x,mN f d x=pure x)(hk:50<=k):aF prog w hb k d loc (.ListComp L [⟨.Tuple g kk tp,f,[],0⟩] a pos) (M.EF xs.length mi me):=λA φ s H R G F=>z.mk λQ E h=>Y (HS _ _ _ _)<|t_ (hk:=hk) R G F hi hs j T o e n q (λai af I lc RR h=>⟨xb,.inl h⟩) (λC=>NR (t C) (λx h=>tD (hx x h)) (m C)) (λl v=>rfl) y (λC b=>xw) (r) h (λv H' aj s' c C=>zy) (λo0 o0 h=>h)
theorem PV(hi:aF prog w hb k g loc i mi)(av:mO d g=pure cl)(T:Taken g cl)(a3:∀C,jt g (dz d cl C g) loc a2)(hx:d.names.lookup x=some .local)(a9:a2.lookup x=none)(a4:∀C v,aF prog w hb k (dz d cl C g) ((x,v)::a2) ap (me v))(hy:j6 g y)(a':wG (.ListComp ap [⟨.Name x px,i,[],0⟩] d pos) (some (.Name y py)) af.line g=pure true)(L:∀x∈d.names,x.2=.local->d.names.lookup x.1=some .local)(ax:∀x∈d.names,x.2≠.cell)(a0:d.kind=.function)(hs:∀x,mN i g x=pure x)(hk:50<=k):bP prog w hb k g loc (.Assign [.Name y py] (.ListComp ap [⟨.Name x px,i,[],0⟩] d pos) af) ((M.yh mi me).bd λv=>M.ret (.go v)) (λv=>(y,v)::loc):=λA φ s H R G F=>z.mk λQ E h=>by
 refine Y (HL _ _ _ _)<|ag (jB ?_);refine Y (show mM [.Name y py] (.ListComp ap [⟨.Name x px,i,[],0⟩] d pos) af.line g=pure true from a')<|ag (aK ?_);refine Y (if_pos rfl)<|ag (ag ?_);refine t_ (hk:=hk) (lo:=λt=>true) R G F hi hs av T a0 L ax a3 (λbm bc I lc RR t=>⟨xb,.inr λt=>rfl⟩) (λC=>xx (tD hx)) (λl v=>rfl) (λb=>ym a9) (λC b=>xw) (λC b=>a4 C b) (aN.bd h) (λv' H' bs s' c C q G' S' hv hC as hm=>?_) (λx H' q=>q.any .refl);refine xE hm λm hm=>(?_:aJ _ _ (n8 (.Name y py) g c) _ _ s');refine Y (HR _ _ _ _)<|ag (jB ((t4 hy G' (F.step S'.toStep) hv).gC (Q':=λt ai=>ai=H') rfl λt ai bk aj t e a5 p f=>?_));subst e;refine xA f λj a6=>?_;subst j;have nC:¬cm g C:=λh=>h.elim (λq=>by refine ad F.ns λm' j t=>fW j λo es ep ho t=>?_;rw[q,ho]at hC;exact sn hC) λzz=>xE zz λa8 q=>by refine xA (F.cells a8 C q) λj t=>bZ j λc' o ho t=>?_;rw[ho]at hC;exact sn hC
 have r:=as.step p.toStep nC;refine fW (id hm) λo es ep ho rr=>ad (p.kp C o ho as.off nC) λa7 a1 sl=>(ak m (nu a7 es ep a1 (Y sl.data<|rr.1) rr.2) (λh' bb=>?_));have kp:∀b o,b≠C->aj.heap.get? b=some o->h'.get? b=some o:=λb o n e=>(bb.2 b n).trans e;exact aK (aK (q _ {aj with heap:=h'} _ (a5.past r kp) ((S'.any.trans p).past hC kp) ⟨rfl,a6.past r (λq=>nC (.inl q.symm)) (λa8 a q q'=>nC (.inr ⟨a8,Y q<|Y q' rfl⟩)) kp⟩))
noncomputable def M.pM(i n:Nat)(mb:b->V->V->M (Out b)):Nat->Nat->b->M (Out b)
 |0,_,_=>M.bad
 |m+1,j,a=>(M.eB (.ref i)).bd λc=>if c.length=n then(match c[j]? with
 |none=>M.ret (.go a)
 |some e=>(M.fI (mb a (.str e.1) e.2)).bd λr=>match r with
 | .go d=>M.pM i n mb m (j+1) d
 | .ret v=>M.ret (.ret v))else M.bad
def M.Cw(d:M V)(a:b)(mb:b->V->V->M (Out b)):=d.bd λv=>match v with
 | .jO i=>(M.eB (.ref i)).bd λc=>M.pM i c.length mb (c.length+1) 0 a
 |_=>M.bad
def EI(i n:Nat)(φ:cy)(h:aW)(I j:Nat):=∃p ok a,φ[i]? =some p/\IsItemIter h I p.1 j n n ok a
inductive G9 w φ h(i:Nat)es p:Prop
 |mk (ds) (hp:φ[i]? =some p) (g:h.get? p.1=some (fK ds es.length)) (he:co w φ h es ds.toList) (nd:(es.map (·.1)).Nodup)
theorem aN.dict(G:Good w t A φ H h)(b:am φ h v c)(d:aN (((M.eB v).bd f) H) Q E):∃i a p,v=.ref i/\c=.ref p.1/\G9 w φ h i a p/\aN (f a H) Q E:=by refine ad (aN.nl d) λa k d=>ad (ii.mp k) λo j l=>?_;rw[O.ry l]at j;exact je (G.obj b j) λi p b m n hi e=>k_ e λx q r g s=>(dK i a p b m (.mk r n g s q) d)
theorem aN.zO(G:Good w k A φ H h)(e:φ[i]? =some p)(b:aN (((M.eB (.ref i)).bd f) H) Q E):∃a,G9 w φ h i a p/\aN (f a H) Q E:=by refine jY (aN.dict G (.ref i p e) b) λl a m j n g b=>?_;injection j with c;subst c;exact Y (ao (e.symm.trans (by obtain⟨_,d,_⟩:=g;exact d)))<|(ak a g b)
inductive xu w hb A env(inv:α->Loc)mb i n I φ₀ s₀ Q m s:Prop
 |mk (j) (a) (φ) (H) (e:aN (M.pM i n mb m j a H) Q λo0 o0=>True) (G:Good w hb A φ H s.heap) (S:aP (cm env) φ₀ s₀ φ s) (F:aV hb φ env s.heap (inv a)) (at_:EI i n φ s.heap I j) (as:cL hb A φ s.heap I)
theorem T9{a:α}(R:bw k A)(b1:Stores prog w d xs ((eV ai d).map (·.2)))(a3:(eV ai d).findIdx? (·.1)=none)(a8:xs.length=2)(b2:∀a x y,dm prog w hb k d ((xs.zip [x,y]).reverse++af a) a9 (mb a x y) af)(hk:50<=k)(h:aN (((M.fI (mb a (.str q0) x)).bd λr=>match r with| .go a'=>M.pM i n mb m (j+1) a'| .ret v=>M.ret (.ret v)) H) QQ λo0 o0=>True)(bb:Good w hb A φ H s.heap)(bc:aP (cm d) t aj φ s)(bk:aV hb φ d s.heap (af a))(a4:EI i n φ s.heap I (j+1))(C:cL hb A φ s.heap I)(nI:¬cm d I)(hT:am φ s.heap (.tup [.str q0,x]) c)(next:∀s',xu w hb A d af mb i n I t aj QQ m s'->Qf .next s')(done:∀H' a2 s' v c,QQ (.ret v) H'->Good w hb A a2 H' s'.heap->aP (cm d) t aj a2 s'->am a2 s'.heap v c->Qf (.ret c) s'):aJ (aq prog w) A (n8 (.Tuple ai kk tp) d c) (λo0=>aJ (aq prog w) A (execs a9 d) Qf E) E' s:=by refine(Dh b1 a3 hk A φ s H (.tup [.str q0,x]) c (af a) R bb bk hT).gC (Q':=λb H'=>b=[.str q0,x]/\H'=H) (by unfold M.cM;dsimp only;refine Y (if_pos (by refine Y a8 ?_;rfl))<|⟨rfl,rfl⟩) λb4 bm a5 bs o0 e bv f bx=>xA e λl b3=>?_;subst l;subst b3;refine(b2 a _ _ A a5 bs bm R bv bx).gC h.fI λo ap L av fl ax a0 g a1=>?_;have S':=(bc.trans f).trans g;rcases o with a'|v;refine xA a1 λl b0=>Y l<|fW a4 λp ok ov hp hi=>xE f.pre λb5 a6=>xE g.pre λb6 a7=>?_;have Q:=C.step f.toStep nI;exact next av (.mk (j+1) a' L ap ax a0 S' b0 (k8 p ok ov (Y a7<|Y a6<|nE (nE hp)) (g.keep I _ (f.keep I _ hi C.off nI (.inl λo0 o0 q=>(by injection q))) Q.off nI (.inl λo0 o0 q=>(by injection q)))) (Q.step g.toStep nI));exact ad a1 λc l hv=>Y l<|done ap L av v c ax a0 S' hv
theorem OI(R : bw k A)
    (a2 : Stores prog w d xs ((eV Q d).map (·.2))) (ap : (eV Q d).findIdx? (·.1) = none) (av : xs.length = 2) (a3 : ∀ a x y, dm prog w hb k d ((xs.zip [x, y]).reverse ++ l a) ax (mb a x y) l) (hI : g.heap.get? I = none)
    (hk : 50 <= k)m s(L : xu w hb A d l mb i n I f g (KQ w hb A (cm d) f g (jQ hb d l) λfl s' => RR (.ok fl) s') m s) :
      eU (aq prog w) A (.forLoop (.Tuple Q kk tp) (.ref I) ax [] d) RR s := by
  refine WR (xu w hb A d l mb i n I f g (KQ w hb A (cm d) f g (jQ hb d l) λfl s' => RR (.ok fl) s')) (λm s L => ?_) m L
  rcases m with _ | m
  · obtain ⟨_, _, _, _, e, _⟩ := L; exact e.elim
  · skip
    obtain ⟨j, a, φ, H, e, G, S, F, At, C⟩ := L
    refine fW At λp ok ov hp hi =>xA (F.hF (bQ _ _ hi rfl)) λn1 n2 => ?_
    skip
    refine ad (aN.zO G hp e) λes aj h => ?_; obtain ⟨ds, _, g5, g6, g7⟩ := aj
    skip
    split at h
    · rename_i hn
      subst hn
      skip
      refine cT (nr (prog := prog) g5 g6 g7) λa7 hd h2 h3 h4 => ?_
      skip
      rw [<- h3] at hi hd
      rcases hx : es[j]? with _ | kx
      · rw [hx] at h
        exact wpAny_pyNext_items_end (R.none hk) hi hd (qu.mpr (Y h3<|qu.mp hx)) λh' kp => aK (h φ _ .next (G.past C kp) (S.past hI kp) ⟨rfl, F.past C n1 n2 kp⟩)
      · rw [hx] at h
        skip
        refine ad (h4 j kx.1 kx.2 hx) λv hv a4 => ?_
        skip
        refine wpAny_pyNext_items_item hi hd hv λa8 h' a0 a5 a1 a9 kp =>xE (A6 (a0)) λt aj => ?_; subst aj
        refine wpAny_letOwnedTupleGo_items a5 λa' af ai => ?_
        have r:= λb o n e => (ai.2 b n).trans (kp b o n e)
        skip
        exact T9 R a2 ap av a3 hk h (G.past C r) (S.past hI r) (F.past C n1 n2 r) (k8 p _ _ hp (ae h3<|af)) ⟨C.off, C.ab, (bn _ af nofun (λo0 => jP (by decide))), C.nf⟩ (λq => q.elim (λq => n1 q.symm) λzz => xE zz λy q => n2 y _ q rfl)
          (.tup _ 0 _ [.str kx.1 t, v] ((ai.2 _ (qd (du hi))).trans a1) (G.rel.gG (cA _)) (.cons _ _ _ _ (.str _ _) (.cons _ _ _ _ (a4.mono (C.kept r)) .nil))) (λs' L => (ak m (f9 _) L)) λH' a6 s' v c q G' S' hv => q a6 s' _ G' S' (ak c rfl hv)
    · exact h.elim
theorem QN(hi:aF prog w hb k d loc g mi)(ha:bt (m a) loc)(af:Stores prog w d xs ((eV j d).map (·.2)))(n:(eV j d).findIdx? (·.1)=none)(r:xs.length=2)(ai:∀a x y,dm prog w hb k d ((xs.zip [x,y]).reverse++m a) t (mb a x y) m)(hs:∀x,mN g d x=pure x)(hk:50<=k):bP prog w hb k d loc (.For (.Tuple j kk tp) g t [] pos) (M.Cw mi a mb) m:=λA φ s H R G F=>z.mk λQ E h=>by refine wpAny_For ?_ hs;refine(hi A φ s H R G F).use (aN.bd h) (λv C o ap c e f l hv=>?_) λx H' h=>h.any .refl;revert e;refine am.casesOn hv (λh=>h.elim) (λb h=>h.elim) (λb b h=>h.elim) (λb b h=>h.elim) (λb b b h=>h.elim) (λb h=>h.elim) (λb b b b b b b h=>h.elim) (λb b b b b b b h=>h.elim) λav i p ho hn hp e=>?_;refine bh λR' k'=>ad (aN.zO f hp e) λes aj L=>?_;obtain⟨ds,_,g5,g6,g7⟩:=aj;exact cT (nr g5 g6 g7) λax hd h2 h3 h4=>k'<|wpAny_pyIter_items (bn _ ho rfl rfl) hd<|Y h3<|OI R af n r ai (cA _) hk (es.length+1) _ (.mk 0 a o C (L.imp (λb b q=>q.seq l.any) λb b b=>trivial) (f.push _) (Step.s (Step.push _).any) (((F.step l).le ha).step (Step.push _)) (k8 p .none .none hp (dZ _ rfl)) (GD f rfl (jP (by decide))))
inductive vQ(h:aW)z(f0 f1:ay):Prop
 |free (e0:f0=.none) (e1:f1=.bool false)
 |held (T:Nat) (ob) (e:f0=dN T) (g:h.get? T=some ob) (n:T≠z)
inductive uA h(z TI TO:Nat):Prop
 |mk (f0 f1) (g:h.get? z=some {cls:=.type "zip",dict:=none,data:=.fields #[f0,f1,.bool false,.ref TI,.ref TO],slots:= #[]}) (o:vQ h z f0 f1)
inductive sL h(T:Nat):Prop
 |mk (a b) (g:qw h T a b)
theorem vQ.up(o:vQ h c d f)(k:∀b o,h.get? b=some o->i.get? b=some o):vQ i c d f:=by rcases o with⟨a,b⟩|⟨T,j,e,g,n⟩;exact .free a b;exact .held T j e (k _ _ g) n
theorem F6{b TI e T:Nat}(hz:s.heap.get? b=some {cls:=.type "zip",dict:=none,data:=.fields #[dN T,f,.bool false,.ref TI,.ref e],slots:= #[]})(g:s.heap.get? T=some j)(h:∀a,a.get? b=some {cls:=.type "zip",dict:=none,data:=.fields #[dN T,.bool true,.bool false,.ref TI,.ref e],slots:= #[]}->fq b s.heap a->Q false {s with heap:=a}):aJ (aq prog w) A (XA (.ref b)) Q E s:=by
 refine ag (iU hz rfl (x:=dN T) rfl ?_);refine ag (kdx_alive (Y (WT _)<|g) ?_);refine Y (if_neg (by simp))<|ag (iU hz rfl (x:=f) rfl ?_);dsimp only;split;exact ag (wpAny_setField_rec hz (by simp) λa c d=>aK (h a c d));rename_i q;refine aK ?_;have:f=.bool true:=by simpa using q
 subst this;exact h s.heap hz ⟨rfl,λi i=>rfl⟩
theorem Q4{n TI p q r l1 l2:Nat}{xs ys:Array ay}{x y:ay}(i:wH n TI p q r l1 l2)(hz:uA s.heap n TI p)(ai:qw s.heap TI (.ref q) (.ref r))(m:sL s.heap p)(h1:s.heap.IsListIter q l1 k1)(h2:s.heap.IsListIter r l2 k2)(aj:s.heap.IsList l1 xs)(ap:s.heap.IsList l2 ys)(hx:xs[k1]? =some x)(hy:ys[k2]? =some y)(hQ:∀l,uA l n TI p->sL l p->l.IsListIter q l1 (k1+1)->l.IsListIter r l2 (k2+1)->qw l s.heap.objs.size x y->(∀c o,c≠n->c≠p->c≠q->c≠r->s.heap.get? c=some o->l.get? c=some o)->Q (some (.ref s.heap.objs.size)) {s with heap:=l}):aJ (aq prog w) A (n9 (.ref n)) Q E s:=by
 obtain⟨f0,f1,hz,hf⟩:=hz;obtain⟨a,b,m⟩:=m;rcases hf with⟨rfl,rfl⟩|⟨T,ob,rfl,hT,av⟩;refine wpAny_pyNext_zip_item i hz ai m h1 h2 aj ap hx hy λl a1 a2 a3 a4 a5 a6 a7=>hQ l ⟨_,_,a1,.held _ _ rfl a5 ?_⟩ ⟨_,_,a2⟩ a3 a4 a5 a7;exact ch (gN (du hz));have ax:s.TypeIs (.ref n) "zip":=(ak _ hz rfl);refine ag (A7 (Hz ax Bh (wA Bh ax WU ?_ (WV _))));refine(?_:aJ _ _ (field (.ref n) 2>>=_) _ _ _);refine ag (iU hz rfl (x:=.bool false) rfl ?_);refine ag (iU hz rfl (x:=.ref TI) rfl ?_);refine ag (HT ai rfl ?_);refine ag (F6 hz hT λa' C d=>?_);simp only[ko,if_false];refine ag ?_;simp only[<-WW,wI,WY];refine ag (ag (da ?_));refine ag (HU (h1.extBut d.extBut i.i1z) (aj.extBut d.extBut i.l1z) hx λbb H f=>aK ?_);refine aK<|ag (ag (da ?_));refine ag (HU ((h2.extBut d.extBut i.i2z).extBut f.extBut i.i12.symm) ((ap.extBut d.extBut i.l2z).extBut f.extBut i.l2i1) hy λh L g=>aK ?_);refine aK (aK ?_);refine(?_:aJ _ _ (newTuple [x,y]>>=_) _ _ _);refine ag (HV ?_);have a0:h.objs.size=s.heap.objs.size:=Y g.1<|Y f.1<|Y d.1 rfl;have up:∀c o,c≠n->c≠q->c≠r->s.heap.get? c=some o->(h.push {cls:=.type "tuple",data:=.seq #[x,y]}).get? c=some o:=λc o c1 c3 c4 e=>cO _ (g.extBut _ _ c4 (f.extBut _ _ c3 (d.extBut _ _ c1 e)));refine aK (ak _ rfl (aK ?_));refine Y a0 ?_;have a9:sL (h.push {cls:=.type "tuple",data:=.seq #[x,y]}) p:=⟨a,b,up _ _ i.TOz i.TOi1 i.TOi2 m⟩;have a8:=dZ h (o:={cls:=.type "tuple",data:=.seq #[x,y]}) rfl;rw[a0]at a8;have af:=cO ({cls:=.type "tuple",data:=.seq #[x,y]}) (g.extBut _ _ i.i2z.symm (f.extBut _ _ i.i1z.symm C));have j:=(H.extBut g.extBut i.i12).at λo e=>cO ({cls:=.type "tuple",data:=.seq #[x,y]}) e;have k:=L.at λo e=>cO ({cls:=.type "tuple",data:=.seq #[x,y]}) e;have t:∃v,(h.push {cls:=.type "tuple",data:=.seq #[x,y]}).get? T=some v:=by by_cases q1:T=q;exact ad (id j) λo e o0=>⟨o,Y q1<|e⟩;by_cases q2:T=r;exact ad (id k) λo e o0=>⟨o,Y q2<|e⟩;exact⟨_,up T _ av q1 q2 hT⟩
 exact xE t λv t=>hQ _ ⟨_,_,af,.held T v rfl t av⟩ a9 j k a8 (λc o c1 o0=>up c o c1)
theorem Kw{m TI t v y C H:Nat}(L:A.handled=none)(g:wH m TI t v y C H)(hz:uA s.heap m TI t)(n:qw s.heap TI (.ref v) (.ref y))(j:sL s.heap t)(h1:s.heap.IsListIter v C k1)(h2:s.heap.IsListIter y H k2)(k:s.heap.IsList C xs)(p:s.heap.IsList H ys)(i:xs[k1]? =none\/ys[k2]? =none)(hQ:∀h',(∀c o,c≠m->c≠t->c≠v->c≠y->s.heap.get? c=some o->h'.get? c=some o)->Q none {s with heap:=h'}):aJ (aq prog w) A (n9 (.ref m)) Q E s:=by obtain⟨f0,f1,hz,hf⟩:=hz;obtain⟨a,b,j⟩:=j;rcases hf with⟨rfl,rfl⟩|⟨T,ob,rfl,hT,av⟩;exact wpAny_pyNext_zip_end L g hz n j h1 h2 k p i hQ;have q:s.TypeIs (.ref m) "zip":=(ak _ hz rfl);refine ag (A7 (Hz q Bh (wA Bh q WU ?_ (WV _))));refine(?_:aJ _ _ (field (.ref m) 2>>=_) _ _ _);refine ag (iU hz rfl (x:=.bool false) rfl ?_);refine ag (iU hz rfl rfl ?_);refine ag (HT n rfl ?_);refine ag (F6 hz hT λaj af d=>?_);simp only[ko,if_false];refine ag ?_;simp only[<-WW,wI,WY];refine ag (ag (da ?_));rcases hx:xs[k1]? with _|x;refine ag (WZ L (h1.extBut d.extBut g.i1z) (k.extBut d.extBut g.l1z) hx λr e f he=>?_);refine ad he λo ho hc=>ag (wpAny_isInstance (ak o ho hc) isSubtype_stop ?_);exact aK (hQ _ λc o c1 o0 c3 o0 x=>f _ _ c3 (d.extBut _ _ c1 x));refine ag (HU (h1.extBut d.extBut g.i1z) (k.extBut d.extBut g.l1z) hx λr ai f=>aK ?_);refine aK<|ag (ag (da ?_));refine ag (WZ L ((h2.extBut d.extBut g.i2z).extBut f.extBut g.i12.symm) ((p.extBut d.extBut g.l2z).extBut f.extBut g.l2i1) (by rcases i with h|h;exact sn (hx.symm.trans h);exact h) λap e l he=>?_);refine ad he λo ho hc=>ag (wpAny_isInstance (ak o ho hc) isSubtype_stop ?_);exact aK (hQ _ λc o c1 o0 c3 c4 x=>l _ _ c4 (f.extBut _ _ c3 (d.extBut _ _ c1 x)))
structure sD h(z TI TO i1 i2 l1 l2:Nat)xs ys j:Prop where
 st:uA h z TI TO
 ti:qw h TI (.ref i1) (.ref i2)
 ud:sL h TO
 h1:h.IsListIter i1 l1 j
 h2:h.IsListIter i2 l2 j
 g1:h.IsList l1 xs
 g2:h.IsList l2 ys
theorem sD.up(Z:sD h c TI d f i l m xs ys j)(k:∀b o,h.get? b=some o->n.get? b=some o):sD n c TI d f i l m xs ys j:=by obtain⟨⟨q,r,g,o⟩,t,⟨a,b,p⟩,s,v,w,x⟩:=Z;exact⟨⟨q,r,k _ _ g,o.up k⟩,k _ _ t,⟨a,b,k _ _ p⟩,s.at λo e=>k _ _ e,v.at λo e=>k _ _ e,w.at λo e=>k _ _ e,x.at λo e=>k _ _ e⟩
inductive uW(h₀ h:aW)z TO i1 i2 S(xs ys acc:Array ay)(i:Nat):Prop
 |mk (T:Nat) (x y) (a1:acc[i]? =some (.ref T)) (a2:xs[i]? =some x) (a3:ys[i]? =some y) (a4:qw h T x y) (a5:h₀.get? T=none) (a6:T≠z) (a7:T≠TO) (a8:T≠i1) (a9:T≠i2) (a10:T≠S)
theorem uW.up(I:uW c h f g j l S xs ys e i)(k:∀b o,b≠f->b≠g->b≠j->b≠l->b≠S->h.get? b=some o->r.get? b=some o)(s:d[i]? =e[i]?):uW c r f g j l S xs ys d i:=by obtain⟨T,x,y,t,v,w,A,C,m,n,p,q,a⟩:=I;exact⟨T,x,y,s.trans t,v,w,k _ _ m n p q a A,C,m,n,p,q,a⟩
structure u5 h₀ h(z TI TO i1 i2 S:Nat)xs ys(acc:Array ay)j:Prop where
 size:acc.size=j
 item:∀i,i<j->uW h₀ h z TO i1 i2 S xs ys acc i
 keep:∀b o,h₀.get? b=some o->h.get? b=some o
theorem Jk{s:bS}{t TI L Q i2 l1 l2 S:Nat}(hh:A.handled=none)(f:wH t TI L Q i2 l1 l2)(hz:xs.size<=bH)(n1:a.get? t=none)(n2:a.get? L=none)(n3:a.get? Q=none)(n4:a.get? i2=none)(n5:a.get? S=none)(v:S≠t)(x:S≠L)(y:S≠Q)(C:S≠i2)(ap:S≠TI)(av:S≠l1)(ax:S≠l2)(a1:∀p tk d c,u5 a p t TI L Q i2 S xs ys d (fZ xs.size ys.size)->p.get? S=some (cx d c)->RR (.ok (.ret a2)) {s with heap:=p,toks:=tk}):∀(k j:Nat)(h:aW)(d:Array ay)(c tk:Nat),fZ xs.size ys.size- j=k->j<=fZ xs.size ys.size->sD h t TI L Q i2 l1 l2 xs ys j->h.get? S=some (cx d c)->u5 a h t TI L Q i2 S xs ys d j->eU (aq prog w) A (.builtin "list.extend.loop" ⟨[.ref S,.ref t,a2],[]⟩) RR {s with heap:=h,toks:=tk}:=by
 intro k;induction k with
 |zero=>
  intro j h d c tk hk hj Z hS l;have af:j=fZ xs.size ys.size:=ar [_,_,_] [.eq (.s (.mn U u) J) (.k 0),.le J (.mn U u)] (.eq J (.mn U u)) B hk hj;refine codeAny_builtin W0<|Y (W1 Bi _)<|(?_);have ai:xs[j]? =none\/ys[j]? =none:=by rw[HQ,HQ];exact aL [.eq U (.mn J u)] (.or (.le J U) (.le u U)) B af
  refine ag (Kw hh f Z.st Z.ti Z.ud Z.h1 Z.h2 Z.g1 Z.g2 ai λp m=>?_);subst af;exact aK (a1 p tk d c ⟨l.size,λi hi=>(l.item i hi).up (λb o c1 c2 c3 c4 o0=>m b o c1 c2 c3 c4) rfl,λb o e=>m b o (kZ n1 e) (kZ n2 e) (kZ n3 e) (kZ n4 e) (l.keep b o e)⟩ (m _ _ v x y C hS))
 |succ k ih=>
  intro j h d c tk hk hj Z hS l;have r:j<fZ xs.size ys.size:=ar [_,_,_,_] [.eq (.s (.mn U u) J) (.a D (.k 1)),.le J (.mn U u)] (.lt J (.mn U u)) B hk hj;refine codeAny_builtin W0<|Y (W1 Bi _)<|(?_);have hx:xs[j]? =some xs[j]:=by simp
  have hy:ys[j]? =some ys[j]:=by simp
  refine ag (Q4 f Z.st Z.ti Z.ud Z.h1 Z.h2 Z.g1 Z.g2 hx hy λp b1 b2 b3 b4 b5 m=>?_);refine(?_:aJ _ A.in1 (updateSeq S (·.push (.ref h.objs.size))>>=_) _ _ _);refine ag ?_;have H:=m _ _ v x y C hS;have g:∀b o,h.get? b=some o->h.objs.size≠b:=λb o e=>qd (du e);obtain⟨f0,f1,gz,_⟩:=Z.st;obtain⟨a0,b0,a3⟩:=Z.ud;refine ad Z.h1 λo1 a4 o0=>ad Z.h2 λo2 a5 o0=>?_;have kS:∀b o,b≠S->p.get? b=some o->(p.update S (qx (·.push (gO h.objs.size)))).get? b=some o:=λb o n e=>(Bj _ _ (ch n)).trans e;refine Bk (s:={s with heap:=p,toks:=tk}) H rfl (aK ⟨plainId_quiet Bi _,?_⟩) (Y l.size<|aG (dU r) (aG (tE _ _) hz)) (by refine(?_);exact Y (lP _)<|Y l.size<|kq (aG (dU r) (aG (tE _ _) hz)));refine ih (j+1) _ (d.push (.ref h.objs.size)) _ tk (ar [_,_,_,_] [.eq (.s (.mn J U) u) (.a D (.k 1)),.lt u (.mn J U)] (.eq (.s (.mn J U) (.a u (.k 1))) D) B hk r) r ?_ (n6 H _) ?_;obtain⟨g0,a6,a7,hg⟩:=b1;obtain⟨a',b',aj⟩:=b2;refine⟨⟨g0,a6,kS _ _ (ch v) a7,?_⟩,kS _ _ (ch ap) (m _ _ f.TIz f.TITO f.TIi1 f.TIi2 Z.ti),⟨a',b',kS _ _ (ch x) aj⟩,b3.at λo e=>kS _ _ (ch y) e,b4.at λo e=>kS _ _ (ch C) e,(Z.g1.at λo e=>m _ _ f.l1z f.l1TO f.l1i1 f.l1i2 e).at λo e=>kS _ _ (ch av) e,(Z.g2.at λo e=>m _ _ f.l2z f.l2TO f.l2i1 f.l2i2 e).at λo e=>kS _ _ (ch ax) e⟩;rcases hg with⟨h1,h2⟩|⟨T,ob,h1,h2,h3⟩;exact .free h1 h2;by_cases q:T=S;exact .held T _ h1 (Y q<|n6 H _) h3;exact .held T ob h1 (kS _ _ q h2) h3;refine⟨Y (lP _)<|Y l.size rfl,λi hi=>?_,λb o e=>?_⟩;by_cases q:i<j;exact(l.item i q).up (λb o c1 c2 c3 c4 c5 e=>kS b o c5 (m b o c1 c2 c3 c4 e)) ((Array.getElem?_push_lt (Y l.size<|q)).trans (mP _).symm);have a8:i=j:=ar [_,_] [.lt J (.a U (.k 1)),.n (.lt J U)] (.eq J U) B hi q;subst a8;refine⟨h.objs.size,xs[i],ys[i],?_,hx,hy,kS _ _ (g _ _ hS) b5,?_,g _ _ gz,g _ _ a3,g _ _ a4,g _ _ a5,g _ _ hS⟩;refine ae l.size ?_;simp;cases q:a.get? h.objs.size with
  |none=>rfl
  |some o=>have:=l.keep _ o q;exact ns ((cA _).symm.trans this)
  exact kS b o (kZ n5 e) (m b o (kZ n1 e) (kZ n2 e) (kZ n3 e) (kZ n4 e) (l.keep b o e))
theorem PD:AX (.type "zip") "__len__"=pure none:=by refine Y (typeLookup_type _ _)<|Y W2 ?_;kernel_rfl
theorem Qr:AX (.type "zip") "__length_hint__"=pure none:=by refine Y (typeLookup_type _ _)<|Y W2 ?_;kernel_rfl
theorem Pe{a:Nat}(b:s.TypeIs (.ref a) "zip")(h:Q true s):aJ (aq prog w) A (Builtin.List.listLengthHint (.ref a)) Q E s:=by refine ag (HW b PD ?_);refine ag (HW b Qr ?_);exact aK h
theorem Us{m TI v i1 i2 l1 l2:Nat}(hh:A.handled=none)(a4:wH m TI v i1 i2 l1 l2)(hz:xs.size<=bH)(Z:sD s.heap m TI v i1 i2 l1 l2 xs ys 0)(af:IsZip s.heap m TI v .none)(n1:a.get? m=none)(n2:a.get? v=none)(n3:a.get? i1=none)(n4:a.get? i2=none)(kp:∀b o,a.get? b=some o->s.heap.get? b=some o)(ai:∀x tk l c,u5 a x m TI v i1 i2 s.heap.objs.size xs ys l (fZ xs.size ys.size)->x.get? s.heap.objs.size=some (cx l c)->Q (.ref s.heap.objs.size) {s with heap:=x,toks:=tk}):aJ (aq prog w) A (call (.type "list") [.ref m]) Q E s:=by
 refine callType_codes (Q₁:=λy p=>y=.ref s.heap.objs.size/\p={s with heap:=s.heap.push {cls:=.type "list",data:=.seq #[]}}) PySem.F.called_list (PySem.F.typeCall_list_1 _) PySem.F.entry_list_init (code_list_new _ ⟨rfl,rfl⟩) λy p L=>xA L λaj ap=>Y aj<|Y ap ?_;have hS:(s.heap.push {cls:=.type "list",data:=.seq #[]}).get? s.heap.objs.size=some (cx #[] 0):=dZ _ rfl;refine(aX (ak _ hS rfl) (PySem.F.args_list_init_2 _ _) ?_);refine(?_);refine ag<|ag (HT hS rfl (aK ?_));refine(?_);refine ag (Bk hS rfl ?_);have h:=n6 hS (λt=>(#[]));refine ag (wpAny_letGo ?_);generalize hH:(s.heap.push {cls:=.type "list",data:=.seq #[]}).update s.heap.objs.size (qx λt=>(#[]))=f at h⊢;have up:∀b o,s.heap.get? b=some o->f.get? b=some o:=λb o e=>ae hH<|(Bj _ _ (qd (du e))).trans (cO _ e);have d:∀b o,s.heap.get? b=some o->s.heap.objs.size≠b:=λb o e=>qd (du e);refine bh λR' k'=>?_;obtain⟨f0,f1,gz,hf⟩:=id Z.st;obtain⟨a0,b0,av⟩:=id Z.ud;refine ad (id Z.h1) λo1 ax t=>ad (id Z.h2) λo2 a1 t=>ad (id Z.g1) λo3 a2 t=>ad (id Z.g2) λo4 a3 t=>k' ?_;have n5:a.get? s.heap.objs.size=none:=by rcases q:a.get? s.heap.objs.size with _|o;rfl;have:=kp _ _ q;exact ns ((cA _).symm.trans this)
 have C:Shared.TypeIs {s with heap:=f} (.ref m) "zip":=(ak _ (up _ _ gz) rfl);refine ag (wpAny_typeOf C ?_);have h1:W3 (.ref s.heap.objs.size) (.ref m)=false:=by simp[W3,d _ _ gz]
 have nL:(Value.type "zip"==Value.type "list")=false:=by decide
 have nT:(Value.type "zip"==Value.type "tuple")=false:=by decide
 simp only[h1,nL,nT,A_,ko,if_false];refine ag (wpAny_pyIter_zip (up _ _ af) ?_);refine ag (da (Pe C ?_));refine wpAny_ite_split (λt=>?_) (absurd rfl);refine ag (lJ ?_);refine ag<|(?_);refine ag (Bk h rfl ?_);have j:=n6 h (·.push gk);refine Bk j rfl ?_;have k:=n6 j (·.pop);have H:∀b o,b≠s.heap.objs.size->f.get? b=some o->((f.update s.heap.objs.size (qx (·.push gk))).update s.heap.objs.size (qx (·.pop))).get? b=some o:=λb o n e=>(Bj _ _ (ch n)).trans ((Bj _ _ (ch n)).trans e);generalize a5:(f.update s.heap.objs.size (qx (·.push gk))).update s.heap.objs.size (qx (·.pop))=r at k H⊢;have im:∀b o,s.heap.get? b=some o->r.get? b=some o:=λb o e=>H _ _ (ch (d _ _ e)) (up _ _ e);refine aK ⟨plainId_quiet Bi _,?_⟩;refine Jk (A:=A.in1) hh a4 hz n1 n2 n3 n4 n5 (d _ _ gz) (d _ _ av) (d _ _ ax) (d _ _ a1) (d _ _ Z.ti) (d _ _ a2) (d _ _ a3) (λx tk l c ac g=>?_) (fZ xs.size ys.size- 0) 0 r #[] _ _ rfl (lN _) (Z.up im) k ⟨rfl,λi hi=>absurd hi (HX i),λb o e=>im _ _ (kp _ _ e)⟩;exact⟨rfl,ai x tk l c ac g⟩
def X.lS x y:=(M.cC x).bd λxs=>(M.cC y).bd λys=>if xs.length<=bH then M.d8 ((xs.zip ys).map λp=>V.tup [p.1,p.2])else M.bad
theorem aH.of_get xs:∀vs,xs.length=vs.length->(∀(i:Nat)x v,xs[i]? =some x->vs[i]? =some v->am φ h x v)->aH φ h xs vs:=by induction xs with
 |nil=>exact λvs a _=>Y (Be.mp a.symm)<| .nil
 |cons x xs b=>intro vs a h;rcases vs with _|⟨v,vs⟩;injection a;exact .cons _ _ _ _ (h 0 x v rfl rfl) (b vs (bX a) λi y c d e=>h (i+1) y c d e)
theorem aN.list{w:cN}{q:aW}{γ:Type}{A:fu}{φ:cy}{H:Hp}{v:V}{c:ay}{h:aW}{f:List V->M γ}{Q:γ->Hp->Prop}{E:V->Hp->Prop}(G:Good w q A φ H h)(s:am φ h v c)(t:aN (((M.cC v).bd f) H) Q E):∃(a:Nat)(ys:List V)(vs:Array ay)(n:Nat),c=.ref a/\h.get? a=some (cx vs n)/\aH φ h ys vs.toList/\aN (f ys H) Q E:=by refine bh λL x=>fQ t.bd.ends λr H' e y h2=>ji (G.list (xs:=[]) s e) λi p ys vs n d j=>?_;subst d;refine xA j λk l=>?_;subst k;exact hZ l λb C b b m=>bN m λb g o=>x<|(pK p.1 ys vs n C (aX g o (y _ rfl)))
theorem Se{L Q i2 S c:Nat}(R:Rel w hb φ H a)(o:aH φ a xs g.toList)(r:aH φ a ys h.toList)(j:u5 a k af TI L Q i2 S g h m (fZ g.size h.size))(St:Step aI φ a d k)(hn:∀T x y,qw k T x y->Own d T->Own φ T):aH d k ((xs.zip ys).map λp=>V.tup [p.1,p.2]) m.toList:=by
 refine aH.of_get _ _ ?_ λi t v h1 l=>?_;exact Y (bD _)<|Y jG<|ae o.length<|ae r.length<|Y cz<|Y cz<|Y cz<|Y j.size rfl;have hi:i<fZ g.size h.size:=by have:=(bR.mp l).1;rw[cz,j.size]at this;exact this
 obtain⟨T,x,y,a1,a2,a3,s,a5,_⟩:=j.item i hi;rw[qp,a1]at l;refine ad (ij.mp (f_▸h1)) λpq b e=>?_;have b:=HY.mp b;refine ad (o.get b.1) λai A f=>ad (r.get b.2) λv' C n=>?_;rw[qp,a2]at A;rw[qp,a3]at C;exact ae e<|ae (ao l)<| .tup T 0 _ [x,y] s (λq=>R.gG a5 (hn T x y s q)) (.cons _ _ _ _ (ao A▸f.be St) (.cons _ _ _ _ (ao C▸n.be St) .nil))
theorem SG{K:aE}(hh:A.handled=none)(XK:K.In hb)(G:Good w hb A φ H s.heap)(hx:am φ s.heap x c)(hy:am φ s.heap y d)(h:aN (X.lS x y H) (KQ w hb A aI φ s am Q) E')(k:∀v s',K.In s'.heap->aJ (aq prog w) A (call (.type "list") [v]) Q E s'->ai v s'):aJ (aq prog w) A (call (.type "zip") [c,d]) ai E s:=by
 refine eZ (aN.list G hx h) λa xs us n f i=>Y f<|bN i λj C h=>eZ (aN.list G hy h) λb ys ws m f i=>Y f<|bN i λl ap h=>?_;split at h;rename_i aj;have L:=C.length;rw[cz]at L;refine call_zip_2 (bn _ j rfl ⟨n,rfl⟩) (bn _ l rfl ⟨m,rfl⟩) λt z1 z2 z3 z4 z5 z6 kp=>?_;have a2:a<s.heap.objs.size:=du j;have EQ:b<s.heap.objs.size:=du l;have a1:wH (s.heap.objs.size+4) (s.heap.objs.size+2) (s.heap.objs.size+3) s.heap.objs.size (s.heap.objs.size+1) a b:=by constructor<;>(intro hq;have:(_:Nat)=_:=hq;omega)
 refine k _ _ (XK.keeps λb o e=>kp b o (G.rel.base b o e)) (Us hh a1 (Y L<|aj) ⟨⟨_,_,z1,.free rfl rfl⟩,z2,⟨_,_,z3⟩,z4,z5,(bn _ (kp _ _ j) rfl ⟨n,rfl⟩),(bn _ (kp _ _ l) rfl ⟨m,rfl⟩)⟩ z1 (jd (eC _ _)) (jd (eC _ _)) (cA _) (jd (eC _ _)) kp λaf tk av c ac g=>?_);unfold M.d8 at h;split at h;have hs:=dU (iR (eC _ 4) (du z1));have p:Step aI φ s.heap (φ++[(t.objs.size,t.objs.size)]) af:=Step.new ac.keep (jd hs) (jd hs);have ax:=Se (c:=0) G.rel C ap ac p λT x y q a0=>a0.or.resolve_right λzz=>ad zz λr hr q2=>by rw[dW]at hr;subst hr;rw[(q2.elim id id)]at q;have q:af.get? t.objs.size=_:=q;rw[g]at q;simp at q
 exact h _ _ _ (G.step (G.rel.new ac.keep hs hs (ir rfl av c g ax)) p) (Step.s p) (Good.jm G.rel (t.objs.size,t.objs.size) _);exact h.elim;exact h.elim
theorem O2{K:aE}(XK:K.In hb)(hl:aF prog w hb k f loc fl (M.ret (.g (.type "list"))))(hz:aF prog w hb k f loc C (M.ret (.g (.type "zip"))))(ha:db prog w hb k f loc [a,b] ms)(af:br (.Call fl [.Call C [a,b] [] m] [] L) f=(do qk L (<-br fl f) [] (fy L (d4 [.Call C [a,b] [] m] f)) (lL L (lM [] f))))(ai:br (.Call C [a,b] [] m) f=(do qk m (<-br C f) [] (fy m (d4 [a,b] f)) (lL m (lM [] f))))(hk:50<=k):aF prog w hb k f loc (.Call fl [.Call C [a,b] [] m] [] L) (M.call (F2 X.lS) ms):=λA φ s H R G F=>by
 refine Y af<|z.pS (hl A φ s H R G F) λt n c aj o p=>?_;obtain rfl:=am.gv p;refine z.mk λQ E h=>wv (P:=λh=>K.In h) rfl (Ad _)<|AR<|(?_:aJ (aq prog w) A (br (.Call C [a,b] [] m) f>>=λv=>nX [v] (spliced (fy L []))>>=λi=>pure ([v]++i)) _ _ n);refine ag<|Y ai<|ag ((hz A t n H R aj (F.step o)).gC (Q':=λb H'=>b=.g (.type "zip")/\H'=H) ⟨rfl,rfl⟩ λb' H' a3 a5 c e ap j p=>?_);obtain⟨rfl,rfl⟩:=e;obtain rfl:=am.gv p;refine wv (P:=λh=>K.In h) ?_ (Ad _) ?_;cases ha with
 |cons h hs he=>rcases hs with _|⟨h',a7,a0⟩;refine Y he<|Y a0 ?_;rfl
 have go:=(ha.run (pos:=m) R ap ((F.step o).step j.toStep)).use (Q:=λvs l=>K.In l.heap/\aJ (aq prog w) A (call (.type "zip") ([]++vs)) (λv av=>aJ (aq prog w) A (nX [v] (spliced (fy L []))>>=λi=>pure ([v]++i)) (λvs s'=>K.In s'.heap/\aJ (aq prog w) A (call (.type "list") ([]++vs)) Q E s') E av) E l) (aN.bd h) (λvs a6 a4 l cs g r ax hv=>⟨XK.keeps r.rel.base,by
  rcases hv with _|⟨x,c,xs,cs,hx,a1⟩;exact g.elim;rcases a1 with _|⟨y,d,ys,ds,hy,a2⟩;exact g.elim;cases a2 with
  |cons=>exact g.elim
  |nil=>exact SG (R.none hk) XK r hx hy (g.imp (λo0 o0 q=>q.seq (j.trans ax)) λo0 o0 q=>q) λv s' X q=>ag (da (aK (aK ⟨X,q⟩)))⟩) λx H' q=>q.any j
 rcases ha with _|⟨h,hs,he⟩;rw[he]at go⊢;exact AR go
theorem PG:aF prog w h k g loc (.Dict [] [] pos) (M.alloc (.dict [])):=λA φ s H R G F=>by refine Y (eval_Dict_empty _)<|z.at_ (z.of (λr H' e=>?_) G);injection e with a;injection a with c d;subst c;subst d;refine(ak _ rfl (λQ E q=>?_));have f:∀b o,s.heap.get? b=some o->(s.heap.push iX).get? b=some o:=λb o e=>cO _ e;exact qg (q _ _ _ (G.rel.new f (aS _) (aS _) (qZ rfl (by simp) (#[]) (dZ s.heap rfl) .nil)) (Step.s (.new f (cA _) (cA _))) (Good.jm G.rel (s.heap.objs.size,s.heap.objs.size) _))
theorem G_{d:Nat}(c:(d==jA)=false)(a:s.heap.MapOf (strKind prog w) d f)(h:Q (f q).isSome {s with toks:=s.toks+1}):aJ (aq prog w) A (Bl (.ref d) (.str q t)) Q E s:=by
 delta Bl;try with_reducible refine da ?_
 refine ag (HW a.typeIs HZ.lookup ?_);rw[if_neg (by rw[PySem.beq_builtin_none];exact WH)];refine ag (wpAny_callSpecialUnlessNone?_slot a.typeIs HZ (wA HZ a.typeIs PySem.entry_dict_contains ?_ (PySem.args_dict_contains _ _)));refine(?_:aJ _ _ (dictGet d (.str q t)>>=_) _ _ s);refine ag (HD (ku prog w q t) a ?_);rcases b:f q with _|v;rw[b]at h;exact ag (wpAny_pendingKey_other c (aK (ak _ rfl (Hu h))));rw[b]at h;exact aK (ak _ rfl (Hu h))
theorem ce.of(h:∀Q E,aN (m H) Q E->∃d,Q d H/\C d):ce m H C:=λr H' e=>by obtain⟨d,⟨j,k⟩,c⟩:=h (λd f=>r=.ok d/\H'=f) (λa a=>False) (.of e (λb g=>⟨g,rfl⟩) λx g=>by subst g;refine ad (h (λa a=>False) (λa a=>True) (.of e (λa q=>(by injection q)) λa a=>trivial)) λd i a=>?_;obtain⟨_,_⟩:=i);exact(bn d j k c)
def pe(prog:dO)(w:cN)(e:aW)(d:ay->aa->Option Bool):=∀(A)(s)(c)(q)(t)(b),(∀a o,e.get? a=some o->s.heap.get? a=some o)->d c q=some b->∀(Q)(E),(∀tk,Q b {s with toks:=tk})->aJ (aq prog w) A (Bl c (.str q t)) Q E s
def X.oQ(d:ay->aa->Option Bool)(a b:V):=match a,b with
 | .str q,.ref i=>(M.eB (.ref i)).bd λe=>M.ret (bg q e).isSome
 | .str q,.g c=>match d c q with|some b=>M.ret b|none=>M.bad
 |_,_=>M.bad
def yA prog w A s c d a:=∀(Q)(E),(∀tk,Q a {s with toks:=tk})->aJ (aq prog w) A (Bl d c) Q E s
theorem OV(ht:pe prog w hb f)(G:Good w hb A φ H s.heap)(l:am φ s.heap b d):ce (X.oQ f (.str q) b) H (yA prog w A s (.str q t) d):=by refine am.casesOn l .bad (λa=>.bad) (λa a=>.bad) (λa a=>.bad) (λi p C=>?_) (λc=>?_) (λa a a a a a a=>.bad) (λa a a a a a a=>.bad) λa a a a a a=>.bad;refine ce.of λQ E h=>ad (aN.zO G C h) λes m h=>?_;obtain⟨ds,_,g5,L,g7⟩:=m;refine(ak _ h (λQ E h=>G_ (G.rel.oA C) (vC g5 L) ?_));have:=h (s.toks+1);rcases yP L q with⟨x,v,g,j,_⟩|⟨g,j⟩;rw[g]at this;exact Y j<|this;rw[g]at this;exact Y j<|this;intro r H' e;unfold X.oQ at e;dsimp only at e;rcases k:f c q with _|af;rw[k]at e;injection e;rw[k]at e;injection e with n;injection n with o y;subst o;subst y;exact(bn af rfl rfl (ht A s c q t af G.rel.base k))
theorem Ct(h:pe prog w i f)(G:Good w i A φ H s.heap)(j:am φ s.heap a c)(g:am φ s.heap b d):ce (X.oQ f a b) H (yA prog w A s c d):=ce.v (m:=λa=>X.oQ f a b) (C:=λc=>yA prog w A s c d) j (λe e=>.bad) .bad (λq t=>OV h G g) (λe=>.bad) (λe e e e e e=>.bad) (λe e e=>.bad) (λe=>rfl) (λe=>rfl) λe=>rfl
def X.isIn(c:ay->aa->Option Bool)(a b:V):M V:=(X.oQ c a b).bd λr=>M.ret (.bool r)
def X.rR(c:ay->aa->Option Bool)(a b:V):M V:=(X.oQ c a b).bd λr=>M.ret (.bool (!r))
theorem Mb(g:pe prog w h e):dA prog w h k (gQ .In) (X.isIn e):=λA φ s H a b c d R G i f=>uM G (Ct g G i f) λj ok Q E q=>ag (ok _ _ λtk=>aK (q tk))
theorem Ms(g:pe prog w h e):dA prog w h k (gQ .NotIn) (X.rR e):=λA φ s H a b c d R G i f=>uM G (Ct g G i f) λj ok Q E q=>ag (ok _ _ λtk=>aK (q tk))
theorem t8{K:aE}{s:bS}{a:Nat}(d:K.In e)(f:K.lookup a=some ⟨.type "dict",none,.dict c n,#[]⟩)(hk:wJ w.params c.toList)(g:∀b o,e.get? b=some o->s.heap.get? b=some o):s.heap.MapOf (strKind prog w) a (gm cE c):=mapOf_K (d.keeps g) f hk
theorem Hc(lo:(a==jA)=false):MeetsIn prog w (wD.«dict.get» ⟨[.ref a,.str q t,d],[]⟩) (λg R s=>s.heap.MapOf (strKind prog w) a f/\R (.ok (.ret ((f q).getD d))) {s with toks:=s.toks+1}):=.of_wp λA R s e=>xA e λT b=>by refine(?_:aJ _ _ (dictGet a (.str q t)>>=_) _ _ s);refine ag (HD (ku prog w q t) T ?_);rcases c:f q with _|v;rw[c]at b;exact ag (WE lo (aK (ak d rfl b)));rw[c]at b;exact aK (ak v rfl b)
def Cb(prog:dO)(w:cN)(d:aW)(a:Nat)(c:aa->Option (Option V)):=∀(A:fu)(φ)(s:bS)(q)(x),(∀b o,d.get? b=some o->s.heap.get? b=some o)->(∀b,Own φ b->d.get? b=none)->c q=some x->∃f,s.heap.MapOf (strKind prog w) a f/\(match x with|some x=>∃v,f q=some v/\am φ s.heap x v|none=>f q=none)
def uO(c:ay)(v:V):=match v with
 | .g a=>if a=c then M.ret ()else M.bad
 |_=>M.bad
def X.get3(a:Nat)(b:aa->Option (Option V))d q dflt:=M.g d λc=>M.str q λq=>if c=.ref a then(match b q with
 |some (some x)=>M.ret x
 |some none=>M.ret dflt
 |none=>M.bad)else M.bad
def F3(f:V->V->V->M V):List V->M V
 |[a,b,c]=>f a b c
 |_=>M.bad
theorem Sj(h:∀A φ s H a b x c d i,bw k A->Good w n A φ H s.heap->am φ s.heap a c->am φ s.heap b d->am φ s.heap x i->z prog w n aI A φ s H (call g [c,d,i]) (f a b x) am):ck prog w n k g (F3 f):=λA φ s H vs C R G o=>aH.casesOn o z.bad λx v xs vs p j=>aH.casesOn j z.bad λy i ys L q l=>aH.casesOn l z.bad λr t Q ts hz m=>aH.casesOn m (h A φ s H x y r v i t R G p q hz) λe e e e e e=>z.bad
set_option tactic.hygienic true in
theorem JZ(n:Cb prog w o a j)(lo:(a==jA)=false):ck prog w o k (.builtin "dict.get") (F3 (X.get3 a j)):=Sj λA φ s H x y L c d p R G e r hz=>z.g e λc=>z.str (t:=λd=>call (.builtin "dict.get") [c,d,p]) r λq t=>z.Gg λC=>by refine Y C ?_;split;rename_i x' e;exact ad (n A φ s q _ G.rel.base (λb q=>(G.rel.above b q).1) e) λf g l=>ad l λv h m=>z.val G λQ E i=>A5 wE g.typeIs HE (W4 _ _ _) (Hc lo) ⟨g,Y h<|i _ _ rfl m⟩;rename_i e;exact ad (n A φ s q _ G.rel.base (λb q=>(G.rel.above b q).1) e) λf g h=>z.val G λQ E i=>A5 wE g.typeIs HE (W4 _ _ _) (Hc lo) ⟨g,Y h<|i _ _ rfl hz⟩;exact z.bad
theorem dH.g{a:Nat}(l:∀s:bS,(∀b o,m.get? b=some o->s.heap.get? b=some o)->∃h,s.heap.get? a=some h/\h.cls=.type "dict"/\h.dict=none):dH prog w m "get" (uO (.ref a)) (.builtin "dict.get"):=by intro A φ s H o c r H' G n e;revert e;refine am.casesOn n (λe=>ns e) (λd e=>ns e) (λd d e=>ns e) (λd d e=>ns e) (λd d d e=>ns e) (λv e=>?_) (λd d d d d d d e=>ns e) (λd d d d d d d e=>ns e) λd d d d d d e=>ns e;simp only[uO]at e;split at e;rename_i p;refine Y p ?_;have f:=ao e;injection f with i j;refine Y i<|Y j<|c_ (l s G.rel.base) λh k q t=>(aX rfl rfl (λx Q E=>HB (ak _ k q) WC wE W5 (λb e=>?_)));injection e with f;subst f;exact(ak _ k t);exact ns e
noncomputable def O.An(o:Option O):=match o with
 |some (.exc C _ _)=>some C
 |_=>none
def X.xH(ok:Nat->Bool)(v x:V):=M.ref v λi=>M.opt λH=>(O.An H[i]?).bind λC=>if ok C then some V.none else none
theorem Ce{i:Nat}(G:Good w L A φ H h)(k:φ[i]? =some p)(e:O.An H[i]? =some C):∃d r x vs b,H[i]? =some (.exc C d r)/\p.2=p.1/\vs.size=6/\h.get? p.1=some {cls:=.ref C,dict:=x,data:=.fields vs,slots:=b}/\∀f(c:Array ay),c.size=6->c[1]? =vs[1]? ->fq p.1 h f->f.get? p.1=some {cls:=.ref C,dict:=x,data:=.fields c,slots:=b}->Good w L A φ H f/\Step aI φ h φ f:=by rcases hi:H[i]? with _|o;rw[hi]at e;exact ns e;rw[hi]at e;refine ad (G.rel.objs i _ hi) λp' t y=>?_;obtain rfl:=ao (k.symm.trans t);rcases o with _|_|_|⟨C',d,r⟩|_|_|_;exact ns e;exact ns e;exact ns e;obtain rfl:=ao e;rcases d with _|j;exact gF y λa vs b l n=>(lu none r none vs b rfl (bA a l.1 n (λf c hz s m g=>⟨G.exc k hi m (ir a c b ⟨hz,λq=>s.trans (l.2 q)⟩ g),Step.upd (dT k).1 m ⟨_,g⟩⟩)));exact xA y λa v=>eJ v λq vs b l Q n=>(lu (some j) r (some q.1) vs b rfl (bA a l.1 n (λf c hz s m g=>⟨G.exc k hi m ⟨a,q,c,b,⟨hz,λq=>s.trans (l.2 q)⟩,Q,g⟩,Step.upd (dT k).1 m ⟨_,g⟩⟩)));exact ns e;exact ns e;exact ns e
theorem OL{M:kg}{os:OsState}{e C:Nat}(k:h.get? C=some ⟨p,q,.cls r,s⟩)(l:h.get? e=some m)(c:m.cls=.ref C)(f:d5 M h (tF (.ref C) (.type "ValueError")) true)(o:Q () ⟨h,g,d,t,os⟩):aJ M A (H0 "ValueError.__init__" ⟨.ref e::i,[]⟩) Q E ⟨h,g,d,t,os⟩:=by
 have F:=H4;have j:=F.noStar;simp only[H0,F.initKind,F.initSplit,F.initRow];unfold A8;repeat(first|(with_reducible refine tG l<|Y c ?_)|with_reducible refine tG k ?_|with_reducible refine Looks.at f ?_|wp_step)
 refine wpAny_onRaise ?_;rw[show∀(a b)(n),Bind.check ⟨.positional,"*","ValueError",.self,[⟨"args",.varPos,false⟩]⟩ a b n (Bm (λx=>x.fst) ({pos:=gO e::i}:Args).kw)=pure ()from λa b n=>check_star_args _ _ _ _ _ _];exact aK o
theorem Ok{K:aE}{ok:Nat->Bool}(XK:K.In hb)(af:∀C,ok C=true->lO K C (.type "ValueError")=some true/\(qr K C).isSome=true):ck prog w hb k (.builtin "ValueError.__init__") (F2 (X.xH ok)):=pO λA φ s H a b c d R G ha a3=>by
 refine z.ref (t:=λc=>call (.builtin "ValueError.__init__") [c,d]) ha λi p hp=>z.opt λv hv=>h_ hv λC h3 h4=>cU h4 λhc h4=>ae (ao h4)<|z.mk λQ E h=>ji (Ce G hp h3) λa4 a5 dd vs sl hi j=>cW j λa6 m he a7=>?_;have F:=H4;have Xs:=XK.keeps G.rel.base;refine xA (af C hc) λhm ai=>xE (qf.mp ai) λcd e=>?_;obtain⟨oc,od,g,hK⟩:∃oc od g,K.lookup C=some ⟨oc,od,.cls cd,g⟩:=by
  delta qr at e;generalize K.lookup C=o at e;rcases o with _|⟨oc,od,dt,g⟩;exact ns e;rcases dt;case cls c=>exact Y (ao e)<|p7 oc od g rfl
  all_goals exact ns e
 refine qh (HG F.init.plain F.initEntry ?_);obtain⟨l,gg,n,tt,oo⟩:=s;refine OL (Xs _ _ hK) he rfl (n7 Xs hm)<|ag (HV ?_);refine ag ?_;have q:0<vs.size:=Y m ?_;decide;have f:=cO ({cls:=.type "tuple",data:=.seq [d].toArray}) he;have S0:Step aI φ l φ (l.push {cls:=.type "tuple",data:=.seq [d].toArray}):=Step.push _;have G0:Good w hb A φ H (l.push {cls:=.type "tuple",data:=.seq [d].toArray}):=G.push _;generalize l.push {cls:=.type "tuple",data:=.seq [d].toArray}=y at f S0 G0⊢;refine ag (iU f rfl (x:=vs[0]) (by simp[q]) ?_);refine ag (wp (s:=⟨y,gg,n,tt,oo⟩) f rfl q ?_);refine ji (Ce G0 hp h3) λa8 a9 a' bb bc bk j=>cW j λa1 a2 r L=>?_;rw[f]at r;injection r with aj;injection aj with bm ap av ax;subst ap;injection av with a0;subst a0;subst ax;refine xA (L _ _ (wr.trans m) (Array.getElem?_setIfInBounds_ne (by decide)) (kh ..) (mJ (jC (·.setIfInBounds 0 (gO l.objs.size))) f rfl)) λG1 S1=>?_;have done:=h φ ⟨_,gg,n,tt,oo⟩ .none G1 (Step.s (S0.trans S1)) .none;rcases vs[0];case ref a=>exact wpAny_letGo (aK done)
 all_goals exact aK (aK done)
theorem Uu{K:aE}(X:K.In s.heap)(d:tw (.type T)=pure (.type "type"))(f:W6 T=false)(e:qs K (.type T) (.type "type") name=some (.val v))(g:wF v=true)(h:Q (v,[]) {s with toks:=s.toks+1}):aJ (aq prog w) A (getMethod (.type T) name k) Q E s:=by have b:d5 (aq prog w) s.heap (tw (.type T)) (.type "type"):=H5 d;have c:fB K (.type "type") "__getattribute__"=some (some (.builtin "type.__getattribute__")):=type_tga;refine ag (ag (b.here ((tx X c).here ?_)));dsimp only;refine Y (if_pos canon_tga)<|ag (iY (Q:=λv=>Q (v,[])) ?_ (λa a=>aK) λa a i=>i);have j:d5 (aq prog w) s.heap (opaqueClassAbove (.type T)) none:=H5 (by delta opaqueClassAbove;dsimp only;refine Y f ?_;rfl);refine cls_open X j b c (looks_hook X (by rfl)) (by skip;rfl) e (aK (by refine(?_:aJ _ _ (handedOut v) _ _ _);exact Y (handedOut_of g)<|aK h))
theorem Os{K:aE}(XK:K.In C)(ho:aF prog w C k f loc q (M.ret (.g (.type T))))(ht:tw (.type T)=pure (.type "type"))(hs:W6 T=false)(e:qs K (.type T) (.type "type") name=some (.val g))(hh:wF g=true)(hk:gW K g)(ha:db prog w C k f loc h ms)(hf:ck prog w C k g m)(n:ql q name f (br q f)=br q f)(t:s_ (h.length+([]:List ww).length) (fy pos (d4 h f)) (lL pos (lM [] f))=true)(o:(i.endLine==pos.line)=true):aF prog w C k f loc (.Call (.Attribute q name i) h [] pos) (M.call m ms):=λA φ s H R G F=>by
 refine Y (Hs _ _ _ _ _ _ _)<|Y n<|z.pS (ho A φ s H R G F) λaf d c j v p=>?_;obtain rfl:=am.gv p;refine z.at_ ?_;have y:tc true q f i pos=pure pos:=by delta tc;simp[o]
 delta Ht;refine Y t<|λr H' e' Q E hQ hE=>ag (da (Uu (XK.keeps j.rel.base) ht hs e hh ?_));refine Y y<|ag (aK ?_);exact um (s:={d with toks:=d.toks+1}) XK hk ha hf R j (F.step v) .nil r H' e' Q E (λl s' b a L G S p=>hQ l s' b a L G (aP.of_same (rfl:ju {d with toks:=d.toks+1} d) S) p) λl s' x e L G F=>hE l s' x e L G (eu.of_same (rfl:ju {d with toks:=d.toks+1} d) F)
noncomputable def Data.cls?(d:Data):=match d with
 | .cls a=>some a
 |_=>none
set_option tactic.hygienic true in
theorem JK(h:Data.cls? d=some a):d=.cls a:=by
 rcases d;case cls c=>refine Y (ao h) ?_;rfl
 all_goals exact ns h
def pU(K:aE)(C:Nat):=(K.lookup C).any λo=>(Data.cls? o.data).any λa=>(λb c=>b==.type "type"&& !a.abstract&& !a.hasDel&&(c.toList[4]?).join==some (.builtin "ValueError.__new__")&& !a.mro.isEmpty&&a.mro.contains (.ref C)&&a.mro.contains (.type "ValueError")&& !a.mro.contains (.type "AttributeError")&& !a.mro.contains (.type "NameError")&&a.mro.contains (.type "BaseException")&&tm K (.ref C) "__call__"==some (some (.builtin "type.__call__"))&&instIn K (.ref C) (.type "type")==some true) o.cls o.slots
structure yI M(h:aW)(C:Nat):Prop where
 obj:∃od cd sl,h.get? C=some ⟨.type "type",od,.cls cd,sl⟩/\cd.abstract=false/\cd.hasDel=false/\cd.mro.isEmpty=false
 made:d5 M h (Bind.madeBy (.ref C)) (some "ValueError.__new__")
 base:d5 M h (Bind.staticBase (.ref C)) (.ref C)
 self:d5 M h (tF (.ref C) (.ref C)) true
 val:d5 M h (tF (.ref C) (.type "ValueError")) true
 rG:d5 M h (tF (.ref C) (.type "AttributeError")) false
 rV:d5 M h (tF (.ref C) (.type "NameError")) false
 uZ:d5 M h (tF (.ref C) (.type "BaseException")) true
 call:d5 M h (specialOf (.ref C) "__call__") (some (.builtin "type.__call__"))
 typ:d5 M h (A8 (.ref C) (.type "type")) true
set_option tactic.hygienic true in
theorem BW{K:aE}{M:kg}(X:K.In h)(e:pU K C=true):yI M h C:=by
 refine vf e λo m e=>vf e λf y e=>?_;obtain⟨oc,od,dt,sl⟩:=o;obtain rfl:dt=.cls f:=JK y;refine Qu e λn p r v j e5 e6 g i H w x=>?_;have n:=bI n;replace p:=nt p;replace r:=nt r;replace v:=bI v;replace j:=nt j;replace g:=nt g;replace i:=nt i;replace w:=bI w;replace x:=bI x;skip;subst n;have L:qr K C=some f:=by delta qr;rw[m]
 have hm:d5 M h (mroOf (.ref C)) f.mro:=(A9 X L).andThen .now;obtain⟨c,l,hl⟩:∃c l,f.mro=c::l:=by cases q:f.mro with|nil=>rw[q]at j;exact tf j|cons c l=>exact(iI c l rfl)
 skip;have d:d5 M h (Bind.madeBy (.ref C)) (some "ValueError.__new__"):=by intro A Q E s k q;skip;refine ag (hm A _ E s k ?_);rw[hl,wI];refine ag (ag (ag (ag (A' (k _ _ (X _ _ m)) (aK ?_)))));skip;rw[<-qp,v];exact aK (aK (aK q))
 have a:∀t b,f.mro.contains t=b->lO K C t=some b:=λt b hb=>by delta lO;rw[L,WJ,if_neg (by rw[j];decide),hb]
 refine⟨(dK od f sl (X _ _ m) p r j),d,?_,n7 X (a _ _ e5),n7 X (a _ _ e6),n7 X (a _ _ g),n7 X (a _ _ i),n7 X (a _ _ H),looks_specialIn X w,looks_instIn X x⟩;intro A Q E s k q;skip;refine ag (hm A _ E s k ?_);rw[hl,wI];exact ag (ag (ag (d A _ E s k (aK (aK (aK q))))))
noncomputable abbrev iK(C T:Nat):Obj:={cls:=.ref C,data:=.fields #[.ref T,.none,.none,.none,.bool false,.none]}
theorem MV{C:fN}{os:OsState}(r:yI (aq prog w) h C)(k:a.length<=bH)(s:R (.ok (.ret (.ref (h.objs.size+1)))) ⟨(h.push {cls:=.type "tuple",data:=.seq a.toArray}).push (iK C h.objs.size),g,d,t,os⟩):eU (aq prog w) A (.call (.builtin "ValueError.__new__") ⟨.ref C::a,[]⟩) R ⟨h,g,d,t,os⟩:=by
 refine bh λH v=>?_;obtain⟨⟨L,Q,sl,o,e1,e2,e4⟩,b,c,q,e,i,j,x,call,y⟩:=r;have F:=H4;refine v<|codeAny_call_builtin_code (W7 _ F.quiet) ?_;have l:=F.noStar;have f:d5 (aq prog w) h (Bind.madeHere "BaseException.__new__" (.ref C)) ():=c.andThen (b.andThen (H5 (by kernel_rfl)));simp only[H0,F.newKind,F.newSplit,F.newRow];repeat(first|with_reducible refine tG o ?_|with_reducible refine Looks.at e ?_|with_reducible refine Looks.at c ?_|with_reducible refine Looks.at b ?_|kernel_rfl|wp_step)
 refine codeAny_builtinAt F.entry<|W8<|(?_);refine W8 (PySem.wpAt_stack λp m=>W9 ?_);have n:=F.ends;wp_walk;refine W9<|Y F.owner ?_;repeat(first|with_reducible refine Looks.at f ?_|with_reducible refine tG o ?_|with_reducible refine Looks.at e ?_|with_reducible refine Looks.at i ?_|with_reducible refine Looks.at j ?_|wp_step)
 refine(?_);exact Y (A4 _ _)<|s
theorem Tk{C:fN}{os:OsState}(n:yI (aq prog w) h C)(j:c.length<=bH)(hi:d5 (aq prog w) h (AX (.ref C) "__init__") (some i))(x:∀f,d5 (aq prog w) h (bindSpecial i f) (i,[f]))(y:eU (aq prog w) (A.under (.builtin "type.__call__" ⟨.ref C::c,[]⟩)) (.call i ⟨.ref (h.objs.size+1)::c,[]⟩) (InitBack (h.objs.size+1) R) ⟨(h.push {cls:=.type "tuple",data:=.seq c.toArray}).push (iK C h.objs.size),g,d,t,os⟩):eU (aq prog w) A (.call (.ref C) ⟨c,[]⟩) R ⟨h,g,d,t,os⟩:=by
 have H:=n;refine bh λR' L=>?_;obtain⟨⟨od,Q,sl,p,e1,e2,e4⟩,q,s,f,af,ai,aj,ap,call,m⟩:=n;refine L<|codeAny_of_tree<|(?_);refine nd_load p<|(?_:aJ _ _ (callAny.viaDunder (.ref C) _) _ _ _);refine ag (call.at ?_);dsimp only;refine Y (tc_bind _)<|ag (aK (ag (aK ?_)));refine aK (a:=Fin.again (.call (.builtin "type.__call__") ⟨.ref C::c,[]⟩)) (And.intro rfl ?_);refine codeAny_call_builtin_at (W7 _ (by decide+kernel)) entry_typeCall (HH tc_kind tc_split m (tc_args _ _ _) ?_);unfold wD.«type.__call__»;have hm:d5 (aq prog w) h (mroOf (.ref C)) Q.mro:=((Bn p).andThen .now).andThen .now;repeat(first|simp only[e4,ko,if_false]|with_reducible refine qh ?_|lk)
 refine MV H j ?_;have k:∀b o,h.get? b=some o->((h.push {cls:=.type "tuple",data:=.seq c.toArray}).push (iK C h.objs.size)).get? b=some o:=λb o e=>cO _ (cO _ e);have hx:((h.push {cls:=.type "tuple",data:=.seq c.toArray}).push (iK C h.objs.size)).get? (h.objs.size+1)=some (iK C h.objs.size):=by heap_get
 have t1:d5 (aq prog w) ((h.push {cls:=.type "tuple",data:=.seq c.toArray}).push (iK C h.objs.size)) (tw (.ref (h.objs.size+1))) (.ref C):=(Bn hx).andThen .now;have s1:=f.keeps k;have i1:=hi.keeps k;have b1:=(x (.ref (h.objs.size+1))).keeps k;unfold A8 callSpecial? specialOf;repeat(first|with_reducible refine qh ?_|lk)
 refine codeAny_mono y λr s' l=>?_;rcases r with e|(v|_|_|_)<;>first|exact l|exact l.elim|skip
 obtain⟨rfl,l⟩:=l;exact aK (aK l)
def M.su(C:Nat)(m:List V->M V)vs:=if vs.length<=100 then((M.alloc (.exc C none false)).bd λa=>(m (a::vs)).bd λr=>match r with
 | .none=>M.ret a
 |_=>M.bad)else M.bad
theorem Tp{K:aE}{f:Nat}(XK:K.In hb)(hm:pU K C=true)(hi:fB K (.ref C) "__init__"=some (some (.ref f)))(hf:typeIn K (.ref f)=some (.type "function"))(L:iN prog w hb k (.ref f) m):iN prog w hb (k+1) (.ref C) (M.su C m):=by intro A φ s H vs t R G hv r H' e RR hQ hE;unfold M.su at e;split at e;rename_i Q;have Xs:=XK.keeps G.rel.base;obtain⟨d,gg,dd,tt,oo⟩:=s;refine Tk (BW Xs hm) (Y hv.length<|Y fA<|aG Q (lb B)) (tx Xs hi) (λaf=>bind_fn Xs af hf)<|Y EV ?_;have kp:∀b o,d.get? b=some o->((d.push {cls:=.type "tuple",data:=.seq t.toArray}).push (iK C d.objs.size)).get? b=some o:=λb o e=>cO _ (cO _ e);have hI:=dZ (d.push {cls:=.type "tuple",data:=.seq t.toArray}) (o:=iK C d.objs.size) rfl;rw[A4]at hI;have S:Step aI φ d (φ++[(d.objs.size+1,d.objs.size+1)]) ((d.push {cls:=.type "tuple",data:=.seq t.toArray}).push (iK C d.objs.size)):=Step.new kp (jd (gS _)) (jd (gS _));have G':Good w hb {A with depth:=A.depth+1,units:=A.units+1} (φ++[(d.objs.size+1,d.objs.size+1)]) (H++[.exc C none false]) ((d.push {cls:=.type "tuple",data:=.seq t.toArray}).push (iK C d.objs.size)):=⟨(G.rel.new kp (gS _) (gS _) (ir rfl _ _ ⟨rfl,λc=>rfl⟩ hI)),λl hl=>(G.dQ l hl).step S⟩;have n:am (φ++[(d.objs.size+1,d.objs.size+1)]) ((d.push {cls:=.type "tuple",data:=.seq t.toArray}).push (iK C d.objs.size)) (.ref H.length) (.ref (d.objs.size+1)):=Good.jm G.rel (d.objs.size+1,d.objs.size+1) _;simp only[M.bd,M.alloc]at e;rcases h:m (.ref H.length::vs) (H++[.exc C none false])with _|a0;rw[h]at e;injection e;obtain⟨ai,aj⟩:=a0;rw[h]at e;have Rm:=(bA (R.1.imp id λh=>an [.lt (.a J (.k 1)) (.k 50)] (.lt J (.k 50)) B h) (by have:=R.2.1;refine(?_);exact aL [.lt (.a J (.m 2 (.a U (.k 1)))) u] (.lt (.a (.a J (.k 1)) (.m 2 U)) u) B this) (by have:=R.2.2.1;refine(?_);exact aL [.lt (.a (.a J (.m 10 (.a U (.k 1)))) (.k 100)) u] (.lt (.a (.a (.a J (.k 1)) (.m 10 U)) (.k 100)) u) B this) R.2.2.2);refine L {A with depth:=A.depth+1,units:=A.units+1} _ ⟨(d.push {cls:=.type "tuple",data:=.seq t.toArray}).push (iK C d.objs.size),gg,dd,tt,oo⟩ _ (.ref H.length::vs) (.ref (d.objs.size+1)::t) Rm G' (.cons _ _ _ _ n (hv.be S)) ai aj h _ (λi j b a hr g q p=>?_) λi j ap av hr g ax=>?_;subst hr;dsimp only at e;revert e;refine am.casesOn p (λe=>?_) (λc e=>ns e) (λc c e=>ns e) (λc c e=>ns e) (λc c c e=>ns e) (λc e=>ns e) (λc c c c c c c e=>ns e) (λc c c c c c c e=>ns e) λc c c c c c e=>ns e;injection e with v;injection v with x y;subst x;subst y;exact⟨rfl,hQ i j _ _ rfl ⟨g.rel,g.dQ⟩ (aP.trans (Step.s S) q) (n.be q.toStep)⟩;subst hr;injection e with v;injection v with x y;subst x;subst y;exact hE i j ap av rfl ⟨g.rel,g.dQ⟩ (ax.after S);injection e
noncomputable def O.raised(ok:Nat->Bool)(H:Hp)(i:Nat)(o:Option O):Option Hp:=match o with
 |some (.exc C d false)=>if ok C then some (H.set i (.exc C d true))else none
 |_=>none
def M.FI(ok:Nat->Bool)(i:Nat):M a:=λH=>(O.raised ok H i H[i]?).map λH'=>(.ex (.ref i),H')
def M.raise(ok:Nat->Bool)(v:V):M a:=M.ref v (M.FI ok)
theorem Mq(e:O.raised ok H i H[i]? =some H'):∃C d,H[i]? =some (.exc C d false)/\ok C=true/\H'=H.set i (.exc C d true):=by rcases hi:H[i]? with _|o;rw[hi]at e;exact ns e;rw[hi]at e;rcases o with _|_|_|⟨C,d,r⟩|_|_|_;exact ns e;exact ns e;exact ns e;rcases r with _|_;have e:=e;exact cU e λa e=>ae (ao e)<|(fU C d rfl (‹_›) rfl);exact ns e;exact ns e;exact ns e;exact ns e
theorem Wb{l:List ay}(h:l.length=6):∃a b c d e f,l=[a,b,c,d,e,f]:=by refine fD (tH h) λa l g=>?_;subst g;refine fD (tH (bX h)) λb l g=>?_;subst g;refine fD (tH (bX (bX h))) λc l g=>?_;subst g;refine fD (tH (bX (bX (bX h)))) λd l g=>?_;subst g;refine fD (tH (bX (bX (bX (bX h))))) λe l g=>?_;subst g;refine fD (tH (bX (bX (bX (bX (bX h)))))) λf l g=>?_;subst g;exact Y (Be.mp (bX (bX (bX (bX (bX (bX h)))))))<|(p7 a b c (p7 d e f rfl))
theorem NQ(g:dG w φ h p (.exc C d false)):∃i vs b,h.get? p.1=some {cls:=.ref C,dict:=i,data:=.fields vs,slots:=b}/\vs.size=6/\vs[1]? =some .none/\dG w φ h p (.exc C d true):=by rcases d with _|j;exact gF g λa vs b c e=>(dK none vs b e c.1 (c.2 rfl) (ir a vs b ⟨c.1,λq=>(tf q)⟩ e));exact xA g λa f=>eJ f λq vs b c k e=>⟨some q.1,vs,b,e,c.1,c.2 rfl,a,q,vs,b,⟨c.1,λq=>(tf q)⟩,k,e⟩
theorem Th(G:Good w hb A φ H s.heap)(hv:am φ s.heap v c)(S:aP ex j k φ s)(h:aN (M.raise ok v H) Q' (EK w hb A ex j k E)):∃(a C:Nat)(m:Option fN)(n o q x4 t:ay)(x:Array (Option ay)),c=.ref a/\ok C=true/\s.heap.get? a=some {cls:=.ref C,dict:=m,data:=.fields #[n,.none,o,q,x4,t],slots:=x}/\E (.ref a) s:=by revert h;refine am.casesOn hv (λh=>h.elim) (λb h=>h.elim) (λb b h=>h.elim) (λb b h=>h.elim) (λi p y h=>?_) (λb h=>h.elim) (λb b b b b b b h=>h.elim) (λb b b b b b b h=>h.elim) λb b b b b b h=>h.elim;refine bh λR' L=>fQ h.ends λr H' e b h2=>?_;have e:=e;refine ad (ij.mp e) λap h1 e=>xA (W_ e) λf Q=>?_;subst f;subst Q;refine fQ (Mq h1) λC d hi af f=>?_;subst f;refine ad (G.rel.objs i _ hi) λp' ai ho=>L ?_;obtain rfl:=ao (y.symm.trans ai);refine bh λR' L=>?_;obtain⟨m,⟨l⟩,x,he,hz,g,aj⟩:=NQ ho;obtain⟨n,x1,o,q,x4,t,rfl⟩:=Wb hz;have g:x1=.none:=ao g;subst g;exact L<|(p7 p.1 C m (p7 n o q (dK x4 t x rfl af he (h2 _ rfl φ s _ ⟨G.rel.upd y (.inl rfl) ⟨rfl,λb b=>rfl⟩ aj,G.dQ⟩ ⟨S,i,p,C,d,rfl,rfl,y,(kN _ _ he rfl (by decide:1<6) (.inl rfl)),Y (wj (bR.mp hi).1) rfl⟩))))
theorem L4{K:aE}(XK:K.In hb)(p:∀C,ok C=true->pU K C=true)(h:aF prog w hb k g loc e m)(hk:50<=k):bP prog w hb k g loc (.Raise (some e) none pos) (m.bd (M.raise ok)) post:=λA φ s H R G F=>z.mk λQ E h'=>by
 refine Y (arm_exec_Raise _ _ _ _)<|ag (jB ?_);refine(?_:aJ _ _ (raiseStmt g (some (do let v <-br e g;standAt pos;pure v)) none) _ _ _);refine ag (ag ((h A φ s H R G F).use (aN.bd h') (λv ap aj i c d b f hv=>ag (jB (aK ?_))) λx H' q=>q.any .refl));refine bh λR' o=>?_;obtain⟨a,C,dd,x0,x2,x3,x4,x5,av,rfl,hc,he,r⟩:=Th b hv f.any d;obtain⟨⟨od,cd,sl,hC,_⟩,j,l,n,t,y,L,af,call,ai⟩:=BW (M:=aq prog w) (XK.keeps b.rel.base) (p C hc);refine o ?_;clear d h' j l n t y L call ai hv b f;refine bh λR' o=>?_;obtain⟨hh,gg,dg,tk,oo⟩:=i;refine o ?_;dsimp only at he hC;repeat(first|with_reducible refine tG he ?_|with_reducible refine tG hC ?_|with_reducible refine Looks.at af ?_|wp_step)
 exact wpAny_raiseNew_none (R.none hk) r
noncomputable abbrev C9(b:aa)(c:aY)(a:Scope)(d:List (aa×fN))(pm e f:ay):Bo:=kla_fn "<lambda>" b ⟨[],[],none,[],[],none,[]⟩ c a d pm e f
structure oR φ(h:aW)(f:Nat)qual body scope cl:Prop where
 at_:∃pm c ct,h.get? f=some {cls:=.type "function",data:=.func (C9 qual body scope cl pm (.ref c) ct)}/\∃oc vs t,h.get? c=some oc/\oc.data=.fields vs/\vs[1]? =some (.str qual t)/\¬Own φ c
 off:¬Own φ f
theorem oR.step(L:oR φ h f b d a n)(S:Step aI φ h g o):oR g o f b d a n:=fW L.at_ λpm c p j i=>jY i λr vs t k l s m=>⟨(k8 pm c p (S.keep f _ j L.off id (.inl λe e q=>(by injection q))) (dK r vs t (S.keep c _ k m id (.inl λe e q=>by rw[l]at q;injection q)) l s (S.ie k m))),S.ie j L.off⟩
theorem MD{pos:fp}(b:pos.line=a.line)(d:pos.col=a.col):codeAmong a [dN pos.line,dN pos.col,c]=some c:=by refine Y b<|Y d ?_;simp[codeAmong,dN]
theorem SD:TriplesOk [dN a,dN b,c]:=by simp[TriplesOk,dN]
theorem DZ{M:kg}{c P j:Nat}(G:Good w hb A φ H s.heap)(f:a0.code=.ref c)(C:CodeHd hb c P)(hH:H[j]? =some (.tab P pos qn))(h1:pos.line=lp.line)(h2:pos.col=lp.col)(h:∀s' c,Good w hb A φ H s'.heap->aP aI φ s φ s'->(∃k vs t,s'.heap.get? c=some k/\k.data=.fields vs/\vs[1]? =some (.str qn t)/\¬Own φ c)->Q (.ref c) s'):aJ M A (functionCode a0 lp n name qn av bc bm) Q E s:=by
 refine bh λR' L=>cT (G.rel.objs j _ hH) λp hp e2 x l=>ad l λps hP a5=>?_;have Cs:=C.keeps G.rel.base;refine L ?_;rw[x]at hP;rcases a5 with rfl|⟨c',vs,t,od,sl,rfl,a6,hv,hn⟩;refine wpAny_functionCodeX f (Cs.code hP trivial) (Cs.tab hP) rfl λc' h' tk hx a7 bv hi ap af v=>bh λR' L=>cT v λP' bx o0 a8 o0=>mz a8 λk vc m a9 r o0=>eZ (id ap) λbs bk vs t q l=>bN l λd g hv=>?_;injection q with a;subst a;refine L ?_;rw[m]at d;injection d with a;subst a;rw[r]at g;injection g with a;subst a;have S:Step aI φ s.heap φ h':=lj.up ⟨⟨[],by simp⟩,λb o e=>by by_cases q:b=P;subst q;exact⟨_,af.2⟩;exact⟨o,hx b o q e⟩,λb o e hn o0=>hx b o (λq=>hn (q▸(x▸(dT hp).1))) e,λo0 q=>.inl q⟩;have ai:=G.rel.gG (jd a7);have a':dG w φ h' p (.tab P pos qn):=by refine(qZ e2 x _ (x▸af.2) (.inr (lu c' vc t k.dict k.slots ?_ (aX ?_ hv ai))));refine Y h1<|Y h2 ?_;rfl;refine Y m ?_;obtain⟨a1,a2,a3,a4⟩:=k;cases a9;cases r;rfl
 have R:Rel w hb φ H h':=by refine⟨λb o e=>S.keep b o (G.rel.base b o e) (G.rel.yf e) id (.inr (G.rel.low b o e)),G.rel.len,λi o e=>?_,G.rel.sep,G.rel.above,G.rel.lo,G.rel.low,G.rel.ne⟩;by_cases q:i=j;subst q;rw[hH]at e;injection e with a;subst a;exact(ak p hp a');refine bh λR' L=>ad (G.rel.objs i o e) λp' aj bb=>?_;have sp:=G.rel.sep i j p' p aj hp q;exact L<|(ak p' aj (bb.step S kH (λob ax=>hx _ _ (λy=>sp.1 (y.trans x.symm)) ax) (λob ax=>hx _ _ (λy=>sp.2.2.1 (y.trans x.symm)) ax)))
 exact h {s with heap:=h',toks:=tk} c' (G.step R S) S (dK k vc t m r hv ai);exact wpAny_functionCode_hit f (Cs.code hP SD) (MD h1 h2) (h s c' G (Step.s .refl) (dK _ vs t a6 rfl hv hn))
theorem VM{M:kg}{c P j:Nat}(G:Good w x A φ H s.heap)(aj:l.globals=f7)(hg:x.Ns f7 mg)(ap:x.BuiltinsAt mg P)(g:l.code=.ref c)(C:CodeHd x c P)(hH:H[j]? =some (.tab P pos qn))(h1:pos.line=lp.line)(h2:pos.col=lp.col)(hq:qn=l.qual++"<lambda>")(av:mO e l=pure cl)(h:∀s' f,Good w x A φ H s'.heap->aP aI φ s φ s'->oR φ s'.heap f qn m e cl->Q (.ref f) s'):aJ M A (br (.Lambda ⟨[],[],none,[],[],none,[]⟩ m e lp) l) Q E s:=by refine kla_eval (by rfl)<|ae hq<|Y (makeFunction_eq _ _ _ _ _ _ _ _ _ _ _) ?_;simp only[Hm,List.filterMap_nil,W',if_true,pure_bind];refine je ap λbm ob L n o0 a1 ax=>cW ax λaf p i k=>?_;unfold makeTail;refine Y av<|Y aj<|ag (aK ?_);have G':=λo=>G.step (G.rel.push o) (Step.push o);have ai:∀(v)(c)(b),Good w x A φ H b.heap->aP aI φ s φ b->(∃oc vs t,b.heap.get? c=some oc/\oc.data=.fields vs/\vs[1]? =some (.str qn t)/\¬Own φ c)->Q (.ref b.heap.objs.size) {b with heap:=b.heap.push {cls:=.type "function",data:=.func (C9 qn m e cl ((mg "__name__").getD .none) (.ref c) v)}}:=λv c b a d y=>fW y λoc vs t a0 r=>h _ _ (a.step (a.rel.push _) (Step.push _)) (d.trans (Step.s (.push _))) ⟨(k8 _ c v (dZ _ rfl) (k8 oc vs t (cO _ a0) r)),a.rel.gG (cA _)⟩;rcases cl with _|⟨q,r⟩;simp only[W',if_true];refine ag (aK ?_);refine ag (DZ G g C hH h1 h2 λb cv a d y=>?_);refine ag (wpAny_builtinsFor (hg.keeps a.rel.base) L n (a.rel.base _ _ af) p i k ?_);refine ag (wpAny_nsGet (hg.keeps a.rel.base) ?_);exact ag (aK (qg (ai _ cv b a d y) (by size_fits)));simp only[List.isEmpty_cons,ko,if_false];refine ag (wpAny_newTextTuple ?_);refine ag (DZ (G' _) g C hH h1 h2 λb cv a d y=>?_);refine ag (wpAny_builtinsFor (hg.keeps a.rel.base) L n (a.rel.base _ _ af) p i k ?_);refine ag (wpAny_nsGet (hg.keeps a.rel.base) ?_);exact ag (aK (qg (ai _ cv b a (aP.trans (Step.s (.push _)) d) y) (by size_fits)))
theorem Rp{L f:Nat}(F:aV A φ j h loc)(T:Taken j C)(H:jt j (jH qn d L f cv C) loc r)(hk:d.kind=.function)(l:∀b o,h.get? b=some o->Q.get? b=some o)(s:Q.Ns L m)(t:¬Own φ L)(w:A.get? L=none):aV A φ (jH qn d L f cv C) Q r:=by refine⟨hk,rfl,rfl,(ak m s (λx v e q=>?_)),λx v e=>?_,λx a e=>?_,T.apart F,t,w⟩;refine cW (H x v e) λo0 o0 g o0=>?_;rcases g with g|g<;>(have i:=ao (g.symm.trans q);injection i);refine cW (H x v e) λh1 g h3 h4=>xE (qf.mp h4) λa ha=>?_;rcases F.kC x v h1 with q|⟨_,a',c,k,⟨o,n,p⟩,hv⟩;rcases g with g|g<;>(have i:=ao (g.symm.trans q);injection i);rw[(T.sub _ (mem_of_lookup ha))]at k;obtain rfl:=ao k;exact .inr (jZ h3 a c ha (ak o (l _ _ n) p) (hv.be (Step.of_keeps l)));exact bN (F.cells x a (T.sub _ (mem_of_lookup e))) λy hn hl=>bZ y λc o n p=>(aX (bQ c o (l _ _ n) p) hn hl)
theorem JY(a8:hb.NoLimit)(R:bw (k+1) A)(G:Good w hb A φ H s.heap)(F:aV hb φ aj s.heap loc)(LA:oR φ s.heap f qn y d Q)(T:Taken aj Q)(hc:∀L cv,jt aj (jH qn d L f cv Q) loc a9)(hk:d.kind=.function)(a':d.isCoroutine=false)(a0:d.isGenerator=false)(ai:∀x∈d.names,x.2≠.cell)(hE:∀L cv,aF prog w hb k (jH qn d L f cv Q) a9 y m)(e:m H=some (r,H'))(hQ:∀i s' b a,r=.ok b->Good w hb A i H' s'.heap->aP aI φ s i s'->am i s'.heap b a->RR (.ok (.ret a)) s')(hX:∀i s' x e,r=.ex x->Good w hb A i H' s'.heap->eu aI φ s i s' H' x e->RR (.error e) s'):eU (aq prog w) A (.call (.ref f) ⟨[],[]⟩) RR s:=by
 refine fW LA.at_ λpm c ct ho bb=>jY bb λoc vs t bc hd hv o0=>xE R.2.2.2 λl hl=>kla_callFunE (by have:=R.2.1;exact aL [.lt (.a J (.m 2 (.a u (.k 1)))) U] (.lt J U) B this) ho rfl a' a0 rfl (pK c oc vs t rfl (aX bc hd hv))<|wpAny_of_eq (a:=[]) rfl<|WS ai (λo0 h=>(f4 h).elim) (λj ap av=>⟨(a8.keeps G.rel.base).fresh _ av,?_⟩) hk;have kp:=λb o e=>av.extBut b o (gN (du e)) (cO _ e);have v:s.heap.get? s.heap.objs.size=none:=cA _;have S0:Step aI φ s.heap φ j:=Step.of_keeps kp;have R0:=G.rel.of_keeps kp;have ax:=G.rel.gG v;refine(?_:eU _ _ (.expr y (jH qn d s.heap.objs.size f (.ref c) Q)) _ _);have G0:Good w hb (A.deeper (jH qn d s.heap.objs.size f (.ref c) Q)) φ H j:=by
  refine⟨R0,λl' bk en af=>?_⟩;have bm:(A.deeper (jH qn d s.heap.objs.size f (.ref c) Q)).frames=some (jH qn d s.heap.objs.size f (.ref c) Q::l):=by refine(?_:A.frames.map _=_);refine Y hl ?_;rfl
  obtain rfl:=ao (bm.symm.trans bk);rcases af with _|⟨_,af⟩;refine eJ ap λo' es ep bs bv o0=>(oX (by refine(?_);refine Y hk ?_;decide) s.heap.objs.size o' rfl bs (iI es ep bv) (bA ax (G.rel.hM v) (G.rel.big (aS _)) G.rel.ne));exact(G.dQ l hl).step S0 en af
 refine kla_codeExpr (hE _ _ _ φ {s with heap:=j,toks:=s.toks+0} H R.deeper G0 (Rp F T (hc _ _) hk kp ap ax (G.rel.hM v)) r H' e _ _ (λg C b a hr n a1 p=>hQ g C b a hr n.up (aP.trans (Step.s S0) a1) p) (λg C a2 a3 hr n a4=>?_));exact Dp hl rfl v (λo0 q=>q.elim) (Step.s S0) (λb=>R0.hM) n a4 λa5 a6 a7=>hX g a5 a2 a3 hr a6 a7
structure jV prog w hb k φ₀(h₀:aW)(f:Nat)(m:M V):Prop where
 obj:∃fd,h₀.get? f=some {cls:=.type "function",data:=.func fd}
 off:¬Own φ₀ f
 run:∀A φ s H,bw k A->Good w hb A φ H s.heap->Step aI φ₀ h₀ φ s.heap->∀r H',m H=some (r,H')->∀RR,
 (∀φ' s' b a,r=.ok b->Good w hb A φ' H' s'.heap->aP aI φ s φ' s'->am φ' s'.heap b a->RR (.ok (.ret a)) s')->
 (∀φ' s' x e,r=.ex x->Good w hb A φ' H' s'.heap->eu aI φ s φ' s' H' x e->RR (.error e) s')->
 eU (aq prog w) A (.call (.ref f) ⟨[],[]⟩) RR s
theorem jV.step(C:jV prog w g k a c f m)(S:Step aI a c b d):jV prog w g k b d f m:=xE C.obj λh e=>⟨⟨h,S.keep f _ e C.off id (.inl λi i q=>(by injection q))⟩,S.ie e C.off,λA φ s H R G j=>C.run A φ s H R G (S.trans j)⟩
theorem jV.of{s:bS}(o:i.NoLimit)(F:aV i φ d s.heap loc)(j:oR φ s.heap f t g a l)(T:Taken d l)(v:∀L n,jt d (jH t a L f n l) loc p)(hk:a.kind=.function)(q:a.isCoroutine=false)(h:a.isGenerator=false)(b:∀x∈a.names,x.2≠.cell)(y:∀L n,aF prog w i k (jH t a L f n l) p g m):jV prog w i (k+1) φ s.heap f m:=⟨fW j.at_ λpm c ct C o0=>⟨_,C⟩,j.off,λA af s' H R G S r H' e RR Q hX=>JY o R G (F.step S) (j.step S) T v hk q h b y e Q hX⟩
theorem RF(R:bw k A)(G:Good w l A φ H s.heap)(F:aV l φ a s.heap loc)(C:jV prog w l k φ s.heap f m)(o:loc.lookup x=some (.g (.ref f)))(t:(x==("__debug__":aa))=false)(v:(x==("__classdict__":aa))=false):z prog w l aI A φ s H (br (.Call (.Name x p) [] [] pos) a) m am:=by
 have n:br (.Call (.Name x p) [] [] pos) a=(do qk pos (<-br (.Name x p) a) [] (fy pos (d4 [] a)) (lL pos (lM [] a))):=by rfl
 refine Y n<|z.pS (Ff o t v A φ s H R G F) λd g c i j q=>?_;rcases q;have b:=C.step j.toStep;exact xE b.obj λfd y=>λr H' e Q E L hE=>wv rfl (λh Xh=>(ak .frame (.inl rfl) ((Bn Xh).andThen .now)))<|evalArgs_nil3 ⟨y,qh (b.run A d g H R i .refl r H' e _ L hE)⟩
def M.told(m:M V):M V:=m.bd λv=>M.ret (.tup [.str "told",v])
theorem K4:M.told m=M.vR [M.ret (.str "told"),m]:=by
 funext H;unfold M.told M.vR M.list M.list M.list M.bd M.ret;dsimp only;rcases m H with _|a;rfl
 ·obtain⟨r,H'⟩:=a;cases r with
 |ok v=>have e:(if[V.str "told",v].length<=bH then M.ret (.tup [.str "told",v])else M.bad:M V)=M.ret (.tup [.str "told",v]):=if_pos (by decide:2<=bH);exact(congrFun e H').symm
 |ex x=>rfl
theorem Ml(R:bw k A)(G:Good w hb A φ H s.heap)(F:aV hb φ l s.heap loc)(C:jV prog w hb k φ s.heap f m)(hx:loc.lookup x=some (.g (.ref f)))(hd:(x==("__debug__":aa))=false)(hc:(x==("__classdict__":aa))=false):z prog w hb aI A φ s H (br (.Tuple [.Constant (.str "told") c cp,.Call (.Name x p) [] [] pos] kk tp) l) (M.told m) am:=by refine Y (arm_eval_Tuple _ _ _ _)<|Y K4<|z.at_<|(?_:z prog w hb aI A φ s H ((br (.Constant (.str "told") c cp) l>>=λa=>nX [a] (br (.Call (.Name x p) [] [] pos) l>>=λb=>nX [b] (pure [])>>=λr=>pure ([b]++r))>>=λr=>pure ([a]++r))>>=λvs=>newTuple vs) _ _);refine z.bd ?_ λn t v a c e g p=>B_ e p;refine(CX A φ s H R G F).bd λn t v a c e g q=>z.bd (z.holding ?_) λo y L b d h j i=>z.pure h (.cons _ _ _ _ (q.be j) i);exact(RF R e (F.step g) (C.step g) hx hd hc).bd λo y L b d h j i=>z.bd (z.holding (z.pure h .nil)) λaj ap av ax a0 Q af ai=>z.pure Q (.cons _ _ _ _ (i.be af) ai)
abbrev Sc:=List (aa×wt)
noncomputable def M.dR{b c:Type}(o:Option b)(f:b->M c)(e:M c):=match o with
 |some a=>f a
 |none=>e
structure Tb where
 gl:aa->Option ay
 tabI:ay->aa->Option V
 nB:ay->aa->Option Bool
 ok:Nat->aa->Bool
 l9:aa->Option ((V->M Unit)×ay)
 pP:ay->aa->Option ay
 exc:Nat->Bool
 met:Nat
 tb:Sc->Option (Nat×Nat×Nat×aa)
structure Mt where
 E:Sc->Loc->aY->M V
 h:V->M V
structure Ev where
 E:Sc->Loc->aY->M V
 T:Sc->Loc->aY->M Bool
 S:Sc->Loc->List fw->M (Out Loc)
def ew(x:aa)(v:V)(l:Loc):Loc:=l.rec [(x,v)] λe r a=>if e.1=x then(x,v)::r else e::a
noncomputable def gy:List aa->List V->Loc->Loc
 |x::xs,v::vs,l=>gy xs vs (ew x v l)
 |_,_,l=>l
noncomputable def p8(n:Nat)(o:Out Loc):Out Loc:=match o with
 | .go l=>.go (l.take n)
 | .ret v=>.ret v
noncomputable def fX(e:aY):=match e with
 | .Starred _ _=>true
 |_=>false
noncomputable def lw(e:aY):=match e with
 | .ListComp _ _ _ _=>true
 | .SetComp _ _ _ _=>true
 | .DictComp _ _ _ _ _=>true
 |_=>false
noncomputable def mU(e:aY):=match e with
 | .Call _ _ _ _=>true
 |_=>false
noncomputable def j8(e:aY):=match e with
 | .Set _ _ _=>true
 |_=>false
noncomputable def AE(e:aY):=match e with
 | .Slice _ _ _ _=>true
 |_=>false
noncomputable def lE(e:aY):=match e with
 | .Name x _=>some x
 |_=>none
noncomputable def z9(a:Arguments):=a.posonlyargs.isEmpty&&a.args.isEmpty&&a.vararg.isNone&&a.kwonlyargs.isEmpty&&a.kw_defaults.isEmpty&&a.kwarg.isNone&&a.defaults.isEmpty
theorem NV(h:z9 a=true):a=⟨[],[],none,[],[],none,[]⟩:=by obtain⟨b,c,d,e,f,g,i⟩:=a;unfold z9 at h;simp only[bO,Xa,Option.isNone_iff_eq_none]at h;obtain⟨⟨⟨⟨⟨⟨rfl,rfl⟩,rfl⟩,rfl⟩,rfl⟩,rfl⟩,rfl⟩:=h;rfl
noncomputable def sW{b:Type}(xs:List b):=match xs with
 |[a]=>some a
 |_=>none
theorem OZ(h:sW xs=some a):xs=[a]:=by
 rcases xs with _|⟨b,_|_⟩
 ·exact ns h
 ·exact congrArg ([·]) (ao h)
 ·exact ns h
theorem PY(h:¬xs.length=1):sW xs=none:=by rcases xs with _|⟨a,_|_⟩;rfl;exact absurd rfl h;rfl
noncomputable def xU{c:Type}(xs:List c):=match xs with
 |[a,b]=>some (a,b)
 |_=>none
theorem Dr(h:xU xs=some q):xs=[q.1,q.2]:=by rcases xs with _|⟨a,_|⟨b,_|_⟩⟩;exact ns h;exact ns h;refine ae (ao h) ?_;rfl;exact ns h
def Ew(e:aY):=match e with
 | .Lambda a c b d=>if z9 a then some (c,b,d)else none
 |_=>none
set_option tactic.hygienic true in
theorem TB(h:Ew e=some q):e=.Lambda ⟨[],[],none,[],[],none,[]⟩ q.1 q.2.1 q.2.2:=by
 rcases e;case Lambda a d b f=>have h:=h;exact cU h λc h=>ae (ao h)<|Y (NV c) rfl
 all_goals exact ns h
set_option tactic.hygienic true in
theorem xM(h:lE e=some x):∃p,e=.Name x p:=by
 rcases e;case Name y p=>exact Y (ao h)<|⟨p,rfl⟩
 all_goals exact ns h
noncomputable def E7(g:H6):=match g.target with
 | .Name y a=>if g.ifs.isEmpty&&g.is_async==0 then some (y,a,g.iter)else none
 |_=>none
set_option tactic.hygienic true in
theorem PM(h:E7 g=some q):g=⟨.Name q.1 q.2.1,q.2.2,[],0⟩:=by
 obtain⟨t,b,cU,a⟩:=g;rcases t;case Name y p=>have h:(if cU.isEmpty&&a==0 then some (y,p,b)else none)=some q:=h;split at h;rename_i c;rw[bO,Xa]at c;exact ae (ao h)<|Y c.1<|Y (bI c.2) rfl;exact ns h
 all_goals exact ns h
def sT(e:aY):=match e with
 | .ListComp c d a b=>(match d with
 |[g]=>(E7 g).map λq=>(c,q,a,b)
 |_=>none)
 |_=>none
set_option tactic.hygienic true in
theorem Kf(h:sT e=some q):e=.ListComp q.1 [⟨.Name q.2.1.1 q.2.1.2.1,q.2.1.2.2,[],0⟩] q.2.2.1 q.2.2.2:=by
 rcases e;case ListComp i a c d=>rcases a with _|⟨g,a⟩;exact ns h;rcases a with _|_;refine ad (ij.mp (h)) λj f b=>?_;subst b;exact Y (PM f) rfl;exact ns h
 all_goals exact ns h
def FO(e:aY):=match e with
 | .Call f a b _=>if b.isEmpty then(lE f).map λc=>(c,a)else none
 |_=>none
set_option tactic.hygienic true in
theorem LI(h:FO e=some q):∃b d,e=.Call (.Name q.1 b) q.2 [] d:=by
 rcases e;case Call f i c p=>rcases c with _|⟨k,c⟩;refine ad (ij.mp (h)) λj g a=>ae a<|xE (xM g) λb a=>?_;subst a;exact(iI b p rfl);exact ns h
 all_goals exact ns h
noncomputable def GI(e:aY):=match e with
 | .Call f _ _ _=>(match f with
 | .Attribute _ name _=>some name
 |_=>none)
 |_=>none
noncomputable def CA(e:aY):=match e with
 | .Tuple vs _ _=>some vs
 |_=>none
def namesOf(a:List aY):Option (List aa):=a.rec (some []) λe c b=>(lE e).bind λx=>b.map (x::·)
noncomputable def kX(T:Tb)(a:Sc)(loc:Loc)(x:aa):=if x=="__debug__"||x=="__classdict__"then none else if(loc.lookup x).isSome then none else if a.lookup x==some .globalImplicit then T.gl x else none
noncomputable def jg(a:Sc)x:=(a.lookup x).any λk=>k==.local||k==.cell
theorem Gq(h:jg a x=true):a.lookup x=some .local\/a.lookup x=some .cell:=vf h λk hk e=>(Hn.mp e).imp (λq=>hk.trans (congrArg some (bI q))) λq=>hk.trans (congrArg some (bI q))
noncomputable def g_(a:Sc)(loc:Loc):Sc->Option Loc
 |[]=>some []
 |p::r=>if p.2=.free then(loc.lookup p.1).bind λv=>if a.lookup p.1=some .cell\/a.lookup p.1=some .free then(g_ a loc r).map λc=>(p.1,v)::c else none else g_ a loc r
def o5(l:List aa):Bool:=l.rec true λx r a=> !r.contains x&&a
def oZ(T:Tb)(s:Scope):=(T.tb s.names).isNone&&s.kind==.function&&o5 (s.names.map (·.1))&&s.names.all λp=>p.2 !=.cell
def w0(a:Operator):=match a with
 | .Add=>some X.add
 | .Sub=>some X.sub
 | .Mult=>some X.mul
 | .FloorDiv=>some X.fdiv
 | .Mod=>some X.fmod
 | .Pow=>some X.pow
 |_=>none
def qT(T:Tb)(a:CmpOp):=match a with
 | .Eq=>X.eq
 | .NotEq=>X.ne
 | .Lt=>X.lt
 | .LtE=>X.le
 | .Gt=>X.gt
 | .GtE=>X.ge
 | .Is=>X.is
 | .IsNot=>X.bV
 | .In=>X.isIn T.nB
 | .NotIn=>X.rR T.nB
def rZ(T:Tb)(a:Sc)(loc:Loc)(x:aa):=if x=="__debug__"||x=="__classdict__"then M.bad else M.dR (loc.lookup x) M.ret<|M.op (kX T a loc x) λc=>M.ret (.g c)
def Ay(c:Const):M V:=match c with
 | .int i=>M.ret (.int i)
 | .none=>M.ret .none
 | .bool b=>M.ret (.bool b)
 | .str s=>M.ret (.str s)
 |_=>M.bad
def vL(r:Ev)(a:Sc)(loc:Loc)(e:Option aY):=match e with
 |some e=>r.E a loc e
 |none=>M.ret .none
def xd(T:Tb)(r:Ev)(a:Sc)(loc:Loc)(v s:aY):=match s with
 | .Slice lo b none _=>M.op (lE v) λc=>M.slice (r.E a loc v) (vL r a loc lo) (vL r a loc b)
 |s=>if AE s then M.bad else M.bin (X.item T.tabI) (r.E a loc v) (r.E a loc s)
def lZ (a : List aY):= a.all (λe => !fX e) && decide (a.length < 30)
def yX(T:Tb)(d:Sc)(loc:Loc)(c:ay)a:=if c==.type "list"then((sW a).bind FO).bind λq=>(xU q.2).bind λb=>if kX T d loc q.1==some (.type "zip")&&[b.1,b.2].all (λe=> !fX e)then some [b.1,b.2]else none else none
noncomputable def gY(r:Ev)(b:Sc)(loc:Loc)(a:List aY):=a.map (r.E b loc)
noncomputable def rz(a:Nat->Bool)(x:V)(H:Hp):=match x with
 | .ref i=>(match H[i]? with
 |some (.exc C _ _)=>a C
 |_=>false)
 |_=>false
def M.met(a:Nat->Bool)(m:M V)(h:V->M V):M V:=λH=>match m H with
 |none=>none
 |some (.ok v,H')=>some (.ok (.tup [.str "told",v]),H')
 |some (.ex x,H')=>if rz a x H' then(match h x H' with
 |some (.ok v,b)=>some (.ok v,b)
 |_=>none)else none
def ul(T:Tb)(c:ay)a:=if c==.ref T.met then(xU a).bind λb=>(lE b.1).bind λw=>(Ew b.2).map λq=>(w,q)else none
noncomputable def O.zn(o:O):=match o with
 | .tab a p q=>some (a,p,q)
 |_=>none
set_option tactic.hygienic true in
theorem tab_of{o:O}(h:o.zn=some b):o=.tab b.1 b.2.1 b.2.2:=by
 rcases o;case tab a p q=>refine ae (ao h) ?_;rfl
 all_goals exact ns h
def M.tabAt(o:Option (Nat×Nat×Nat×aa))(c:fp):=M.op o λt=>M.opt λH=>(H[t.1]?).bind λb=>b.zn.bind λa=>if a.1=t.2.1/\a.2.1.line=c.line/\a.2.1.col=c.col/\a.2.2=t.2.2.2++"<lambda>"then some ()else none
def Am(T:Tb)(s:Scope):=(T.tb s.names).isNone&&s.kind==.function&&o5 (s.names.map (·.1))&&s.names.all (λp=>p.2==.free||p.2==.globalImplicit)&& !s.isGenerator&& !s.isCoroutine
def sR(T:Tb)(hi:Bool)(mt:Option Mt)(c:Sc)(loc:Loc)w b a e:=M.op mt λmt=>M.op (g_ c loc a.names) λd=>if hi&&Am T a then(rZ T c loc w).bd λf=>(M.tabAt (T.tb c) e).bd λf=>M.met T.exc (mt.E a.names d b) mt.h else M.bad
def DQ(T:Tb)(call:ay->Option (List V->M V))(hi:Bool)(mt:Option Mt)(r:Ev)b loc x a:=M.op (kX T b loc x) λc=>if lZ a then M.dR (yX T b loc c a) (λd=>if hi then M.call (F2 X.lS) (gY r b loc d)else M.bad)<|M.dR (ul T c a) (λq=>sR T hi mt b loc q.1 q.2.1 q.2.2.1 q.2.2.2)<|M.op (call c) λm=>M.call m (gY r b loc a)else M.bad
def vt(T:Tb)(call:ay->Option (List V->M V))(r:Ev)(b:Sc)loc o name a:=M.op (T.l9 name) λp=>M.op (call p.2) λm=>M.EA p.1 m (r.E b loc o) (gY r b loc a)
def D2 T call r b loc o name a:=M.dR ((lE o).bind (kX T b loc)) (λc=>M.dR (T.pP c name) (λf=>M.op (call f) λm=>M.call m (gY r b loc a)) (vt T call r b loc o name a)) (vt T call r b loc o name a)
def t9(T:Tb)(call:ay->Option (List V->M V))(hi:Bool)(mt:Option Mt)(r:Ev)(b:Sc)(loc:Loc)(fe:aY)(a:List aY)(pos:fp):=match fe with
 | .Name x _=>DQ T call hi mt r b loc x a
 | .Attribute o name c=>if lZ a&&c.endLine==pos.line&& !mU o then D2 T call r b loc o name a else M.bad
 |_=>M.bad
def po(T:Tb)(hi:Bool)(r:Ev)(g:Sc)(loc:Loc)(e:aY)(b:H6)a:=if hi&&oZ T a&& !j8 b.iter&&b.is_async==0 then M.op (g_ g loc a.names) λd=>(match b.target with
 | .Name x _=>if a.names.lookup x==some .local&&(d.lookup x).isNone then(match b.ifs with
 |[]=>M.yh (r.E g loc b.iter) λv=>r.E a.names ((x,v)::d) e
 |[c]=>M.BX (r.E g loc b.iter) (λv=>r.T a.names ((x,v)::d) c) λv=>r.E a.names ((x,v)::d) e
 |_=>M.bad)else M.bad
 | .Tuple f _ _=>M.op (namesOf f) λxs=>(match b.ifs with
 |[]=>if xs.all (λx=>a.names.lookup x==some .local&&(d.lookup x).isNone)then M.EF xs.length (r.E g loc b.iter) λvs=>r.E a.names ((xs.zip vs).reverse++d) e else M.bad
 |_=>M.bad)
 |_=>M.bad)else M.bad
def be(T:Tb)(call:ay->Option (List V->M V))(hi:Bool)(mt:Option Mt)(r:Ev)(d:Sc)(loc:Loc)(e:aY):=match e with
 | .Name x _=>rZ T d loc x
 | .Constant c _ _=>Ay c
 | .BinOp a k b _=>M.op (w0 k) λf=>M.bin f (r.E d loc a) (r.E d loc b)
 | .UnaryOp .USub a _=>(r.E d loc a).bd X.neg
 | .Compare a [k] [b] _=>if j8 b then M.bad else M.bin (qT T k) (r.E d loc a) (r.E d loc b)
 | .BoolOp .And h _=>if h.all (λe=> !fX e)then M.nP (gY r d loc h)else M.bad
 | .BoolOp .Or h _=>if h.all (λe=> !fX e)then M.np (gY r d loc h)else M.bad
 | .IfExp t a b _=>M.ite (r.T d loc t) (r.E d loc a) (r.E d loc b)
 | .Attribute o name _=>if mU o then M.bad else(r.E d loc o).bd (X.attr T.ok name)
 | .Subscript v s _=>xd T r d loc v s
 | .List h _=>if h.all (λe=> !fX e)then M.BI (gY r d loc h)else M.bad
 | .Tuple h _ _=>if h.all (λe=> !fX e)then M.vR (gY r d loc h)else M.bad
 | .Dict [] [] _=>M.alloc (.dict [])
 | .Call fe j [] pos=>t9 T call hi mt r d loc fe j pos
 | .ListComp l [g] i _=>po T hi r d loc l g i
 |_=>M.bad
def stepT(T:Tb)(r:Ev)(c:Sc)(loc:Loc)(e:aY):=match e with
 | .Compare a [f] [b] _=>if j8 b then M.bad else(M.bin (qT T f) (r.E c loc a) (r.E c loc b)).bd M.truth
 | .UnaryOp .Not a _=>(r.T c loc a).bd λb=>M.ret (!b)
 | .BoolOp .And d _=>M.sC (d.map (r.T c loc))
 | .BoolOp .Or d _=>M.sA (d.map (r.T c loc))
 | .Name _ _=>(r.E c loc e).bd M.truth
 | .Call _ _ _ _=>(r.E c loc e).bd M.truth
 | .Attribute _ _ _=>(r.E c loc e).bd M.truth
 |_=>M.bad
def yi(b:Sc)(xs:List aa)a:=(CA a).all λvs=> !((xs.length==2||xs.length==3)&&vs.length==xs.length)|| !(xs.all λx=>b.lookup x==some .local)
def Fd(a:List aY)(n:Nat):Bool:=a.rec true λe c b=>e.pos.line==n&&b
def xr(c:Sc)(a:List aY)xs b:=(CA b).any λvs=>(a.length==2||a.length==3)&&vs.length==a.length&&vs.all (λe=> !fX e)&&xs.all (λx=>c.lookup x==some .local)&&Fd a ((a.head?.map (·.pos.line)).getD 0)&&o5 xs&&xs.eraseDups.length==xs.length&& !vs.all (foldedForSure 8)&& !vs.all (constantsAlone 8)
noncomputable def sO(c:Sc)(x:aa)(p:fp)(a:Scope)(b:fp):=c.lookup x==some .local&&p.line==b.line&& !(a.names.any λq=>q.1==x&&(q.2==.local||q.2==.cell))
def E0 T hi r b loc x p a:=M.dR (sT a) (λq=>if sO b x p q.2.2.1 q.2.2.2 then po T hi r b loc q.1 ⟨.Name q.2.1.1 q.2.1.2.1,q.2.1.2.2,[],0⟩ q.2.2.1 else M.bad) (if lw a then M.bad else r.E b loc a)
def zT(T:Tb)(hi:Bool)(r:Ev)(b:Sc)(loc:Loc)(d a:aY)(pos:fp):M (Out Loc):=match d with
 | .Name x p=>if jg b x then(E0 T hi r b loc x p a).bd λv=>M.ret (.go (ew x v loc))else M.bad
 | .Attribute o name _=>(r.E b loc a).bd λv=>(r.E b loc o).bd λx=>(X.setAttr T.ok name x v).bd λe=>M.ret (.go loc)
 | .Subscript o i _=>(r.E b loc a).bd λv=>(r.E b loc o).bd λx=>(r.E b loc i).bd λy=>(X.setItem x y v).bd λe=>M.ret (.go loc)
 | .Tuple c _ _=>M.op (namesOf c) λxs=>if hi&& !lw a&&xs.all (jg b)&&(yi b xs a||xr b c xs a)then(r.E b loc a).bd λv=>(M.cM xs.length v).bd λvs=>M.ret (.go (gy xs vs loc))else M.bad
 |_=>M.bad
def vH(hi:Bool)(r:Ev)(e:Sc)(loc:Loc)(g c:aY)(d:List fw):=if hi&& !j8 c then(match g with
 | .Name x _=>if jg e x then M.Cc (r.E e loc c) loc (λl v=>(r.S e (ew x v l) d).bd λo=>M.ret (p8 l.length o))else M.bad
 | .Tuple f _ _=>M.op (namesOf f) λxs=>if xs.all (jg e)then M.dR (GI c) (λname=>if name=="items"&&xs.length==2 then M.Cw (r.E e loc c) loc (λl a b=>(r.S e (gy xs [a,b] l) d).bd λo=>M.ret (p8 l.length o))else M.bad) (M.rL (r.E e loc c) loc (λl v=>(M.cM xs.length v).bd λvs=>(r.S e (gy xs vs l) d).bd λo=>M.ret (p8 l.length o)))else M.bad
 |_=>M.bad)else M.bad
def yE(T:Tb)(hi:Bool)(r:Ev)(d:Sc)(loc:Loc)(st:fw):=match st with
 | .Assign [h] c pos=>zT T hi r d loc h c pos
 | .AugAssign (.Attribute o name _) .Add c _=>(r.E d loc o).bd λx=>(X.attr T.ok name x).bd λi=>(r.E d loc c).bd λv=>(X.iadd i v).bd λj=>(X.setAttr T.ok name x j).bd λk=>M.ret (.go loc)
 | .Expr e _=>if lw e then M.bad else(r.E d loc e).bd λk=>M.ret (.go loc)
 | .Return (some e) _=>(r.E d loc e).bd λv=>M.ret (.ret v)
 | .If t a b _=>M.ite (r.T d loc t) (r.S d loc a) (r.S d loc b)
 | .For h f g [] _=>vH hi r d loc h f g
 | .Raise (some e) none _=>if hi then(r.E d loc e).bd (M.raise T.exc)else M.bad
 |_=>M.bad
def Fr(T:Tb)(hi:Bool)(r:Ev)(b:Sc)(loc:Loc)(a:List fw):M (Out Loc):=match a with
 |[]=>M.ret (.go loc)
 |st::a=>M.sq (yE T hi r b loc st) λl=>r.S b l a
noncomputable def ev(T:Tb)(call:ay->Option (List V->M V))(hi:Bool)(mt:Option Mt):Nat->Ev
 |0=>⟨λa a a=>M.bad,λa a a=>M.bad,λa a a=>M.bad⟩
 |d+1=>⟨be T call hi mt (ev T call hi mt d),stepT T (ev T call hi mt d),Fr T hi (ev T call hi mt d)⟩
structure cq(T:Tb)(sc:Sc)(env:dE):Prop where
 kind:env.scope.kind=.function
 loc:∀x,sc.lookup x=some .local->env.kindOf x=some .local
 D7:∀x,sc.lookup x=some .globalImplicit->env.kindOf x=some .globalImplicit
 cell:∀x,sc.lookup x=some .cell->env.kindOf x=some .cell/\(env.cells.lookup x).isSome=true
 free:∀x,sc.lookup x=some .free->(env.kindOf x=some .cell\/env.kindOf x=some .free)/\(env.cells.lookup x).isSome=true
 code:∀j P c q,T.tb sc=some (j,P,c,q)->env.code=.ref c/\env.qual=q
theorem cq.mT(e:cq T b a)(h:jg b x=true):j6 a x:=(Gq h).imp (e.loc x) (e.cell x)
theorem xK:∀{l},(ew x v l).lookup y=if y=x then some v else l.lookup y:=by
 intro b;induction b with
 |nil=>refine(?_:dY y [(x,v)]=_);rw[dw];by_cases q:y=x;subst q;simp;exact Y (beq_false_of_ne q)<|Y (if_neg q) rfl
 |cons c r d=>obtain⟨a,e⟩:=c;refine(?_:dY y (if a=x then(x,v)::r else(a,e)::ew x v r)=_);by_cases h:a=x;subst h;refine Y (if_pos rfl) ?_;rw[dw,dw];by_cases q:y=a;subst q;simp;exact Y (beq_false_of_ne q)<|Y (if_neg q) rfl;refine Y (if_neg h) ?_;rw[dw,dw];refine Y d ?_;by_cases q:y=a;subst q;simp[h];exact Y (beq_false_of_ne q) rfl
theorem uJ:bt (ew x v l) ((x,v)::l):=λy a e=>by rw[xK]at e;rw[dw];by_cases q:y=x;subst q;simpa using e;refine Y (beq_false_of_ne q) ?_;rwa [if_neg q]at e
theorem bt.trans(h:bt a b)(g:bt b c):bt a c:=λx v e=>g x v (h x v e)
theorem bt.app(h:bt a b):∀c,bt (c++a) (c++b)
 |[]=>h
 |(x,v)::c=>(bt.app h c).keep
theorem we:∀{xs}{vs}{l},bt (gy xs vs l) ((xs.zip vs).reverse++l)
 |[],_,_=>bt.refl
 |_::_,[],_=>bt.refl
 |x::xs,v::vs,l=>(we (vs:=vs)).trans<|Y qt<|Y tz<|Y (cr _ _ _)<|(uJ).app _
theorem J4:bt (l.take n) l:=λx v e=>by induction l generalizing n with
 |nil=>simp at e
 |cons a r b=>rcases n with _|n;simp at e;rw[List.take_succ_cons,dw]at e;rw[dw];split at e;exact e;exact b e
theorem nF:∀{l},o5 l=true->l.Nodup:=by
 intro a;induction a with
 |nil=>exact λ_=>Xb
 |cons x r b=>exact λh=>gd h λc d=>mK.mpr ⟨λq=>tf ((Bp.mpr q).symm.trans (nt c)),b d⟩
set_option tactic.hygienic true in
theorem Aq:∀{c}{xs},namesOf c=some xs->∃b,b.length=xs.length/\c=(xs.zip b).map λq=>gp q.1 q.2:=by
 intro d;induction d with
 |nil=>intro xs h;exact ae (ao h)<|(ak [] rfl rfl)
 |cons e r f=>intro xs h;refine h_ h λx g h=>rh h λys i j=>ae j<|ad (f i) λb k a=>?_;subst a;refine xE (xM g) λp a=>?_;subst a;exact(ak (p::b) (congrArg (·+1) k) rfl)
noncomputable def Out.to(f:b->Loc)(o:Out b):Out Loc:=match o with
 | .go a=>.go (f a)
 | .ret v=>.ret v
theorem aV.lc(F:aV b φ a h l)(q:bt c l):aV b φ a h c:=F.weaken q
theorem cX:aF prog w c k b loc e M.bad:=λa a a a a a a=>z.bad
theorem mw:gc prog w c k b loc e M.bad:=λa a a a a a a=>z.bad
theorem Lg:dm prog w c k b loc e M.bad post:=λa a a a a a a=>z.bad
theorem fj:bP prog w c k b loc e M.bad post:=λa a a a a a a=>z.bad
theorem j7(h:∀a,o=some a->aF prog w c k b loc e (f a)):aF prog w c k b loc e (M.op o f):=by rcases o with _|a;exact cX;exact h a rfl
theorem qS(h:∀a,o=some a->aF prog w c k b loc e (f a))(d:o=none->aF prog w c k b loc e m):aF prog w c k b loc e (M.dR o f m):=by rcases o with _|a;exact d rfl;exact h a rfl
theorem F_(h:∀a,o=some a->bP prog w c k b loc e (f a) post):bP prog w c k b loc e (M.op o f) post:=by rcases o with _|a;exact fj;exact h a rfl
theorem Qs(h:∀a,o=some a->bP prog w c k b loc e (f a) post)(d:bP prog w c k b loc e m post):bP prog w c k b loc e (M.dR o f m) post:=by rcases o with _|a;exact d;exact h a rfl
theorem xc[Decidable c](h:¬c->aF prog w b k a loc e m):aF prog w b k a loc e (if c then M.bad else m):=by by_cases q:c;exact Y (if_pos q)<|cX;exact Y (if_neg q)<|h q
theorem Iv[Decidable c](h:¬c->bP prog w b k a loc e m post):bP prog w b k a loc e (if c then M.bad else m) post:=by by_cases q:c;exact Y (if_pos q)<|fj;exact Y (if_neg q)<|h q
theorem jn[Decidable c](h:c->aF prog w b k a loc e m):aF prog w b k a loc e (if c then m else M.bad):=by by_cases q:c;exact Y (if_pos q)<|h q;exact Y (if_neg q)<|cX
theorem m_[Decidable c](h:c->bP prog w b k a loc e m post):bP prog w b k a loc e (if c then m else M.bad) post:=by by_cases q:c;exact Y (if_pos q)<|h q;exact Y (if_neg q)<|fj
theorem dm.le(h:dm prog w b k a c e m post)(q:bt c l):dm prog w b k a l e m post:=λA φ s H R G F=>h A φ s H R G (F.lc q)
theorem bP.go{st:fw}(h:bP prog w hb k q loc st m post)(hf:∀a,bt (f a) (post a))(hm:m'=m.bd λo=>M.ret (o.to f)):bP prog w hb k q loc st m' (λl=>l):=λA φ s H R G F=>by refine Y hm ?_;intro r H' e Q E L hE;rcases M.GL e with⟨o,af,n,e2⟩|⟨x,n,rfl⟩;refine h A φ s H R G F _ _ n Q E (λg s' b a i j S' p=>?_) (λc c c c i c c=>(by injection i));injection i with d;subst d;injection e2 with d;injection d with t C;subst t;subst C;rcases o with b|v;exact L g s' _ a rfl j S' ⟨p.1,p.2.lc (hf b)⟩;exact L g s' _ a rfl j S' p;exact h A φ s H R G F _ _ n Q E (λc c c c i c c c=>(by injection i)) (λg s' y e i j F'=>hE g s' y e (by injection i with d;refine Y d ?_;rfl) j F')
theorem CG(h:fX e=false):d4 (e::b) a=(false,br e a)::d4 b a:=by rcases e<;>first|rfl|exact tf h
theorem Sa:∀{a},(∀e,aF prog w c k b loc e (f e))->a.all (λe=> !fX e)=true->db prog w c k b loc a (a.map f):=by
 intro d;induction d with
 |nil=>exact λ_ _=>.nil
 |cons e a g=>intro h q;rw[AK,bO,mF]at q;exact .cons (h e) (g h q.2) (CG q.1)
theorem G7:∀{a},(∀e,gc prog w c k b loc e (f e))->jW prog w c k b loc a (a.map f):=by
 intro d;induction d with
 |nil=>exact λ_=>.nil
 |cons e a g=>exact λh=>.cons (h e) (g h)
theorem FE(h : lZ a = true) : s_ (a.length + ([] : List ww).length) (fy pos (d4 a c)) (lL pos (lM [] c)) = true := by
  unfold lZ at h
  rw [bO] at h
  have : ∀ {b}, b.all (λe => !fX e) = true -> (fy pos (d4 b c)).all (λx => !x.1) = true := by
    intro b
    induction b with
    | nil => intro _; rfl
    | cons e b d =>
      intro q
      rw [AK, bO, mF] at q
      exact Y (CG q.1)<|d q.2
  unfold s_
  refine Y (this h.1) ?_
  skip
  refine (?_ : (true && true && decide (a.length + 0 + 0 < 30)) = true)
  simpa using (of_decide_eq_true h.2)
theorem xJ(h:mU o=false):ql o name a (br o a)=br o a:=by rcases o<;>first|rfl|exact tf h
theorem nS(h:j8 e=false)x:mN e a x=pure x:=by rcases e<;>first|rfl|exact tf h
theorem EB(h:j8 e=false):Hr a e=false:=by rcases e<;>first|rfl|injection h
theorem Cj(h:lw e=false):wG e t n a=pure false:=by rcases e<;>first|rfl|exact tf h
theorem Cy(h:lE e=some x):∃p,e=.Name x p:=by rcases e<;>first|exact ns h;done|exact Y (ao h)<|⟨_,rfl⟩
structure fR prog w hb(K:aE)(T:Tb):Prop where
 XK:K.In hb
 gl:∀x c,T.gl x=some c->(x==("__debug__":aa))=false->∀k env loc pos,env.kindOf x=some .globalImplicit->aF prog w hb k env loc (.Name x pos) (M.ret (.g c))
 tabI:vk prog w hb T.tabI
 nB:pe prog w hb T.nB
 ok:∀C n,T.ok C n=true->attrOk K C n=true
 l9:∀name bY f,T.l9 name=some (bY,f)->dH prog w hb name bY f
 pP:∀c name f,T.pP c name=some f->∀k env loc oe apos pos args ms m,gW K f->aF prog w hb k env loc oe (M.ret (.g c))->
 db prog w hb k env loc args ms->ck prog w hb k f m->ql oe name env (br oe env)=br oe env->
 s_ (args.length+([]:List ww).length) (fy pos (d4 args env)) (lL pos (lM [] env))=true->(apos.endLine==pos.line)=true->
 aF prog w hb k env loc (.Call (.Attribute oe name apos) args [] pos) (M.call m ms)
 exc:∀C,T.exc C=true->pU K C=true
structure fL prog w hb k tt(r:Ev):Prop where
 E:∀sc env loc e,cq tt sc env->aF prog w hb k env loc e (r.E sc loc e)
 T:∀sc env loc e,cq tt sc env->gc prog w hb k env loc e (r.T sc loc e)
 S:∀sc env loc ss,cq tt sc env->dm prog w hb k env loc ss (r.S sc loc ss) (λl=>l)
def lW(prog:dO)(w:cN)(a:aW)(K:aE)(k:Nat)(call:ay->Option (List V->M V)):=∀f m,call f=some m->ck prog w a k f m/\gW K f
def kY(prog:dO)(w:cN)(f:aW)(K:aE)k T hi mt:=∀(g)(e)(loc)(c)(x)(p pos)(b)(h)(d)(a)(i),cq T g e->aF prog w f k e loc (.Name x p) (M.ret (.g c))->ul T c b=some (h,d,a,i)->aF prog w f k e loc (.Call (.Name x p) b [] pos) (sR T hi mt g loc h d a i)
theorem dunder(h:¬(x==("__debug__":aa)||x==("__classdict__":aa))=true):(x==("__debug__":aa))=false/\(x==("__classdict__":aa))=false:=by rw[gR,not_or]at h;exact⟨mL.mpr h.1,mL.mpr h.2⟩
theorem vp{K:aE}(b:fR prog w d K T)(e:cq T f a)(h:kX T f loc x=some c):aF prog w d k a loc (.Name x pos) (M.ret (.g c)):=DC h λg h=>DC h λi h=>cU h λq h=>b.gl x c h (dunder g).1 k a loc pos (e.D7 x (bI q))
set_option tactic.hygienic true in
theorem DR{K:aE}(d:fR prog w e K T)(f:cq T g a):aF prog w e k a loc (.Name x pos) (rZ T g loc x):=xc λb=>qS (λv h=>Ff h (dunder b).1 (dunder b).2) λj=>j7 λc i=>vp d f i
set_option tactic.hygienic true in
theorem Mp:aF prog w d k a loc (.Constant c kk pos) (Ay c):=by
 rcases c;case int i=>exact Kp
 case none=>exact SX
 case bool b=>exact Rx
 case str x=>exact CX
 all_goals exact cX
theorem Kt(h:w0 a=some f):dA prog w b k (iV a) f:=by rcases a<;>first|exact ns h;done|refine ae (ao h) ?_;first|exact IW|exact Uh|exact M3|exact Nq|exact JD|exact TL
theorem EU{K:aE}(b:fR prog w c K T)a:dA prog w c k (gQ a) (qT T a):=by
 rcases a;case Eq=>exact Of
 case NotEq=>exact MK
 case Lt=>exact OS
 case LtE=>exact PT
 case Gt=>exact JC
 case GtE=>exact Ts
 case Is=>exact RI
 case IsNot=>exact Vm
 case In=>exact Mb b.nB
 case NotIn=>exact Ms b.nB
theorem Fw(c:fL prog w d k T r)(f:cq T b a):rE prog w d k a loc e (vL r b loc e):=by rcases e with _|e;exact Sm;exact Ru (c.E b a loc e f)
set_option tactic.hygienic true in
theorem R4{K:aE}(l:fR prog w g K T)(e:fL prog w g k T r)(f:cq T b a):aF prog w g k a loc (.Subscript v s pos) (xd T r b loc v s):=by
 have i:AE s=false->aF prog w g k a loc (.Subscript v s pos) (M.bin (X.item T.tabI) (r.E b loc v) (r.E b loc s)):=λh=>J2 l.tabI (e.E b a loc v f) (e.E b a loc s f) (by intro c d;rcases s<;>first|rfl|exact tf h);rcases s;case Slice lo o st p=>rcases st with _|_;exact j7 λx m=>xE (Cy m) λp j=>Y j<|NL (e.E b a loc _ f) (Fw e f) (Fw e f) (λn n=>rfl);exact cX
 all_goals exact i rfl
theorem lY(d:fL prog w f k T r)(g:cq T b a)(h:c.all (λe=> !fX e)=true):db prog w f k a loc c (gY r b loc c):=Sa (λe=>d.E b a loc e g) h
theorem T'(h:yX T i loc c f=some j):c=.type "list"/\∃d p a b g,f=[.Call (.Name d p) [a,b] [] g]/\j=[a,b]/\kX T i loc d=some (.type "zip")/\[a,b].all (λe=> !fX e)=true:=cU h λk h=>h_ h λq l h=>h_ l λe m hz=>h_ h λd n h=>cU h λo r=>fD (LI hz) λg s t=>gd o λv w=>⟨bI k,lu q.1 g d.1 d.2 s ((OZ m).trans (congrArg ([·]) (t.trans (Y (Dr n) rfl)))) ⟨(ao r).symm,bI v,w⟩⟩
set_option tactic.hygienic true in
theorem MC{K:aE}{call:ay->Option (List V->M V)}{mt:Option Mt}(A:kY prog w g K k T hi mt)(h:fR prog w g K T)(C:lW prog w g K k call)(hk:hi=true->50<=k)(v:fL prog w g k T r)(e:cq T y f):aF prog w g k f loc (.Call (.Name x p) d [] pos) (DQ T call hi mt r y loc x d):=by refine j7 λc H=>?_;have i:=vp (k:=k) (pos:=p) h e H;refine jn λL=>qS (λas hz=>jn λQ=>?_) λo0=>qS (λq=>A y f loc c x p pos d q.1 q.2.1 q.2.2.1 q.2.2.2 e i) λo0=>j7 λm hm=>xA (C c m hm) λh1 h2=>KT h.XK i h2 (lY v e (iO.mp L).1) h1 (by rfl);refine xA (T' hz) λj l=>?_;subst j;refine ji l λaf pz a b p1 n o=>?_;subst n;refine xA o λs t=>?_;subst s;exact xA t λhz hs=>O2 h.XK i (vp h e hz) (lY v e hs) (by rfl) (by rfl) (hk Q)
set_option tactic.hygienic true in
theorem Sg{K:aE}{call:ay->Option (List V->M V)}(d:fR prog w c K T)(i:lW prog w c K k call)(e:fL prog w c k T r)(f:cq T g b)(h:lZ a=true)(j:(l.endLine==pos.line)=true)(n:mU o=false):aF prog w c k b loc (.Call (.Attribute o name l) a [] pos) (vt T call r g loc o name a):=j7 λp q=>j7 λm s=>xA (i p.2 m s) λt v=>Md d.XK (e.E g b loc o f) (d.l9 name p.1 p.2 q) v (lY e f (iO.mp h).1) t (xJ n) (FE h) j
set_option tactic.hygienic true in
theorem SV{K:aE}{call:ay->Option (List V->M V)}(d:fR prog w e K T)(i:lW prog w e K k call)(j:fL prog w e k T r)(g:cq T t b)(h:lZ a=true)(l:(n.endLine==pos.line)=true)(q:mU o=false):aF prog w e k b loc (.Call (.Attribute o name n) a [] pos) (D2 T call r t loc o name a):=by have s:=Sg d i j g h l q (name:=name) (loc:=loc);refine qS (λc v=>qS (λf y=>j7 λm A=>xA (i f m A) λC H=>h_ v λx L Q=>xE (Cy L) λp ep=>?_) λo0=>s) λo0=>s;subst ep;exact d.pP c name f y k b loc _ n pos a _ m H (vp d g Q) (lY j g (iO.mp h).1) C (xJ q) (FE h) l
set_option tactic.hygienic true in
theorem IT{K:aE}{call:ay->Option (List V->M V)}{mt:Option Mt}(i:kY prog w b K k T hi mt)(d:fR prog w b K T)(e:lW prog w b K k call)(hk:hi=true->50<=k)(f:fL prog w b k T r)(g:cq T j c):aF prog w b k c loc (.Call fe a [] pos) (t9 T call hi mt r j loc fe a pos):=by
 rcases fe;case Name x p=>exact MC i d e hk f g
 case Attribute o name l=>unfold t9;dsimp only;refine jn λh=>?_;rw[bO,bO,mF]at h;exact SV d e f g h.1.1 h.1.2 h.2
 all_goals exact cX
def gE(c:dE)(a:Sc):List (aa×fN)->List (aa×fN):=a.rec id λp e d b=>if p.2==.free then d ((p.1,(c.cells.lookup p.1).getD 0)::b)else d b
theorem r8{r:Sc}:gE a (p::r) b=if p.2==.free then gE a r ((p.1,(a.cells.lookup p.1).getD 0)::b)else gE a r b:=rfl
theorem Sk:∀c,(∀p∈b,p.2=.free->(d.cells.lookup p.1).isSome=true)->(forIn b c (λp f=>(if p.2==.free then(do let a <-cellOf d p.1;pure (qy ((p.1,a)::f)))else pure (qy f):a_ (ForInStep (List (aa×fN))))))=(pure (gE d b c):a_ (List (aa×fN))):=by induction b with
 |nil=>intro c h;rfl
 |cons p r g=>
 intro c h;rw[wI,r8];by_cases q:p.2=.free;have:=h p (.head _) q;refine xE (qf.mp this) λa i=>?_;have j:cellOf d p.1=pure a:=by unfold cellOf;rw[i]
 rw[if_pos (by rw[q];rfl),if_pos (by rw[q];rfl),j,i];exact g _ λp e=>h p (.tail _ e);rw[if_neg (by simpa using q),if_neg (by simpa using q)];exact g _ λp e=>h p (.tail _ e)
theorem P6(h:∀p∈a.names,p.2=.free->(b.cells.lookup p.1).isSome=true):mO a b=pure (gE b a.names []):=congrArg (λt=>t>>=λr=>pure r) (Sk [] h)
theorem Li:∀{a}{b},p∈gE f a b->p∈b\/((p.1,gq)∈a/\p.2=(f.cells.lookup p.1).getD 0):=by
 intro i;induction i with
 |nil=>intro _ h;exact .inl h
 |cons q r g=>intro b h;rw[r8]at h;by_cases e:q.2=.free;rw[if_pos (by refine Y e ?_;rfl)]at h;rcases g h with h|⟨c,d⟩;rcases ca.mp h with rfl|h;exact .inr ⟨ae e<| .head _,rfl⟩;exact .inl h;exact .inr ⟨.tail _ c,d⟩;rw[if_neg (by simpa using e)]at h;rcases g h with h|⟨c,d⟩;exact .inl h;exact .inr ⟨.tail _ c,d⟩
theorem IY:∀{b}{a},p∈a->p∈gE e b a:=by
 intro d;induction d with
 |nil=>intro _ h;exact h
 |cons q r c=>intro a h;refine Y r8 ?_;split;exact c (.tail _ h);exact c h
theorem KB:∀{b}{c},(x,gq)∈b->∃a,(x,a)∈gE e b c:=by
 intro b;induction b with
 |nil=>intro c h;rcases h
 |cons q r d=>intro c h;refine Y r8 ?_;rcases ca.mp h with rfl|h;exact Y (if_pos (rfl))<|⟨_,IY (.head _)⟩;split;exact d h;exact d h
theorem KH:∀{a}{b},(b.map (·.1)).Nodup->(a.map (·.1)).Nodup->(∀p∈b,p.1∉a.map (·.1))->((gE l a b).map (·.1)).Nodup:=by
 intro k;induction k with
 |nil=>intro _ h _ _;exact h
 |cons q r i=>intro b h f j;rw[kn,mK]at f;have d:=λp c g=>j p c (.tail _ g);refine Y r8 ?_;split;refine i (mK.mpr ⟨λg=>?_,h⟩) f.2 λp c=>?_;exact ad (ig.mp g) λp c e=>j p c (Y e<| .head _);rcases ca.mp c with rfl|c;exact f.1;exact d p c;exact i h f.2 d
theorem wb{g:Type}{b:g}{l:List (aa×g)}(a:(l.map (·.1)).Nodup)(h:(x,b)∈l):l.lookup x=some b:=by induction l with
 |nil=>rcases h
 |cons p r i=>obtain⟨y,c⟩:=p;rw[kn,mK]at a;rw[dw];rcases ca.mp h with e|h;injection e with d f;refine Y d<|Y f ?_;simp;have:x≠y:=λe=>a.1 (e▸ig.mpr (ak (x,b) h rfl));exact Y (beq_false_of_ne this)<|i a.2 h
theorem CP{loc:Loc}{b:Sc}{a:Sc}:∀{f},g_ b loc a=some f->(∀y v,f.lookup y=some v->(y,gq)∈a/\loc.lookup y=some v)/\∀y,(y,gq)∈a->b.lookup y=some .cell\/b.lookup y=some .free:=by induction a with
 |nil=>intro f h;exact ae (ao h)<|⟨λy v h=>by simp at h,λy h=>by rcases h⟩
 |cons p r A=>
  intro f h;obtain⟨d,o⟩:=p;have j:o≠.free->g_ b loc r=some f->(∀y v,f.lookup y=some v->(y,gq)∈(d,o)::r/\loc.lookup y=some v)/\∀y,(y,gq)∈(d,o)::r->b.lookup y=some .cell\/b.lookup y=some .free:=λC h=>by refine xA (A h) λk s=>⟨λy v e=>⟨.tail _ (k y v e).1,(k y v e).2⟩,λy g=>?_⟩;rcases ca.mp g with e|g;(injection e with i n;refine Y i ?_;subst n);exact absurd rfl C;exact s y g
  have this:∀v c,loc.lookup d=some v->(b.lookup d=some .cell\/b.lookup d=some .free)->g_ b loc r=some c->(∀y l,((d,v)::c).lookup y=some l->(y,gq)∈(d,gq)::r/\loc.lookup y=some l)/\∀y,(y,gq)∈(d,gq)::r->b.lookup y=some .cell\/b.lookup y=some .free:=λv c t m w=>by refine xA (A w) λk s=>⟨λy l e=>?_,λy g=>?_⟩;by_cases q:y=d;subst q;simp only[lK,s9]at e;exact ae e<|⟨.head _,t⟩;rw[dw,beq_false_of_ne q]at e;exact⟨.tail _ (k y l e).1,(k y l e).2⟩;rcases ca.mp g with e|g;(injection e with i n;refine Y i ?_);exact m;exact s y g
  by_cases hk:o=.free;subst hk;have h:(loc.lookup d).bind (λv=>if b.lookup d=some .cell\/b.lookup d=some .free then(g_ b loc r).map λc=>(d,v)::c else none)=some f:=h;refine ad (ii.mp h) λv t h=>?_;by_cases m:b.lookup d=some .cell\/b.lookup d=some .free;(refine ad (ij.mp ((if_pos m).symm.trans h)) λc w x=>ae x ?_);exact this v c t m w;exact ns ((if_neg m).symm.trans h);exact j hk ((if_neg hk).symm.trans h)
theorem FD{b:dE}:∀{a:Sc},(a.map λ(n,k)=>if(k==gq&&b.scope.kind==.function&&b.kindOf n==some .cell)then(n,H7)else(n,k)).lookup x=(a.lookup x).map λk=>if(k==gq&&b.scope.kind==.function&&b.kindOf x==some .cell)then H7 else k:=by
 intro a;induction a with
 |nil=>rfl
 |cons p r c=>obtain⟨n,d⟩:=p;refine(?_:dY x ((if(d==gq&&b.scope.kind==.function&&b.kindOf n==some .cell)=true then(n,H7)else(n,d))::_)=_);by_cases q:x=n;refine Y q ?_;split;rename_i h;rw[lK,lK];exact Y (Ba _ _)<|Y (if_pos h) rfl;rename_i h;rw[lK,lK];exact Y (Ba _ _)<|Y (if_neg h) rfl;split;rw[dw,dw];exact Y (beq_false_of_ne q)<|c;rw[dw,dw];exact Y (beq_false_of_ne q)<|c
structure I5 T env loc aB scope cl:Prop where
 rk:mO scope env=pure cl
 taken:Taken env cl
 aB:∀C,jt env (dz scope cl C env) loc aB
 names:∀x∈scope.names,x.2=.local->scope.names.lookup x.1=some .local
 cell:∀x∈scope.names,x.2≠.cell
 kind:scope.kind=.function
 env:∀C,cq T scope.names (dz scope cl C env)
theorem yS(o:cq T Q d)(h:oZ T b=true)(hc:g_ Q loc b.names=some A):I5 T d loc A b (gE d b.names []):=by
 unfold oZ at h;refine o6 h λH n h2 h3=>?_;have n:=of_decide_eq_true n;have r:=nF h2;have L:∀x∈b.names,x.2≠.cell:=λx s e=>by have:=c0.mp h3 x s;rw[e]at this;exact ft this
 refine xA (CP hc) λc1 c2=>?_;have f:∀y,(y,gq)∈b.names->(d.kindOf y=some .cell\/d.kindOf y=some .free)/\(d.cells.lookup y).isSome=true:=λy i=>by rcases c2 y i with q|q;exact⟨.inl (o.cell y q).1,(o.cell y q).2⟩;exact o.free y q
 have l:((gE d b.names []).map (·.1)).Nodup:=KH (by simp) r (λp k=>by rcases k);have m:∀y,(y,gq)∈b.names->((gE d b.names []).lookup y).isSome=true:=λy i=>xE (KB i) λa t=>Y (wb l t) ?_;rfl;have g:∀C y,(y,gq)∈b.names->(dz b (gE d b.names []) C d).kindOf y=some .cell\/(dz b (gE d b.names []) C d).kindOf y=some .free:=λC y i=>by refine(?_:dY y (Bm _ b.names)=_\/dY y (Bm _ b.names)=_);refine Y FD<|Y (wb r i)<|Y (Ba _ _) ?_;split;exact .inl rfl;exact .inr rfl
 refine⟨P6 λp k e=>(f p.1 (ae e<|k)).2,⟨λp k=>?_,l⟩,λC y v e=>?_,λx s e=>wb r (ae e<|s),L,n,λC=>⟨n,λx q=>tD q,λx q=>?_,λx q=>?_,λx q=>?_,λj P c q e=>by rw[e]at H;exact ft H⟩⟩;rcases Li k with q|⟨q1,q2⟩;rcases q;refine xE (qf.mp (f _ q1).2) λa t=>Y q2<|Y t ?_;rfl;exact xA (c1 y v e) λw m2=>(bA m2 ((f y w).1) (g C y w) (m y w));refine(?_:dY x (Bm _ b.names)=_);refine Y FD<|Y q ?_;rfl;exact absurd rfl (L _ (mem_of_lookup q));exact⟨g C x (mem_of_lookup q),m x (mem_of_lookup q)⟩
theorem tX:∀{a},a.length=xs.length->(∀x∈xs,j6 b x)->Stores prog w b xs ((eV ((xs.zip a).map λq=>gp q.1 q.2) b).map (·.2)):=by induction xs with
 |nil=>intro a d h;rcases a<;>first|exact .nil|cases d
 |cons x xs e=>intro a d h;rcases a with _|⟨p,a⟩;injection d;exact .cons (h x (.head _)) (λc A s Q E q=>ag (jB q)) (e (by simpa using d) λy f=>h y (.tail _ f))
theorem uB{xs:List aa}:∀{a},(eV ((xs.zip a).map λq=>gp q.1 q.2) c).findIdx? (·.1)=none:=by induction xs with
 |nil=>intro a;rfl
 |cons x xs b=>intro a;rcases a with _|⟨p,a⟩;rfl;refine(?_);refine Y (AW)<|(?_);refine Y b ?_;rfl
theorem T6{xs:List aa}{vs:List V}(h:∀x∈xs,a.lookup x=none):bt a ((xs.zip vs).reverse++a):=λy c e=>by induction xs generalizing vs with
 |nil=>exact e
 |cons x xs d=>
 rcases vs with _|⟨v,vs⟩;exact e;refine Y qt<|Y tz<|Y (cr _ _ _) ?_;have:bt a ((x,v)::a):=λb t q=>by by_cases e:b=x;subst e;exact ns ((h b (.head _)).symm.trans q);rw[dw];exact Y (beq_false_of_ne e)<|q
 exact(this.app ((xs.zip vs).reverse)) y c (d (λb hz=>h b (.tail _ hz)))
set_option tactic.hygienic true in
theorem UP{K:aE}(TO:fR prog w Q K T)(hk:hi=true->50<=k)(i:fL prog w Q k T r)(s:cq T t e):aF prog w Q k e loc (.ListComp f [g] a pos) (po T hi r t loc f g a):=by
 refine jn λh=>o6 h λy h2 m A=>j7 λo hc=>?_;replace m:=nt m;have b:=yS s h2 hc;obtain⟨tg,d,cU,H⟩:=g;have A:H=0:=by simpa using A
 refine Y A ?_;rcases tg;case Name x px=>
  dsimp only;refine jn λn=>?_;rw[bO]at n;have p:a.names.lookup x=some .local:=by simpa using n.1
  have q:o.lookup x=none:=by simpa using n.2
  rcases cU with _|⟨c,_|_⟩;exact Vq (i.E t e loc d s) b.rk b.taken b.aB p q (λC v=>i.E a.names _ _ f (b.env C)) b.names b.cell b.kind (nS m) (hk y);exact J_ (i.E t e loc d s) b.rk b.taken b.aB p q (λC v=>i.T a.names _ _ c (b.env C)) (λC v=>i.E a.names _ _ f (b.env C)) b.names b.cell b.kind (nS m) (hk y);exact cX
 case Tuple af kk px=>
  refine j7 λxs L=>?_;rcases cU with _|⟨c,cU⟩;refine jn λn=>?_;obtain⟨ps,hl,rfl⟩:=Aq L;have l:∀x∈xs,a.names.lookup x=some .local/\o.lookup x=none:=λx j=>by have:=c0.mp n x j;rw[bO]at this;exact⟨by simpa using this.1,by simpa using this.2⟩
  exact RY (i.E t e loc d s) b.rk b.taken b.aB (λC=>tX hl λx j=>.inl (tD (l x j).1)) (λC=>uB) (λx j=>(l x j).1) (λvs=>T6 λx j=>(l x j).2) (λC vs=>i.E a.names _ _ f (b.env C)) b.names b.cell b.kind (nS m) (hk y);exact cX
 all_goals exact cX
set_option tactic.hygienic true in
theorem JJ{K:aE}{call:ay -> Option (List V -> M V)}{mt:Option Mt}(Q : kY prog w q K k T hi mt) (m : fR prog w q K T) (CO : lW prog w q K k call) (hk : hi = true -> 50 <= k) (j : fL prog w q k T r) (i : cq T l d)e: aF prog w q k d loc e (be T call hi mt r l loc e) := by
  rcases e
  case Name x p => exact DR m i
  case Constant c kk p => exact Mp
  case BinOp a n b p =>
    exact j7 λf hf => TV (j.E l d loc a i) (j.E l d loc b i) (Kt hf)
  case UnaryOp n a p =>
    rcases n
    case USub => exact T3 (j.E l d loc a i)
    all_goals exact cX
  case Compare a y bs p =>
    rcases y with _ | ⟨n, _ | _⟩
    · exact cX
    · rcases bs with _ | ⟨b, _ | _⟩
      · exact cX
      · exact xc λh => Ub (j.E l d loc a i) (j.E l d loc b i) (EU m n) (EB (mL.mpr h))
      · exact cX
    · exact cX
  case BoolOp n H p =>
    rcases n
    case And =>
      unfold be
      dsimp only
      refine jn λh => ?_
      · exact UY (lY j i h)
    case Or =>
      unfold be
      dsimp only
      refine jn λh => ?_
      · exact OF (lY j i h)
  case IfExp t a b p => exact Vz (j.T l d loc t i) (j.E l d loc a i) (j.E l d loc b i)
  case Attribute o name p =>
    exact xc λh => T1 m.XK m.ok (j.E l d loc o i) (xJ (mL.mpr h))
  case Subscript v s p => exact R4 m j i
  case List H p =>
    unfold be
    dsimp only
    refine jn λh => ?_
    · exact Q_ (lY j i h)
  case Tuple H kk p =>
    unfold be
    dsimp only
    refine jn λh => ?_
    · exact Nc (lY j i h)
  case Dict ks vs p =>
    match ks, vs with
    | [], [] => exact PG
    | _ :: _, _ => exact cX
    | [], _ :: _ => exact cX
  case Call fe L A p =>
    match A with
    | [] => exact IT Q m CO hk j i
    | _ :: _ => exact cX
  case ListComp af gs C p =>
    match gs with
    | [g] => exact UP m hk j i
    | [] => exact cX
    | _ :: _ :: _ => exact cX
  all_goals exact cX
set_option tactic.hygienic true in
theorem OU{K:aE}(n : fR prog w l K T) (f : fL prog w l k T r) (g : cq T d c)e: gc prog w l k c loc e (stepT T r d loc e) := by
  rcases e
  case Compare a j q p =>
    match j, q with
    | [i], [b] =>
      unfold stepT
      dsimp only
      split
      · exact mw
      · rename_i h
        exact Ov (f.E d c loc a g) (f.E d c loc b g) (EU n i) (EB (mL.mpr h))
    | [], _ => exact mw
    | _ :: _ :: _, _ => exact mw
    | [_], [] => exact mw
    | [_], _ :: _ :: _ => exact mw
  case UnaryOp i a p =>
    rcases i
    case Not => exact R6 (f.T d c loc a g)
    all_goals exact mw
  case BoolOp i t p =>
    rcases i
    case And => exact JE (G7 λe => f.T d c loc e g)
    case Or => exact IG (G7 λe => f.T d c loc e g)
  case Name x p => exact zC (f.E d c loc _ g) (by rfl)
  case Call fe m s p => exact zC (f.E d c loc _ g) (by rfl)
  case Attribute o v p => exact zC (f.E d c loc _ g) (by rfl)
  all_goals exact mw
theorem dm.go(h:dm prog w hb k q loc ss m post)(hf:∀a,bt (f a) (post a))(hm:m'=m.bd λo=>M.ret (o.to f)):dm prog w hb k q loc ss m' (λl=>l):=λA φ s H R G F=>by refine Y hm ?_;intro r H' e Q E L hE;rcases M.GL e with⟨o,af,n,e2⟩|⟨x,n,rfl⟩;refine h A φ s H R G F _ _ n Q E (λg s' b a i j S' p=>?_) (λc c c c i c c=>(by injection i));injection i with d;subst d;injection e2 with d;injection d with t C;subst t;subst C;rcases o with b|v;exact L g s' _ a rfl j S' ⟨p.1,p.2.lc (hf b)⟩;exact L g s' _ a rfl j S' p;exact h A φ s H R G F _ _ n Q E (λc c c c i c c c=>(by injection i)) (λg s' y e i j F'=>hE g s' y e (by injection i with d;refine Y d ?_;rfl) j F')
theorem xX(h:dm prog w c k b loc d m (λl=>l)):dm prog w c k b loc d (m.bd λo=>M.ret (p8 n o)) (λl=>l):=h.go (λa=>J4) (by congr 1;funext o;rcases o<;>rfl)
theorem Ta:mM [.Attribute o name p] a n b=pure false:=by rcases a<;>rfl
theorem IE:mM [.Subscript o i p] a n b=pure false:=by rcases a<;>rfl
theorem Re:kz [.Attribute o name p] a b=pure none:=by rcases a<;>rfl
theorem Pb:kz [.Subscript o i p] a b=pure none:=by rcases a<;>rfl
theorem UM{xs:List aa}(b:a.length=xs.length):(∀q∈xs.zip a,f (.Name q.1 q.2)=some q.1)->((xs.zip a).map λq=>gp q.1 q.2).filterMap f=xs:=
 vP (P:=λ(xs)(a)=>(∀q∈xs.zip a,f (.Name q.1 q.2)=some q.1)->((xs.zip a).map λq=>gp q.1 q.2).filterMap f=xs) (λe=>rfl) (λx xs p a c h=>(Xc (h (x,p) (.head _))).trans (congrArg (x::·) (c λq d=>h q (.tail _ d)))) b.symm
theorem LM{f:aY->Option aa}{xs:List aa}(g:a.length=xs.length):(∃q∈xs.zip a,f (.Name q.1 q.2)=none)->(((xs.zip a).map λq=>gp q.1 q.2).filterMap f).length<xs.length:=by refine vP (P:=λ(xs)(a)=>(∃q∈xs.zip a,f (.Name q.1 q.2)=none)->(((xs.zip a).map λq=>gp q.1 q.2).filterMap f).length<xs.length) (λh=>ad h λq b j=>by rcases b) (λx xs p a i h=>?_) g.symm;have c:(((xs.zip a).map λq=>gp q.1 q.2).filterMap f).length<=xs.length:=aG (List.length_filterMap_le _ _)<|Y (bD _)<|Y jG<|tE _ _;rcases e:f (.Name x p)with _|y;exact iR (kA (congrArg List.length (List.filterMap_cons_none e))) (Nat.lt_succ_of_le c);refine iR (kA (congrArg List.length (Xc e))) (Nat.succ_lt_succ (i (ad h λq b d=>?_)));rcases ca.mp b with rfl|b;exact sn (e.symm.trans d);exact ak q b d
theorem TG{xs:List aa}(h:Fd ((xs.zip c).map λq=>gp q.1 q.2) n=true):∀q∈xs.zip c,(q.2.line==n)=true:=by
 generalize xs.zip c=l at h;induction l with
 |nil=>intro q b;rcases b
 |cons d l e=>refine λq b=>gd (a:=d.2.line==n) h λf g=>?_;rcases ca.mp b with rfl|b;exact f;exact e g q b
set_option backward.match.sparseCases true
set_option tactic.hygienic true in
theorem NH(l:cq T j c)(e:k.length=xs.length)(d:∀x∈xs,jg j x=true)(h:yi j xs a=true):kz [.Tuple ((xs.zip k).map λq=>gp q.1 q.2) kk p] a c=pure none:=by
 rcases a;case Tuple vs s t=>
  replace h:=Hn.mp (h);unfold kz;dsimp only;have b:((xs.zip k).map λq=>gp q.1 q.2).length=xs.length:=Y (bD _)<|Y jG<|Y e<|Y (H8 _) rfl;split;rfl;rename_i m;split;rfl;split;rfl;rename_i v n;exfalso;rcases h with h|h;apply m;refine Y b<|Y (gR _ _) ?_;left;refine Y (gR _ _) ?_;rw[mF,Bool.and_eq_false_iff]at h;rcases h with h|h;left;refine Y h ?_;rfl;right;refine(?_:(!(vs.length==xs.length))=true);refine Y h ?_;rfl;rw[mF]at h;apply n;refine Y (gR _ _) ?_;left;have:∃x∈xs,¬(j.lookup x==some NameKind.local)=true:=by rw[<-Bool.not_eq_true,c0]at h;exact Hi λo=>h λx f=>Hi λg=>o (ak x f g)
  refine bh λw r=>ad this λx f g=>?_;obtain⟨i,hi,rfl⟩:=n_ f;refine r ?_;have hk:c.kindOf xs[i]=some .cell:=by rcases Gq (d _ f)with q|q;rw[q]at g;exact absurd rfl g;exact(l.cell _ q).1
  refine Y b<|bne_iff_ne.mpr (gN (LM e (ak (xs[i],k[i]'(Y e<|hi)) (by rw[List.mem_iff_getElem];exact⟨i,Y jG<|Y e<|Y (H8 _)<|hi,Y List.getElem_zip rfl⟩) ?_)));dsimp only;refine Y hk ?_;rfl
 all_goals rfl
set_option tactic.hygienic true in
theorem Jx(j:cq T l c)(k:f.length=xs.length)(h:xr l ((xs.zip f).map λq=>gp q.1 q.2) xs a=true):kz [.Tuple ((xs.zip f).map λq=>gp q.1 q.2) kk p] a c=pure (some xs):=by
 rcases a;case Tuple vs y A=>
  refine x_ h λm n o r s C t g i=>?_;replace g:=nt g;replace i:=nt i;refine bh λH v=>?_;have d:((xs.zip f).map λq=>gp q.1 q.2).length=xs.length:=Y (bD _)<|Y jG<|Y k<|Y (H8 _) rfl
  refine v ?_;have w:∀q∈xs.zip f,c.kindOf q.1=some .local:=λq b=>j.loc _ (by have:=c0.mp r q.1 (qj b).1;simpa using this);unfold kz;dsimp only;rw[UM k,if_neg,if_neg,if_neg,if_neg,if_neg]
  ·refine Y i ?_;decide
  ·refine Y g ?_;decide
  ·intro q;rw[gR]at q;rcases q with q|q
   ·exact(bne_iff_ne.mp q) d.symm
   ·exact(bne_iff_ne.mp q) (by simpa using t)
  ·refine λq=>ad (Wi.mp q) λe x b=>?_;have:=c0.mp o e x;rcases e<;>first|exact ft this;done|exact ft b;done
  ·intro q;rw[gR,gR]at q;rcases q with(q|q)|q
   ·rw[m]at q;exact ft q
   ·have:=bne_iff_ne.mp q;exact this (by simpa using n)
   ·refine(bne_iff_ne.mp q) ?_;delta Env.blockKind;exact Y j.kind rfl
  ·intro q b;dsimp only;refine Y (w q b)<|Y (TG s q b) ?_;rfl
 all_goals exact ft h
theorem TX{xs:List aa}{vs:List V}(a:xs.length=vs.length):(xs.reverse.zip vs.reverse).reverse=xs.zip vs:=List.reverse_eq_iff.mpr (List.reverse_zipWith a).symm
theorem Nd(d:xs.length=vs.length):∀{l},xs.Nodup->bt (gy xs vs l) (xs.zip vs++l):=by refine vP (P:=λ(xs)(vs)=>∀{l},xs.Nodup->bt (gy xs vs l) (xs.zip vs++l)) (λh=>bt.refl) (λx xs v vs f l b y c e=>?_) d;rw[mK]at b;have a:=f b.2 y c e;refine(?_:dY y ((x,v)::(xs.zip vs++l))=some c);rw[Xd]at a;by_cases q:x=y;subst q;have:(xs.zip vs).lookup x=none:=List.lookup_eq_none_iff.mpr λp g=>bne_iff_ne.mpr λe=>b.1 (e▸(qj g).1);rw[this,Option.none_or,xK,if_pos rfl]at a;exact sM.trans a;rw[xK,if_neg (ch q)]at a;refine Y (nN (ch q)) ?_;rw[Xd];exact a
set_option backward.match.sparseCases false
theorem EZ{m:M a}:(m.bd λv=>M.ret (Out.go v)).bd (λo=>M.ret (o.to f))=m.bd λv=>M.ret (Out.go (f v)):=by refine Y M.cR ?_;rfl
theorem CD[Decidable c](h:c->bP prog w b k a loc e (m.bd f) post):bP prog w b k a loc e ((if c then m else M.bad).bd f) post:=by by_cases q:c;exact Y (if_pos q)<|h q;exact Y (if_neg q)<|fj
theorem Pg{f:d->M (Out g)}(h:∀a,o=some a->bP prog w c k b loc e ((m a).bd f) post):bP prog w c k b loc e ((M.op o m).bd f) post:=by rcases o with _|a;exact fj;exact h a rfl
set_option tactic.hygienic true in
theorem NE{K:aE}(TO:fR prog w hb K T)(hk:hi=true->50<=k)(m:fL prog w hb k T r)(d:cq T e b):bP prog w hb k b loc (.Assign [tg] a pos) (zT T hi r e loc tg a pos) (λl=>l):=by
 rcases tg;case Name x p=>
  refine m_ λH=>?_;have plain:lw a=false->bP prog w hb k b loc (.Assign [.Name x p] a pos) ((r.E e loc a).bd λv=>M.ret (.go (ew x v loc))) (λl=>l):=λhc=>(PL (m.E e b loc a d) (d.mT H) (Cj hc)).go (λv=>uJ) EZ.symm;rcases hq:sT a with _|q;refine(?_:bP prog w hb k b loc (.Assign [.Name x p] a pos) ((M.dR (sT a) _ _).bd _) _);refine Y hq ?_;by_cases h:lw a=true;refine(?_);exact Y (if_pos h)<|fj;refine(?_);exact Y (if_neg h)<|plain (mL.mpr h);obtain⟨t,⟨y,py,j⟩,c,g⟩:=q;refine Y (Kf hq) ?_;by_cases h:sO e x p c g=true;refine(?_:bP prog w hb k b loc _ ((if sO e x p c g then po T hi r e loc t ⟨.Name y py,j,[],0⟩ c else M.bad).bd _) _);refine Y (if_pos h)<|D5 h λh1 h2 s=>?_;replace s:=nt s;have h1:=bI h1;have A:wG (.ListComp t [⟨.Name y py,j,[],0⟩] c g) (some (.Name x p)) pos.line b=pure true:=by
   refine(?_:(pure (b.blockKind==.function&&b.kindOf x==some .local&&p.line==g.line&& !(c.names.any λq=>q.1==x&&(q.2==.local||q.2==.cell))):a_ Bool)=pure true);have e1:b.blockKind=.function:=by unfold Env.blockKind;refine Y d.kind ?_;rfl
   refine Y e1<|Y (d.loc x h1)<|Y h2<|Y s ?_;rfl
  refine CD λh=>o6 h λg1 g2 g3 g4=>Pg λaj hc=>?_;replace g3:=nt g3;have Q:=yS d g2 hc;refine CD λhy=>?_;rw[bO]at hy;exact(PV (m.E e b loc j d) Q.rk Q.taken Q.aB (by simpa using hy.1) (by simpa using hy.2) (λC v=>m.E c.names _ _ t (Q.env C)) (d.mT H) A Q.names Q.cell Q.kind (nS g3) (hk g1)).go (λv=>uJ) EZ.symm;refine(?_:bP prog w hb k b loc _ ((if sO e x p c g then po T hi r e loc t ⟨.Name y py,j,[],0⟩ c else M.bad).bd _) _);exact Y (if_neg h)<|fj
 case Attribute o name p=>exact(Pn TO.XK TO.ok (m.E e b loc a d) (m.E e b loc o d) Ta Re).go (λn=>bt.refl) (by simp only[M.cR];rfl)
 case Subscript o i p=>exact(Si (m.E e b loc a d) (m.E e b loc o d) (m.E e b loc i d) IE Pb).go (λn=>bt.refl) (by simp only[M.cR];rfl)
 case Tuple ai kk p=>
  refine F_ λxs af=>?_;obtain⟨ps,hl,rfl⟩:=Aq af;refine m_ λh=>?_;rw[bO,bO,bO,mF,gR]at h;obtain⟨⟨⟨h1,h2⟩,s⟩,L⟩:=h;have s:=λx H=>c0.mp s x H;have A:mM [Expr.Tuple ((xs.zip ps).map λq=>gp q.1 q.2) kk p] a pos.line b=pure false:=by rcases a<;>first|rfl|exact ft h2
  have hm:∀f,(((r.E e loc a).bd λv=>(M.cM xs.length v).bd λvs=>M.ret (Out.go vs)).bd λo=>M.ret (o.to f))=(r.E e loc a).bd λv=>(M.cM xs.length v).bd λvs=>M.ret (Out.go (f vs)):=λf=>by simp only[M.cR];rfl
  rcases L with L|L;exact(N5 (m.E e b loc a d) (tX hl λx H=>d.mT (s x H)) uB A (NH d hl s L) (hk h1)).go (λvs=>we) (hm _).symm;refine(S_ (m.E e b loc a d) (λx H=>d.mT (s x H)) A (Jx d hl L) (hk h1)).go (f:=λvs=>if vs.length=xs.length then gy xs vs loc else[]) (λvs=>?_) ?_;split;rename_i hv;exact Y (TX hv.symm)<|Nd hv.symm (vf L λvs n L=>x_ L λn n n n n h6 n n n=>nF h6);exact bt.nil;refine Bq ?_ (hm _).symm;congr 1;funext v;rcases v;case tup ys=>refine(?_:M.bd (if ys.length=xs.length then M.ret ys else M.bad) _=M.bd (if ys.length=xs.length then M.ret ys else M.bad) _);by_cases hy:ys.length=xs.length;exact Y (if_pos hy)<|congrArg (λl=>M.ret (Out.go l)) (if_pos hy).symm;refine Y (if_neg hy) ?_;rfl
  all_goals rfl
 all_goals exact fj
set_option tactic.hygienic true in
theorem S8(hk:hi=true->50<=k)(i:fL prog w A k T r)(f:cq T g d):bP prog w A k d loc (.For C e c [] pos) (vH hi r g loc C e c) (λl=>l):=by
 unfold vH;refine m_ λh=>?_;rw[bO,mF]at h;refine xA h λm n=>?_;rcases C;case Name x p=>dsimp only;exact m_ λj=>RC (i.E g d loc e f) bt.refl (f.mT j) (λl v=>(xX (i.S g d _ c f)).le uJ) (nS n) (hk m)
 case Tuple Q kk p=>refine F_ λxs s=>ad (Aq s) λps H t=>Y t<|m_ λj=>?_;have j:=λx h=>c0.mp j x h;have y:bP prog w A k d loc (.For (.Tuple ((xs.zip ps).map λq=>gp q.1 q.2) kk p) e c [] pos) (M.rL (r.E g loc e) loc (λl v=>(M.cM xs.length v).bd λvs=>(r.S g (gy xs vs l) c).bd λo=>M.ret (p8 l.length o))) (λl=>l):=MP (i.E g d loc e f) bt.refl (tX H λx h=>f.mT (j x h)) uB (λl vs=>(xX (i.S g d _ c f)).le we) (nS n) (hk m);refine Qs (λname o0=>?_) y;refine m_ λL=>?_;rw[bO]at L;exact QN (i.E g d loc _ f) bt.refl (tX H λx h=>f.mT (j x h)) uB (by simpa using L.2) (λl a b=>(xX (i.S g d _ c f)).le we) (nS n) (hk m)
 all_goals exact fj
set_option tactic.hygienic true in
theorem IP{K:aE}(n:fR prog w v K T)(hk:hi=true->50<=k)(i:fL prog w v k T r)(f:cq T j d)st:bP prog w v k d loc st (yE T hi r j loc st) (λl=>l):=by
 rcases st;case Assign s g pos=>match s with
 |[q]=>exact NE n hk i f
 |[]=>exact fj
 |_::_::_=>exact fj
 case AugAssign q A g pos=>
  rcases q;case Attribute o name p=>
   rcases A;case Add=>exact(K2 n.XK n.ok (i.E j d loc g f) (i.E j d loc o f)).go (λC=>bt.refl) (by simp only[M.cR];rfl)
   all_goals exact fj
  all_goals exact fj
 case Expr e p=>refine Iv λh=>(TN (i.E j d loc e f) (by unfold interactive;refine Y f.kind ?_;rfl) (Cj (mL.mpr h))).go (λC=>bt.refl) (by simp only[M.cR];rfl)
 case Return e p=>rcases e with _|e;exact fj;exact Ku (i.E j d loc e f)
 case If t a b p=>exact LV (i.T j d loc t f) (i.S j d loc a f) (i.S j d loc b f)
 case For q x y m p=>rcases m with _|_;exact S8 hk i f;exact fj
 case Raise e c p=>rcases e with _|e;exact fj;rcases c with _|_;unfold yE;dsimp only;exact m_ λh=>L4 n.XK n.exc (i.E j d loc e f) (hk h);exact fj
 all_goals exact fj
theorem T0{K:aE}(g:fR prog w c K T)(hk:hi=true->50<=k)(d:fL prog w c k T r)(e:cq T f b)a:dm prog w c k b loc a (Fr T hi r f loc a) (λl=>l):=by rcases a with _|⟨st,a⟩;exact K3 bt.refl;exact Kg (IP g hk d e st) λl=>d.S f b l a e
theorem oN{K:aE}{call:ay->Option (List V->M V)}{mt:Option Mt}(g:kY prog w i K k T hi mt)(b:fR prog w i K T)(h:lW prog w i K k call)(hk:hi=true->50<=k):∀d,fL prog w i k T (ev T call hi mt d)
 |0=>⟨λa a a a a=>cX,λa a a a a=>mw,λa a a a a=>Lg⟩
 |d+1=>⟨λj f loc e c=>JJ g b h hk (oN g b h hk d) c e,λj f loc e c=>OU b (oN g b h hk d) c e,λj f loc l c=>T0 b hk (oN g b h hk d) c l⟩
theorem Qz{M:kg}{i:Nat}(G:Good w t A φ H s.heap)(L:φ[i]? =some p)(fl:j5 φ s.heap c p.1)(m:∀b,c.get? b=none->t.get? b=none)(h:∀s',gJ s' s->Good w t A φ H s'.heap->(∀b o,s.heap.get? b=some o->∃o',s'.heap.get? b=some o')->(∀b o,s.heap.get? b=some o->¬Own φ b->c.get? b≠none->s'.heap.get? b=some o)->Q () s'):aJ M A (wo (.ref p.1) none) Q E s:=by refine mz fl λoe vs v x af hT=>?_;have C:=(dT L).1;rcases hT with l|⟨T,oT,ts,l,g,⟨j,n⟩,h3,r,d⟩;refine ag (iU v x l ?_);exact Y (if_neg (by decide))<|aK (h s rfl G (λb o e=>⟨o,e⟩) λb o e y y=>e);refine ag (iU v x l ?_);refine Y (if_pos (by kernel_rfl))<|wp g j ((nZ.mp h3).1) ?_;have a:fq T s.heap (s.heap.update T (jC (·.setIfInBounds 3 ((none:Option fN).elim gk λf=>dN f)))):=kh ..;have k:=mJ (jC (·.setIfInBounds 3 ((none:Option fN).elim gk λf=>dN f))) g (wq (AO j (·.setIfInBounds 3 ((none:Option fN).elim gk λf=>dN f))));refine h _ rfl (G.record a g ⟨j,n⟩ r (m _ d) ⟨_,k⟩) (λb o e=>?_) λb o e y hl=>(a.2 b (λq=>hl (q▸d))).trans e;by_cases q:b=T;exact Y q<|⟨_,k⟩;exact⟨o,(a.2 b q).trans e⟩
theorem Good.mark(G:Good w a A φ H h):Good w a (A.mark v) φ H h:=⟨G.rel,λl b=>G.dQ l b⟩
theorem Good.unmark(G:Good w a (A.mark v) φ H h):Good w a A φ H h:=⟨G.rel,λl b=>G.dQ l b⟩
theorem bw.mark(R:bw k A)(h:kk<=k)(hk:kk<50):bw kk (A.mark v):=cW R λe b c a=>xE a λl d=>(bA (.inr hk) (by skip;exact aU [.le U D,.lt (.a J (.m 2 D)) u] (.lt (.a J (.m 2 U)) u) B h b) (by skip;exact aU [.le U D,.lt (.a (.a J (.m 10 D)) (.k 100)) u] (.lt (.a (.a J (.m 10 U)) (.k 100)) u) B h c) ⟨l,d⟩)
theorem Sh(G:Good w f A φ H s.heap)(F:aV f φ a s.heap loc)(n:a.kindOf g=some .local)(h:∀s',Good w f A φ H s'.heap->aP (cm a) φ s φ s'->Q () s'):aJ (aq prog w) A (do Bc a g .none;unbindBehindTheSuite a g pos) Q E s:=by obtain⟨m,p,_⟩:=id F.ns;refine wpAny_nameGoes n p (by refine Y F.kind ?_;rfl) λr y i t=>?_;obtain⟨v,x⟩:=G.qO t F.off F.ab (by obtain⟨d,j,k,c,_⟩:=i;exact⟨d,c⟩) (λb o q=>F.jT b o (.inl q)) (λl l l=>by obtain⟨d,j,k,c,e,_⟩:=i;exact(ak d c (iI j k e)));exact h {s with heap:=r,toks:=s.toks+1} v (Step.s (x.weaken λb q=>.inl q))
theorem Mw{K:aE}{a':List dE}{L Rr:Nat}{ex:Nat->Bool}{h:V->M V}(XK:K.In hb)(cv:A.frames=some (m::a'))(hf:m.frame=some L)(R:bw k A)(cw:kk<=k)(b0:kk<50)(G:Good w hb A φ H s.heap)(F:aV hb φ m s.heap loc)(hl:m.kindOf en=some .local)(hR:∀ds s' Q E,(∀b o,hb.get? b=some o->s'.heap.get? b=some o)->Q (.ref Rr) s'->aJ (aq prog w) ds (br (.Name rn rp) m) Q E s')(hx:∀C,ex C=true->exmOne K (.ref C) (.ref Rr)=some true)(hH:aF prog w hb kk m [(en,x)] bb (h x))(b1:Good w hb A l af a3.heap)(f:eu aI φ s l a3 af x e)(a2:rz ex x af=true)(hm:h x af=some (.ok v,b2))(hQ:∀a9 s' c,Good w hb A a9 b2 s'.heap->aP (cm m) φ s a9 s'->am a9 s'.heap v c->Q (.ret c) s'):aJ (aq prog w) A (noteFrame e m) (λo0 n=>aJ (aq prog w) A (wo e none) (λo0 ap=>aJ (aq prog w) A (handleBy e m [.ExceptHandler (some (.Name rn rp)) (some en) [.Return (some bb) dt] dg]) Q E ap) E n) E a3:=by
 refine eZ f.is λi p C d c3 c4=>?_;subst c3;refine xA c4 λc5 c6=>?_;subst c5;refine bN c6 λhp fl r=>?_;have bx:∀b,s.heap.get? b=none->hb.get? b=none:=λb q=>G.rel.hM q;refine Di cv hf b1 hp r fl bx f.step.fg λn a0 ai bc bk b3=>?_;have g:aP aI φ s l n:=⟨⟨f.step.pre,λb o e=>xE (f.step.fg b o e) λo' e'=>bk b o' e',λb o e hn he=>ad (f.step.kp b o e hn he) λb4 b5 b6=>ad (b3 b b4 b5 (f.step.ie e hn) (by refine Y e ?_;simp)) λaj av ax=>xE f.step.pre λt ht=>(ak aj av (b6.trans (ax.low (by exact Y ht<|vX φ t)))),f.step.fresh⟩,a0.os.trans f.step.os,a0.gens.trans f.step.gens⟩;have di:=F.step g.toStep;refine wpAny_handleBy_cons (codeAny_handlers_test ?_) (by intro q;injection q);refine hR _ n _ _ ai.rel.base<|ad (ai.rel.objs i _ r) λp' c9 ho=>?_;obtain rfl:=ao (hp.symm.trans c9);have b7:∃o,n.heap.get? p.1=some o/\o.cls=.ref C:=by rcases d with _|j;exact gF ho λo0 vs sl o0 bv=>(ak _ bv rfl);exact xA ho λo0 c'=>eJ c' λq vs sl o0 o0 bv=>(ak _ bv rfl)
 refine ad b7 λoe dc dd=>(exm_one (XK.keeps ai.rel.base) (dd▸(Bn dc).andThen .now) (hx C (by delta rz at a2;dsimp only at a2;rw[r]at a2;exact a2))).here<|codeAny_handlers_suite_as (Qz ai.mark hp bc bx λap a1 b8 bm b9=>?_);have a4:aP aI φ s l ap:=⟨⟨f.step.pre,λb o e=>xE (g.fg b o e) λo' e'=>bm b o' e',λb o e hn he=>ad (g.kp b o e hn he) λaj av ax=>(ak aj (b9 b aj av (g.ie e hn) (by refine Y e ?_;simp)) ax),f.step.fresh⟩,a1.os.trans g.os,a1.gens.trans g.gens⟩;refine Ef b8 (F.step a4.toStep) (.ref i p hp) (.inl hl) λb' cd cf a5=>Y (Bf _ _ _)<|ag<|Y (HK _ _ _)<|ag (jB ?_);refine ag (hH (A.mark (some (.ref p.1))) l b' af (R.mark cw b0) cd (a5.weaken λy dv q=>?_) _ _ hm _ _ (λbs dr b a hr cl a6 q=>?_) (λo0 o0 o0 o0 hr o0 o0=>(by injection hr)));rw[dw]at q⊢;by_cases bv:y=en;subst bv;rw[beq_self_eq_true]at q⊢;exact q;rw[beq_false_of_ne bv]at q;simp at q;injection hr with df;subst df;refine aK (aK ?_);have a7:=a5.step a6.toStep;exact Sh cl.unmark a7 hl λcs ct a8=>hQ bs cs a ct (((a4.any.trans cf).trans a6.any).trans a8) (q.step a8 a7.jT)
theorem I7{K:aE}{ex:Nat->Bool}{aj:List dE}{L Rr:Nat}{post:α->Loc}(XK:K.In hb)(a5:A.frames=some (d::aj))(hf:d.frame=some L)(R:bw k A)(a6:kk<=k)(av:kk<50)(G:Good w hb A φ H s.heap)(F:aV hb φ d s.heap loc)(C:jV prog w hb k φ s.heap f m)(hx:loc.lookup x=some (.g (.ref f)))(hd:(x==("__debug__":aa))=false)(hc:(x==("__classdict__":aa))=false)(hl:d.kindOf en=some .local)(hR:∀(bm:fu)(s':bS)(Q:ay->bS->Prop)(E:ay->bS->Prop),(∀b o,hb.get? b=some o->s'.heap.get? b=some o)->Q (.ref Rr) s'->aJ (aq prog w) bm (br (.Name rn rp) d) Q E s')(a7:∀C,ex C=true->exmOne K (.ref C) (.ref Rr)=some true)(hH:∀x,aF prog w hb kk d [(en,x)] ap (h x)):z prog w hb (cm d) A φ s H (execs [.Try [.Return (some (.Tuple [.Constant (.str "told") c cp,.Call (.Name x p) [] [] pos] tk tp)) p1] [.ExceptHandler (some (.Name rn rp)) (some en) [.Return (some ap) bv] a'] [] [] p4] d) ((M.met ex m h).bd λv=>M.ret (.ret v)) (jQ hb d post):=by
 refine λr H' e Q E hQ hE=>Y (Bf _ _ _)<|ag (wpAny_Try_except ?_);refine Y (Bf _ _ _)<|ag<|Y (HK _ _ _)<|ag (jB ?_);refine(?_:aJ _ _ (br _ d>>=λy=>pure (Flow.ret y)) _ _ s);have hT:=Ml (c:=c) (kk:=tk) (cp:=cp) (p:=p) (pos:=pos) (tp:=tp) R G F C hx hd hc;unfold M.bd M.met at e;rcases hm:m H with _|bs;rw[hm]at e;injection e;obtain⟨ax,j⟩:=bs;rw[hm]at e;rcases ax with v|y;injection e with g;injection g with af a8;subst af;subst a8;refine ag (hT (.ok (.tup [.str "told",v])) _ (by unfold M.told M.bd;refine Y hm ?_;rfl) _ _ (λn t b a hr l a0 q=>?_) (λi i i i hr i i=>(by injection hr)));injection hr with g;subst g;exact aK (aK (aK (hQ n t _ _ rfl l a0.any (ak a rfl q))));dsimp only at e;rcases ai:rz ex y j with _|_;rw[ai]at e;injection e;rw[ai]at e;rcases hh:h y j with _|a1;simp[hh]at e;obtain⟨a2,a3⟩:=a1;rcases a2 with v|bb;have e':(Rs.ok (Out.ret v),a3)=(r,H'):=by simpa[hh,M.ret]using e
 injection e' with g af;subst g;subst af;refine ag (hT (.ex y) j (by unfold M.told M.bd;exact Y hm rfl) _ _ (λi i i i hr i i i=>(by injection hr)) (λn t bc bk hr l a4=>?_));injection hr with g;subst g;exact Mw XK a5 hf R a6 av G F hl hR a7 (hH y) l a4 ai hh λa9 s' c' G' S' q=>aK (hQ a9 s' _ _ rfl G' S' (ak c' rfl q));simp[hh]at e
def yn(n:Nat)(v:V)(k:List V->M f):=if n=2 then M.iC v λa b=>k [a,b]else if n=3 then M.RJ v λa b c=>k [a,b,c]else if n=5 then M.iG v λa b c d e=>k [a,b,c,d,e]else(M.cM n v).bd k
set_option tactic.hygienic true in
theorem KX(e:M.cM n v H=some (r,H')):∃xs,r=.ok xs/\xs.length=n:=by
 rcases v;case tup xs=>have e:(if xs.length=n then M.ret xs else M.bad) H=some (r,H'):=e;by_cases q:xs.length=n;rw[if_pos q]at e;exact⟨xs,(congrArg (·.1) (ao e)).symm,q⟩;rw[if_neg q]at e;exact ns e
 all_goals exact ns e
theorem U0{k:List V->M s}:yn n v k=(M.cM n v).bd k:=by
 have g:∀(i),(∀xs,xs.length=n->i xs=k xs)->(M.cM n v).bd i=(M.cM n v).bd k:=λi h=>by funext H;delta M.bd;rcases e:M.cM n v H with _|p;rfl;obtain⟨r,H'⟩:=p;exact ad (KX e) λxs o q=>Y o<|congrFun (h xs q) H'
 delta yn;by_cases j:n=2;refine Y (if_pos j) ?_;subst j;refine g _ λxs h=>?_;rcases xs with _|⟨a,_|⟨b,_|⟨c,xs⟩⟩⟩;exact absurd h (jz rfl);exact absurd h (jz rfl);rfl;exact sX (bX (bX h));refine Y (if_neg j) ?_;by_cases l:n=3;refine Y (if_pos l) ?_;subst l;refine g _ λxs h=>?_;rcases xs with _|⟨a,_|⟨b,_|⟨c,_|⟨d,xs⟩⟩⟩⟩;exact absurd h (jz rfl);exact absurd h (jz rfl);exact absurd h (jz rfl);rfl;exact sX (bX (bX (bX h)));refine Y (if_neg l) ?_;by_cases m:n=5;refine Y (if_pos m) ?_;subst m;refine g _ λxs h=>?_;rcases xs with _|⟨a,_|⟨b,_|⟨c,_|⟨d,_|⟨e,_|⟨f,xs⟩⟩⟩⟩⟩⟩;exact absurd h (jz rfl);exact absurd h (jz rfl);exact absurd h (jz rfl);exact absurd h (jz rfl);exact absurd h (jz rfl);rfl;exact sX (bX (bX (bX (bX (bX h)))));exact if_neg m
noncomputable def M.aw(b:Bool)(x y:M a):=match b with
 |true=>x
 |false=>y
def M.eO(v:V)(a:b)(mb:b->V->M (Out b)):=(M.eN v).bd λp=>M.loop p.1 mb (p.2+1) 0 a
def M.vr(v:V)(a:b)(mb:b->V->M (Out b)):=(M.eN v).bd λp=>if p.1.isList then M.loop p.1 mb (p.2+1) 0 a else M.bad
def M.sJ(v:V)(a:b)(mb:b->V->V->M (Out b)):=match v with
 | .jO i=>(M.eB (.ref i)).bd λc=>M.pM i c.length mb (c.length+1) 0 a
 |_=>M.bad
def M.z8(lo:It->Bool)(v:V)(el:V->V->M V):=(M.eN v).bd λp=>if lo p.1 then(M.alloc (.list [])).bd λl=>(M.compLoop p.1 (el l) l (p.2+1) 0).bd λa=>M.ret l else M.bad
def M.cZ(v:V)(a:V->M V):=M.z8 (λb=>true) v λl v=>(a v).bd λy=>X.append l y
def M.ny(v:V)(mt:V->M Bool)(a:V->M V):=M.z8 (λb=>true) v λl v=>(mt v).bd λt=>match t with
 |true=>(a v).bd λy=>X.append l y
 |false=>M.ret .none
def M.rB(n:Nat)(v:V)(a:List V->M V):=M.z8 It.isList v λl v=>(M.cM n v).bd λxs=>(a xs).bd λy=>X.append l y
structure KE where
 E:(γ:Type)->Sc->Loc->aY->(V->M γ)->M γ
 T:(γ:Type)->Sc->Loc->aY->(Bool->M γ)->M γ
def Ab(T:Tb)(a:Sc)(loc:Loc)(x:aa)(k:V->M γ):=if x=="__debug__"||x=="__classdict__"then M.bad else M.dR (loc.lookup x) k<|M.op (kX T a loc x) λc=>k (.g c)
def GQ(c:Const)(k:V->M γ):=match c with
 | .int i=>k (.int i)
 | .none=>k .none
 | .bool b=>k (.bool b)
 | .str s=>k (.str s)
 |_=>M.bad
noncomputable def zE(r:KE)(a:Sc)(loc:Loc)(e:Option aY)(k:V->M γ):=match e with
 |some e=>r.E γ a loc e k
 |none=>k .none
def FM(T:Tb)(r:KE)(a:Sc)(loc:Loc)(v s:aY)(k:V->M γ):=match s with
 | .Slice lo b none _=>M.op (lE v) λd=>r.E γ a loc v λo=>zE r a loc lo λl=>zE r a loc b λc=>(X.slice o l c).bd k
 |s=>if AE s then M.bad else r.E γ a loc v λo=>r.E γ a loc s λi=>(X.item T.tabI o i).bd k
section
variable(r:KE){γ:Type}
noncomputable def kP (sc : Sc) (loc : Loc) : List aY -> (List V -> M γ) -> M γ
  | [], k => k []
  | e :: es, k => r.E γ sc loc e λv => kP sc loc es λvs => k (v :: vs)
end
def PW(T:Tb)(call:ay->Option (List V->M V))(hi:Bool)(mt:Option Mt)(r:KE)(b:Sc)(loc:Loc)(x:aa)(a:List aY)(k:V->M γ):=M.op (kX T b loc x) λc=>if lZ a then M.dR (yX T b loc c a) (λd=>if hi then kP r b loc d λvs=>(F2 X.lS vs).bd k else M.bad)<|M.dR (ul T c a) (λq=>(sR T hi mt b loc q.1 q.2.1 q.2.2.1 q.2.2.2).bd k)<|M.op (call c) λm=>kP r b loc a λvs=>(m vs).bd k else M.bad
def xl(T:Tb)(call:ay->Option (List V->M V))(r:KE){γ:Type}(b:Sc)(loc:Loc)o name a k:=M.op (T.l9 name) λp=>M.op (call p.2) λm=>r.E γ b loc o λx=>(p.1 x).bd λc=>kP r b loc a λvs=>(m (x::vs)).bd k
def Uc(T:Tb)(call:ay->Option (List V->M V))(r:KE){γ:Type}(b:Sc)(loc:Loc)(o:aY)(name:aa)(a:List aY)(k:V->M γ):=M.dR ((lE o).bind (kX T b loc)) (λc=>M.dR (T.pP c name) (λf=>M.op (call f) λm=>kP r b loc a λvs=>(m vs).bd k) (xl T call r b loc o name a k)) (xl T call r b loc o name a k)
def CE(T:Tb)(call:ay->Option (List V->M V))(hi:Bool)(mt:Option Mt)(r:KE)(b:Sc)(loc:Loc)(fe:aY)(a:List aY)(pos:fp)(k:V->M γ):=match fe with
 | .Name x _=>PW T call hi mt r b loc x a k
 | .Attribute o name c=>if lZ a&&c.endLine==pos.line&& !mU o then Uc T call r b loc o name a k else M.bad
 |_=>M.bad
def Aj(T:Tb)(hi:Bool)(r:KE)(g:Sc)(loc:Loc)(e:aY)(b:H6)(a:Scope)(k:V->M γ):=if hi&&oZ T a&& !j8 b.iter&&b.is_async==0 then M.op (g_ g loc a.names) λd=>(match b.target with
 | .Name x _=>if a.names.lookup x==some .local&&(d.lookup x).isNone then(match b.ifs with
 |[]=>r.E γ g loc b.iter λi=>(M.cZ i λv=>r.E V a.names ((x,v)::d) e M.ret).bd k
 |[c]=>r.E γ g loc b.iter λi=>(M.ny i (λv=>r.T Bool a.names ((x,v)::d) c M.ret) λv=>r.E V a.names ((x,v)::d) e M.ret).bd k
 |_=>M.bad)else M.bad
 | .Tuple f _ _=>M.op (namesOf f) λxs=>(match b.ifs with
 |[]=>if xs.all (λx=>a.names.lookup x==some .local&&(d.lookup x).isNone)then r.E γ g loc b.iter λi=>(M.rB xs.length i λvs=>r.E V a.names ((xs.zip vs).reverse++d) e M.ret).bd k else M.bad
 |_=>M.bad)
 |_=>M.bad)else M.bad
section
variable(r:KE){γ:Type}
noncomputable def yG (sc : Sc) (loc : Loc) : List aY -> (V -> M γ) -> M γ
  | [], _ => M.bad
  | [e], k => r.E γ sc loc e k
  | e :: es, k => r.E γ sc loc e λv => (M.truth v).bd λb => M.aw b (yG sc loc es k) (k v)
end
section
variable(r:KE){γ:Type}
noncomputable def xS (sc : Sc) (loc : Loc) : List aY -> (V -> M γ) -> M γ
  | [], _ => M.bad
  | [e], k => r.E γ sc loc e k
  | e :: es, k => r.E γ sc loc e λv => (M.truth v).bd λb => M.aw b (k v) (xS sc loc es k)
end
section
variable(T:Tb)(r:KE){γ:Type}
noncomputable def xD (sc : Sc) (loc : Loc) : List aY -> (Bool -> M γ) -> M γ
  | [], k => k true
  | e :: es, k => r.T γ sc loc e λb => M.aw b (xD sc loc es k) (k false)
end
section
variable(T:Tb)(r:KE){γ:Type}
noncomputable def Aa (sc : Sc) (loc : Loc) : List aY -> (Bool -> M γ) -> M γ
  | [], k => k false
  | e :: es, k => r.T γ sc loc e λb => M.aw b (k true) (Aa sc loc es k)
end
def kE(T:Tb)(call:ay->Option (List V->M V))(hi:Bool)(mt:Option Mt)(r:KE)(n:Ev)(d:Sc)(loc:Loc)(e:aY)(k:V->M γ):=match e with
 | .Name x _=>Ab T d loc x k
 | .Constant c _ _=>GQ c k
 | .BinOp a l b _=>M.op (w0 l) λf=>r.E γ d loc a λx=>r.E γ d loc b λy=>(f x y).bd k
 | .UnaryOp .USub a _=>r.E γ d loc a λx=>(X.neg x).bd k
 | .Compare a [l] [b] _=>if j8 b then M.bad else r.E γ d loc a λx=>r.E γ d loc b λy=>(qT T l x y).bd k
 | .BoolOp .And h _=>if h.all (λe=> !fX e)then yG r d loc h k else M.bad
 | .BoolOp .Or h _=>if h.all (λe=> !fX e)then xS r d loc h k else M.bad
 | .IfExp t a b _=>r.T γ d loc t λc=>M.aw c (r.E γ d loc a k) (r.E γ d loc b k)
 | .Attribute o name _=>if mU o then M.bad else r.E γ d loc o λx=>(X.attr T.ok name x).bd k
 | .Subscript v s _=>FM T r d loc v s k
 | .List h _=>if h.all (λe=> !fX e)then kP r d loc h λvs=>if vs.length<=bH then(M.alloc (.list vs)).bd k else M.bad else M.bad
 | .Tuple h _ _=>if h.all (λe=> !fX e)then kP r d loc h λvs=>if vs.length<=bH then k (.tup vs)else M.bad else M.bad
 | .Dict [] [] _=>(M.alloc (.dict [])).bd k
 | .Call fe j [] pos=>CE T call hi mt r d loc fe j pos k
 | .ListComp m [g] i _=>Aj T hi r d loc m g i k
 |e=>(be T call hi mt n d loc e).bd k
def kT(T:Tb)(r:KE)(g:Ev)(c:Sc)(loc:Loc)(e:aY)(k:Bool->M γ):=match e with
 | .Compare a [h] [b] _=>if j8 b then M.bad else r.E γ c loc a λx=>r.E γ c loc b λy=>(qT T h x y).bd λv=>(M.truth v).bd k
 | .UnaryOp .Not a _=>r.T γ c loc a λb=>k (!b)
 | .BoolOp .And d _=>xD r c loc d k
 | .BoolOp .Or d _=>Aa r c loc d k
 | .Name x p=>r.E γ c loc (.Name x p) λv=>(M.truth v).bd k
 | .Call f a w p=>r.E γ c loc (.Call f a w p) λv=>(M.truth v).bd k
 | .Attribute o n p=>r.E γ c loc (.Attribute o n p) λv=>(M.truth v).bd k
 |e=>(stepT T g c loc e).bd k
noncomputable def oJ(T:Tb)(call:ay->Option (List V->M V))(hi:Bool)(mt:Option Mt):Nat->KE
 |0=>⟨λa a a a a=>M.bad,λa a a a a=>M.bad⟩
 |d+1=>⟨λa=>kE T call hi mt (oJ T call hi mt d) (ev T call hi mt d),λa=>kT T (oJ T call hi mt d) (ev T call hi mt d)⟩
structure eR(r:KE)(r0:Ev):Prop where
 E:∀γ sc loc e(k:V->M γ),r.E γ sc loc e k=(r0.E sc loc e).bd k
 T:∀γ sc loc e(k:Bool->M γ),r.T γ sc loc e k=(r0.T sc loc e).bd k
theorem mC{m:M b}:m.bd M.ret=m:=by funext H;delta M.bd M.ret;rcases m H with _|a;rfl;obtain⟨r,H'⟩:=a;rcases r<;>rfl
theorem pL{_:Decidable c}(h:y=x.bd k):(if c then M.bad else y)=(if c then M.bad else x).bd k:=by by_cases q:c;refine Y (if_pos q)<|Y (if_pos q) ?_;rfl;exact Y (if_neg q)<|Y (if_neg q)<|h
theorem iH{k:b->M c}(h:∀a,g a=(f a).bd k):M.op o g=(M.op o f).bd k:=by rcases o with _|a;rfl;exact h a
theorem nM{k:c->M d}(h:∀a,g a=(f a).bd k)(b:y=x.bd k):M.dR o g y=(M.dR o f x).bd k:=by rcases o with _|a;exact b;exact h a
theorem eh{_:Decidable c}(h:y=x.bd k):(if c then y else M.bad)=(if c then x else M.bad).bd k:=by split;exact h;rfl
theorem fV{m:M b}{K:c->M γ}(h:∀a,g a=(f a).bd K):m.bd g=(m.bd f).bd K:=(congrArg (M.bd m) (funext h)).trans M.cR.symm
theorem eE(R:eR r b){K:d->M γ}(h:∀a,g a=(f a).bd K):r.E γ c loc e g=((b.E c loc e).bd f).bd K:=(R.E _ _ _ _ _).trans (fV h)
theorem eT(R:eR r b){K:d->M γ}(h:∀a,g a=(f a).bd K):r.T γ c loc e g=((b.T c loc e).bd f).bd K:=(R.T _ _ _ _ _).trans (fV h)
theorem Ks(R:eR r b):∀{k:List V->M γ},kP r c loc a k=(M.list (gY b c loc a)).bd k:=by induction a with
 |nil=>exact rfl
 |cons e a d=>exact eE R λv=>d.trans (fV λvs=>rfl)
theorem eA(R:eR r b){K:e->M γ}(h:∀a,g a=(f a).bd K):kP r c loc d g=((M.list (gY b c loc d)).bd f).bd K:=(Ks R).trans (fV h)
theorem GV(R:eR r a):zE r b loc e k=(vL a b loc e).bd k:=by rcases e with _|e;rfl;exact R.E _ _ _ _ _
theorem LJ:Ab T a loc x k=(rZ T a loc x).bd k:=pL (nM (λb=>rfl) (iH λb=>rfl))
theorem La:GQ c k=(Ay c).bd k:=by rcases c<;>rfl
set_option tactic.hygienic true in
theorem T2(R:eR r a):FM T r b loc v s k=(xd T a b loc v s).bd k:=by
 rcases s;case Slice lo c st p=>rcases st with _|st;exact iH λd=>eE R λo=>(GV R).trans (fV λl=>(GV R).trans (fV λe=>rfl));rfl
 all_goals exact eE R λo=>eE R λi=>rfl
theorem Fn{call:ay->Option (List V->M V)}(R:eR r b):xl T call r c loc o name a k=(vt T call b c loc o name a).bd k:=iH λp=>iH λm=>eE R λx=>fV λd=>eA R λvs=>rfl
set_option tactic.hygienic true in
theorem OQ{call:ay->Option (List V->M V)}{mt:Option Mt}(R:eR r b):CE T call hi mt r d loc fe a pos k=(t9 T call hi mt b d loc fe a pos).bd k:=by
 rcases fe;case Name x p=>exact iH λc=>eh (nM (λe=>eh (eA R λvs=>rfl)) (nM (λq=>rfl) (iH λm=>eA R λvs=>rfl)))
 case Attribute o name g=>exact eh (nM (λc=>nM (λf=>iH λm=>eA R λvs=>rfl) (Fn R)) (Fn R))
 all_goals rfl
set_option tactic.hygienic true in
theorem Cv(R:eR r f):Aj T hi r g loc d a b k=(po T hi f g loc d a b).bd k:=by
 refine eh (iH λh=>?_);rcases a.target;case Name x p=>refine eh ?_;rcases a.ifs with _|⟨c,_|_⟩;refine(R.E _ _ _ _ _).trans ?_;simp only[R.E,mC];exact M.cR.symm;refine(R.E _ _ _ _ _).trans ?_;simp only[R.E,R.T,mC];exact M.cR.symm;rfl
 case Tuple e kk p=>refine iH λxs=>?_;rcases a.ifs with _|⟨c,i⟩;refine eh<|(R.E _ _ _ _ _).trans ?_;simp only[R.E,mC];exact M.cR.symm;rfl
 all_goals rfl
theorem Ix(R:eR r c):yG r d loc a k=(M.nP (gY c d loc a)).bd k:=by induction a with
 |nil=>rfl
 |cons e a f=>rcases a with _|⟨g,a⟩;exact R.E _ _ _ _ _;refine eE R λv=>fV λb=>?_;rcases b with _|_;rfl;exact f
theorem IL(R:eR r c):xS r d loc a k=(M.np (gY c d loc a)).bd k:=by induction a with
 |nil=>rfl
 |cons e a f=>rcases a with _|⟨g,a⟩;exact R.E _ _ _ _ _;refine eE R λv=>fV λb=>?_;rcases b with _|_;exact f;rfl
theorem Ld(R:eR r c):xD r d loc a k=(M.sC (a.map (c.T d loc))).bd k:=by induction a with
 |nil=>rfl
 |cons e a f=>refine eT R λb=>?_;rcases b with _|_;rfl;exact f
theorem QM(R:eR r c):Aa r d loc a k=(M.sA (a.map (c.T d loc))).bd k:=by induction a with
 |nil=>rfl
 |cons e a f=>refine eT R λb=>?_;rcases b with _|_;exact f;rfl
set_option tactic.hygienic true in
theorem V6{call:ay->Option (List V->M V)}{mt:Option Mt}(R:eR r l):kE T call hi mt r l q loc e k=(be T call hi mt l q loc e).bd k:=by
 rcases e;case Name x p=>exact LJ
 case Constant c L p=>exact La
 case BinOp a d b p=>exact iH λf=>eE R λx=>eE R λy=>rfl
 case UnaryOp d a p=>
  rcases d;case USub=>exact eE R λx=>rfl
  all_goals rfl
 case Compare a h w p=>rcases h with _|⟨d,_|_⟩;rfl;rcases w with _|⟨b,_|_⟩;rfl;exact pL (eE R λx=>eE R λy=>rfl);rfl;rfl
 case BoolOp d m p=>
  rcases d;case And=>exact eh (Ix R)
  case Or=>exact eh (IL R)
 case IfExp t a b p=>refine eT R λc=>?_;rcases c with _|_;exact R.E _ _ _ _ _;exact R.E _ _ _ _ _
 case Attribute o name p=>exact pL (eE R λx=>rfl)
 case Subscript v s p=>exact T2 R
 case List m p=>exact eh (eA R λvs=>eh rfl)
 case Tuple m kk p=>exact eh (eA R λvs=>eh rfl)
 case Dict A vs p=>rcases A with _|_;rcases vs with _|_;rfl;rfl;rfl
 case Call fe n i p=>rcases i with _|_;exact OQ R;rfl
 case ListComp H C j p=>rcases C with _|⟨g,_|_⟩;rfl;exact Cv R;rfl
 all_goals rfl
set_option tactic.hygienic true in
theorem RK(R:eR r g):kT T r g h loc e k=(stepT T g h loc e).bd k:=by
 rcases e;case Compare a d i p=>rcases d with _|⟨c,_|_⟩;rfl;rcases i with _|⟨b,_|_⟩;rfl;exact pL ((eE R λx=>eE R λy=>rfl).trans M.cR.symm);rfl;rfl
 case UnaryOp c a p=>
  rcases c;case Not=>exact eT R λb=>rfl
  all_goals rfl
 case BoolOp c j p=>
  rcases c;case And=>exact Ld R
  case Or=>exact QM R
 case Name x p=>exact(R.E _ _ _ _ _).trans<|M.cR.symm
 case Call f a w p=>exact(R.E _ _ _ _ _).trans<|M.cR.symm
 case Attribute o n p=>exact(R.E _ _ _ _ _).trans<|M.cR.symm
 all_goals rfl
theorem EC{call:ay->Option (List V->M V)}{mt:Option Mt}:∀d,eR (oJ T call hi mt d) (ev T call hi mt d):=by
 intro c;induction c with
 |zero=>exact⟨λa a a a a=>rfl,λa a a a a=>rfl⟩
 |succ d b=>exact⟨λa a a a a=>V6 (b),λa a a a a=>RK (b)⟩
noncomputable def M.cg(bz:V->M γ)(k:Loc->M γ)(o:Out Loc):=match o with
 | .go l=>k l
 | .ret v=>bz v
abbrev KS:=(γ:Type)->Sc->Loc->List fw->(V->M γ)->(Loc->M γ)->M γ
def BU(T:Tb)(hi:Bool)(r:KE)(b:Sc)(loc:Loc)(x:aa)(p:fp)(a:aY)(k:V->M γ):=M.dR (sT a) (λq=>if sO b x p q.2.2.1 q.2.2.2 then Aj T hi r b loc q.1 ⟨.Name q.2.1.1 q.2.1.2.1,q.2.1.2.2,[],0⟩ q.2.2.1 k else M.bad) (if lw a then M.bad else r.E γ b loc a k)
def D3(T:Tb)(hi:Bool)(r:KE)(b:Sc)(loc:Loc)(d a:aY)(pos:fp)(k:Loc->M γ):=match d with
 | .Name x p=>if jg b x then BU T hi r b loc x p a λv=>k (ew x v loc)else M.bad
 | .Attribute o name _=>r.E γ b loc a λv=>r.E γ b loc o λx=>(X.setAttr T.ok name x v).bd λe=>k loc
 | .Subscript o i _=>r.E γ b loc a λv=>r.E γ b loc o λx=>r.E γ b loc i λy=>(X.setItem x y v).bd λe=>k loc
 | .Tuple c _ _=>M.op (namesOf c) λxs=>if hi&& !lw a&&xs.all (jg b)&&(yi b xs a||xr b c xs a)then r.E γ b loc a λv=>yn xs.length v λvs=>k (gy xs vs loc)else M.bad
 |_=>M.bad
def fc(s:KS)(b:Sc)(a:List fw)n l:=s (Out Loc) b l a (λc=>M.ret (.ret c)) λd=>M.ret (.go (d.take n))
def kFor(hi:Bool)(r:KE)(s:KS)(e:Sc)(loc:Loc)(g c:aY)(d:List fw)(bz:V->M γ)(k:Loc->M γ):=if hi&& !j8 c then(match g with
 | .Name x _=>if jg e x then r.E γ e loc c λv=>(M.eO v loc λl v=>fc s e d l.length (ew x v l)).bd (M.cg bz k)else M.bad
 | .Tuple f _ _=>M.op (namesOf f) λxs=>if xs.all (jg e)then M.dR (GI c) (λname=>if name=="items"&&xs.length==2 then r.E γ e loc c λv=>(M.sJ v loc λl a b=>fc s e d l.length (gy xs [a,b] l)).bd (M.cg bz k)else M.bad) (r.E γ e loc c λv=>(M.vr v loc λl v=>(M.cM xs.length v).bd λvs=>fc s e d l.length (gy xs vs l)).bd (M.cg bz k))else M.bad
 |_=>M.bad)else M.bad
def FR(T:Tb)(hi:Bool)(r:KE)(s:KS)(f:Sc)(loc:Loc)(st:fw)(bz:V->M γ)(k:Loc->M γ):=match st with
 | .Assign [i] d pos=>D3 T hi r f loc i d pos k
 | .AugAssign (.Attribute o name _) .Add d _=>r.E γ f loc o λx=>(X.attr T.ok name x).bd λj=>r.E γ f loc d λv=>(X.iadd j v).bd λl=>(X.setAttr T.ok name x l).bd λm=>k loc
 | .Expr e _=>if lw e then M.bad else r.E γ f loc e λm=>k loc
 | .Return (some e) _=>r.E γ f loc e bz
 | .If t a b _=>r.T γ f loc t λc=>M.aw c (s γ f loc a bz k) (s γ f loc b bz k)
 | .For i g h [] _=>kFor hi r s f loc i g h bz k
 | .Raise (some e) none _=>if hi then r.E γ f loc e (M.raise T.exc)else M.bad
 |_=>M.bad
section
variable(T:Tb)(call:Value -> Option (List V -> M V))(hi:Bool)(mt:Option Mt)
noncomputable def kS : Nat -> KS
  | 0 => λo0 o0 o0 o0 o0 o0 => M.bad
  | d + 1 => λγ sc loc ss bz k => match ss with
    | [] => k loc
    | st :: ss => FR T hi (oJ T call hi mt d) (kS d) sc loc st bz λl => kS d γ sc l ss bz k
end
theorem RW{bz:V->M γ}:(M.sq m f).bd (M.cg bz k)=m.bd (M.cg bz λl=>(f l).bd (M.cg bz k)):=by skip;refine Y M.cR ?_;congr 1;funext o;rcases o<;>rfl
set_option tactic.hygienic true in
theorem IU{k:a->M b}:(M.raise ok v:M a).bd k=M.raise ok v:=by
 funext H;rcases v;case ref i=>delta M.bd M.raise M.FI M.ref;dsimp only;rcases O.raised ok H i H[i]? <;>rfl
 all_goals rfl
theorem Uz(R:eR r b):BU T hi r c loc x p a k=(E0 T hi b c loc x p a).bd k:=nM (λq=>eh (Cv R)) (pL (R.E _ _ _ _ _))
set_option tactic.hygienic true in
theorem VC(R:eR r d){bz:V->M γ}:D3 T hi r e loc b a pos k=(zT T hi d e loc b a pos).bd (M.cg bz k):=by
 rcases b;case Name x p=>exact eh ((Uz R).trans (fV λv=>rfl))
 case Attribute o name p=>exact eE R λv=>eE R λx=>fV λf=>rfl
 case Subscript o i p=>exact eE R λv=>eE R λx=>eE R λy=>fV λf=>rfl
 case Tuple c kk p=>exact iH λxs=>eh (eE R λv=>U0.trans (fV λvs=>rfl))
 all_goals rfl
structure yL(s:KS)(r0:Ev):Prop where
 S:∀γ sc loc ss(ret:V->M γ)k,s γ sc loc ss ret k=(r0.S sc loc ss).bd (M.cg ret k)
theorem zL(O:yL s b):fc s c a n l=(b.S c l a).bd λo=>M.ret (p8 n o):=by unfold fc;refine Y (O.S _ _ _ _ _ _) ?_;congr 1;funext o;rcases o<;>rfl
set_option tactic.hygienic true in
theorem TC(R:eR r e)(O:yL s e){bz:V->M γ}:kFor hi r s h loc f c d bz k=(vH hi e h loc f c d).bd (M.cg bz k):=by
 refine eh ?_;rcases f;case Name x p=>exact eh (eE R λv=>congrArg (λt=>(M.eO v loc t).bd (M.cg bz k)) (funext λl=>funext λv=>zL O))
 case Tuple g kk p=>exact iH λxs=>eh (nM (λname=>eh (eE R λv=>congrArg (λt=>(M.sJ v loc t).bd (M.cg bz k)) (funext λl=>funext λa=>funext λb=>zL O))) (eE R λv=>congrArg (λt=>(M.vr v loc t).bd (M.cg bz k)) (funext λl=>funext λv=>congrArg (M.bd _) (funext λvs=>zL O))))
 all_goals rfl
set_option tactic.hygienic true in
theorem Fz{call:ay->Option (List V->M V)}{mt:Option Mt}d:yL (kS T call hi mt d) (ev T call hi mt d):=by induction d with
 |zero=>exact⟨λf f f f f f=>rfl⟩
 |succ d O=>
 refine⟨λγ i loc h bz k=>?_⟩;have R:=EC (T:=T) (call:=call) (hi:=hi) (mt:=mt) d;rcases h with _|⟨st,h⟩;rfl;refine Bq ?_ (RW).symm;refine(congrArg (FR T hi (oJ T call hi mt d) (kS T call hi mt d) i loc st bz) (funext λl=>O.S γ i l h bz k)).trans ?_;generalize (λl=>((ev T call hi mt d).S i l h).bd (M.cg bz k))=k;rcases st;case Assign m g pos=>rcases m with _|⟨j,_|_⟩;rfl;exact VC (pos:=pos) R;rfl
 case AugAssign j s g pos=>
  rcases j;case Attribute o name p=>
   rcases s;case Add=>exact eE R λx=>fV λw=>eE R λv=>fV λy=>fV λf=>rfl
   all_goals rfl
  all_goals rfl
 case Expr e p=>exact pL (eE R λf=>rfl)
 case Return e p=>rcases e with _|e;rfl;exact eE R λv=>rfl
 case If t a b p=>refine eT R λc=>?_;rcases c with _|_;exact O.S _ _ _ _ _ _;exact O.S _ _ _ _ _ _
 case For j q r n p=>rcases n with _|_;exact TC R O;rfl
 case Raise e c p=>rcases e with _|e;rfl;rcases c with _|c;exact eh (eE R λv=>IU.symm);rfl
 all_goals rfl
structure Src where
 name:aa
 params:Arguments
 body:List fw
 scope:Scope
noncomputable def Src.no:Src:=⟨AS,⟨[],[],none,[],[],none,[]⟩,[],⟨.function,[],false,false,[]⟩⟩
def G8(s:Option fw):Src:=match s with
 |some (.FunctionDef n a b _ _ _ s _ _ _)=>⟨n,a,b,s⟩
 |_=>Src.no
noncomputable def B8(i:Nat):=XB.main.body[i]?
def au i:=G8 (B8 i)
def cb(i j:Nat):Src:=match B8 i with
 |some (.ClassDef _ _ _ b _ _ _ _ _ _ _)=>G8 b[j]?
 |_=>Src.no
noncomputable def vU(s:Src)(a:aa)(df pm b dc:ay):Bo:={name:=s.name,qualname:=a,params:=s.params,body:=.stmts s.body,scope:=s.scope,globals:=f7,closure:=[],defaults:=df,kwdefaults:=.none,doc:=dc,pyModule:=pm,code:=b,builtins:=s7}
noncomputable def Src.ps(s:Src):=s.params.args.map (·.arg)
noncomputable def sQ(T:Tb)(s:Src)(a:aa)(b:ay):Bool:=match T.tb s.scope.names with
 |some (_,_,c,q)=>b==.ref c&&(a++".<locals>.")==q
 |none=>true
def sK(s:Src):= !s.scope.isCoroutine&& !s.scope.isGenerator&&s.scope.kind==.function&&s.params.posonlyargs.isEmpty&&s.params.vararg.isNone&&s.params.kwonlyargs.isEmpty&&s.params.kwarg.isNone&&o5 s.ps&&s.ps.all (λx=>s.scope.names.lookup x==some .local||s.scope.names.lookup x==some .cell)&&s.scope.names.all λp=>p.2 !=.free
noncomputable def uz(n:Nat)(df vs:List V):=if vs.length<=n/\n<=vs.length+df.length then some (vs++df.drop (vs.length+df.length- n))else none
structure FnAt T K(a:Nat)s df dv:Prop where
 ok:sK s=true
 Ag:∀φ h,aH φ h df dv
 at_:∃qn dfv pm cd dc,K.lookup a=some ⟨.type "function",none,.func (vU s qn dfv pm cd dc),#[]⟩/\wu K cd qn=true/\sQ T s qn cd=true/\
 ∀cs,cs.length<=s.ps.length->s.ps.length<=cs.length+dv.length->∀S,peek K S (bindArgs (vU s qn dfv pm cd dc) ⟨cs,[]⟩)=some (s.ps.zip (cs++dv.drop (cs.length+dv.length- s.ps.length)))
theorem D_{L f:Nat}(a:sQ T s d g=true)(h:s.scope.kind=.function)(i:∀p∈s.scope.names,p.2≠.free):cq T s.scope.names (gP (vU s d df pm g dc) L f):=⟨h,λb q=>q,λb q=>q,λb q=>⟨q,cellsFrom_some _ _ _ (.inl q)⟩,λb q=>absurd rfl (i _ (mem_of_lookup q)),λj P c q e=>by unfold sQ at a;rw[e]at a;rw[bO]at a;exact⟨bI a.1,bI a.2⟩⟩
def nj(E:Ev)(s:Src)(df:List V)(vs:List V):M V:=match uz s.ps.length df vs with
 |some fvs=>(E.S s.scope.names (s.ps.zip fvs) s.body).fin
 |none=>M.bad
theorem SR{K:aE}{call:ay->Option (List V->M V)}{mt:Option Mt}(X:K.In j)(t:j.NoLimit)(F:FnAt T K a s df C)(EO:fL prog w j k T (ev T call hi mt d)):iN prog w j (k+1) (.ref a) (nj (ev T call hi mt d) s df):=by
 refine ji F.at_ λqn af pm cd dc hl v=>bN v λx y A=>?_;have ok:=F.ok;unfold sK at ok;(refine ut ok λl m g h h h h n o b=>?_;try replace l:=nt l;try replace m:=nt m;try replace g:=nt g;try replace n:=nt n;try replace o:=nt o;try replace b:=nt b);have g:s.scope.kind=.function:=by simpa using g
 have b:∀p∈s.scope.names,p.2≠.free:=λp hp e=>by have:=c0.mp b p hp;rw[e]at this;exact ft this
 exact Ri X t hl rfl rfl x rfl rfl rfl (nF n) o (λφ H vs q fvs XK Q i=>by unfold uz at i;split at i;rename_i r;refine ae (ao i) ?_;have f:=(F.Ag φ H.heap).length;have c:=Q.length;refine(bn (q++C.drop (q.length+C.length- s.ps.length)) (kp_binds XK (A q (Y c<|r.1) (Y c<|Y f<|r.2))) (Q.append ?_) ?_);exact Y c<|Y f<|(F.Ag φ H.heap).drop _;exact Y bE<|Y lQ<|cK [.and (.le U J) (.le J (U+u)),.eq D u,.eq aA U] (.eq J (U+(u-(U+u-J)))) B r f c;exact ns i) (λL fvs h=>EO.S _ _ _ _ (D_ y g b)) l m g
inductive Fe where
 |fn (s:Src) (df:List V)
 |cls (f:Nat)
 |exc (f:Nat)
noncomputable def ge(x:aa)(v:ay):=(x,v)
def pW:=[ge "BUILTINS" (.ref 631),ge "BadArgument" (.ref 52),ge "ErrorThing" (.ref 362),ge "FIELDS" (.ref 74),ge "GemError" (.ref 39),ge "ListThing" (.ref 263),ge "MIXED" (.ref 634),ge "MODULES" (.ref 630),ge "ModuleThing" (.ref 409),ge "Node" (.ref 166),ge "Params" (.ref 198),ge "Raised" (.ref 71),ge "Text" (.ref 243),ge "Thing" (.ref 221),ge "ValueError" (.type "ValueError"),ge "World" (.ref 895),ge "_law_alike" (.ref 975),ge "_law_bound_right" (.ref 1008),ge "_law_bounds" (.ref 1003),ge "_law_counted" (.ref 996),ge "_law_due" (.ref 970),ge "_law_fresh_name" (.ref 920),ge "_law_is" (.ref 982),ge "_law_laid" (.ref 963),ge "_law_made" (.ref 937),ge "_law_met" (.ref 989),ge "_law_names" (.ref 949),ge "_law_parts" (.ref 956),ge "_law_places" (.ref 927),ge "_law_pool" (.ref 906),ge "_law_row" (.ref 932),ge "_law_take" (.ref 913),ge "_law_thing" (.ref 942),ge "_law_told_right" (.ref 1015),ge "abs" (.builtin "abs"),ge "arity" (.ref 568),ge "bind" (.ref 615),ge "bool" (.type "bool"),ge "bounds_text" (.ref 547),ge "check_count" (.ref 561),ge "expected" (.ref 554),ge "fitted" (.ref 587),ge "full_name" (.ref 466),ge "group_names" (.ref 575),ge "int" (.type "int"),ge "isinstance" (.builtin "isinstance"),ge "items_of" (.ref 594),ge "least_of" (.ref 526),ge "len" (.builtin "len"),ge "list" (.type "list"),ge "min" (.builtin "min"),ge "most_of" (.ref 533),ge "names_in" (.ref 580),ge "own_module" (.ref 629),ge "places_of" (.ref 540),ge "put_all" (.ref 608),ge "put_place" (.ref 601),ge "range" (.type "range"),ge "same" (.ref 432),ge "show" (.ref 519),ge "sort_of" (.ref 425),ge "sorted" (.builtin "sorted"),ge "str" (.type "str"),ge "tuple" (.type "tuple"),ge "zip" (.type "zip")]
noncomputable def fe(a:Nat)(e:Fe):=(a,e)
def lV:=[fe 1020 (.fn (au 81) []),fe 906 (.fn (au 63) []),fe 913 (.fn (au 64) []),fe 920 (.fn (au 65) []),fe 927 (.fn (au 66) []),fe 932 (.fn (au 67) []),fe 937 (.fn (au 68) []),fe 942 (.fn (au 69) []),fe 949 (.fn (au 70) []),fe 956 (.fn (au 71) []),fe 963 (.fn (au 72) []),fe 970 (.fn (au 73) []),fe 975 (.fn (au 74) []),fe 982 (.fn (au 75) []),fe 989 (.fn (au 76) []),fe 996 (.fn (au 77) []),fe 1003 (.fn (au 78) []),fe 1008 (.fn (au 79) []),fe 1015 (.fn (au 80) []),fe 657 (.fn (cb 61 0) [.none,.none,.int 20000]),fe 678 (.fn (cb 61 3) []),fe 699 (.fn (cb 61 6) []),fe 704 (.fn (cb 61 7) []),fe 711 (.fn (cb 61 8) []),fe 761 (.fn (cb 61 15) []),fe 768 (.fn (cb 61 16) []),fe 822 (.fn (cb 61 24) []),fe 829 (.fn (cb 61 25) []),fe 218 (.fn (cb 13 0) []),fe 240 (.fn (cb 14 0) []),fe 260 (.fn (cb 15 0) []),fe 359 (.fn (cb 19 0) []),fe 399 (.fn (cb 21 0) [.none,.bool false,.none,.none]),fe 36 (.fn (cb 2 0) []),fe 68 (.fn (cb 4 0) []),fe 156 (.fn (cb 7 0) [.int 0]),fe 188 (.fn (cb 8 0) []),fe 425 (.fn (au 23) []),fe 432 (.fn (au 24) []),fe 466 (.fn (au 29) []),fe 526 (.fn (au 39) []),fe 533 (.fn (au 40) []),fe 540 (.fn (au 41) []),fe 547 (.fn (au 42) []),fe 554 (.fn (au 43) []),fe 561 (.fn (au 44) []),fe 568 (.fn (au 45) []),fe 575 (.fn (au 46) []),fe 580 (.fn (au 47) []),fe 587 (.fn (au 48) []),fe 594 (.fn (au 49) []),fe 601 (.fn (au 50) []),fe 608 (.fn (au 51) []),fe 615 (.fn (au 52) []),fe 221 (.cls 218),fe 243 (.cls 240),fe 263 (.cls 260),fe 362 (.cls 359),fe 409 (.cls 399),fe 166 (.cls 156),fe 198 (.cls 188),fe 895 (.cls 657),fe 71 (.exc 68)]
noncomputable def t7:List (Nat×List aa):=[(221,["number","owner","fields","own","frozen","ident"]),(243,["number","owner","fields","own","frozen","ident","text"]),(263,["number","owner","fields","own","frozen","ident","items"]),(362,["number","owner","fields","own","frozen","ident","message","cause"]),(409,["number","owner","fields","own","frozen","ident","name","is_class","parent","outer","methods","constants","mixed","ahead","attached","native","kept"]),(166,["kind","parts","line","own"]),(198,["required","optional","rest","post","block"]),(71,["reason","thing"]),(895,["natives","prelude","read","most","taken","last_number","last_ident","symbol_idents","made","version","const_version","globals","out","is_ready","main"])]
def aC(C:Nat)(n:aa):Bool:=match t7.lookup C with
 |some l=>l.contains n
 |none=>false
noncomputable def d9 C:=C==71
noncomputable def pH:List (aa×V):=[("Object",.str "BasicObject"),("BasicObject",.none),("Module",.str "Object"),("Class",.str "Module"),("Kernel",.none),("Comparable",.none),("Enumerable",.none),("String",.str "Object"),("Array",.str "Object"),("Exception",.str "Object"),("StandardError",.str "Exception"),("ArgumentError",.str "StandardError")]
def oV(q:aa):Option (Option V):=match pH.lookup q with
 |some _=>some (if q="Object"then some (.tup [.str "Kernel"])else if q="String"then some (.tup [.str "Comparable"])else if q="Array"then some (.tup [.str "Enumerable"])else none)
 |none=>none
def aZ(c:ay)(q:aa):=if c==.ref 74 then(if q="int"then some (.tup [.str "value"])else none)else if c==.ref 631 then pH.lookup q else none
def i_(c:ay)(q:aa):=if c==.ref 74 then(if q="int"then some true else none)else if c==.ref 630 then(pH.lookup q).map λa=>q="Kernel"||q="Comparable"||q="Enumerable"else none
def mY(v:V):=match v with
 | .g a=>uO (.ref 634) (.g a)
 |v=>md v
def wm(n:aa)(a:Nat):aa×((V->M Unit)×ay):=(n,bF 895 n,.ref a)
def zt:List (aa×((V->M Unit)×ay)):=[("append",c8,.builtin "list.append"),("extend",c8,.builtin "list.extend"),("get",mY,.builtin "dict.get"),("items",md,.builtin "dict.items"),wm "number" 678,wm "builtin" 699,wm "make_builtin" 704,wm "give_own" 711,wm "text" 761,wm "list_of" 768,wm "error" 822,wm "fail" 829]
noncomputable def GZ:List (ay×ay):=[(.ref 221,.ref 218),(.ref 39,.ref 36),(.type "ValueError",.builtin "ValueError.__init__")]
def CU(c:ay)(n:aa):=if n="__init__"then GZ.lookup c else none
def xL(a:Sc):Option (Nat×Nat×Nat×aa):=if a=(au 79).scope.names then some (1,1005,1007,"_law_bound_right.<locals>.")else if a=(au 80).scope.names then some (2,1010,1014,"_law_told_right.<locals>.")else none
def TT:Tb:=⟨λx=>dY x pW,aZ,i_,aC,λx=>dY x zt,CU,d9,989,xL⟩
noncomputable def u9:=[Value.type "NoneType",.type "bool",.type "int",.type "str",.type "tuple",.ref 263,.ref 243,.ref 198]
noncomputable def Au:List ay:=[.type "bool",.type "int",.type "str",.type "tuple",.ref 263,.ref 198]
def ci t c:=if u9.contains t&&Au.contains c then some (t==c||(c==.type "int"&&t==.type "bool"))else none
def D8(vs:List V):=match vs with
 |[d,k]=>X.get d k
 |[d,k,x]=>X.get3 634 oV d k x
 |_=>M.bad
noncomputable def dC (a b : aa):= decide (a.cps.toList <= b.cps.toList)
def dh(x:aa)(l:List aa):List aa:=l.rec [x] λy r a=>if dC x y then x::y::r else y::a
def kF(l:List aa):List aa:=l.rec [] λx b a=>dh x a
theorem gZ(h:dC x y=true):dh x (y::r)=x::y::r:=if_pos h
theorem gB(h:dC x y=false):dh x (y::r)=y::dh x r:=if_neg λq=>ft (h.symm.trans q)
def X.sorted v:=(M.eB v).bd λa=>if a.length<=100 then M.d8 ((kF (a.map (·.1))).map V.str)else M.bad
def xi:=[("len",F1 X.len),("abs",F1 X.abs),("isinstance",F2 (X.bu ci)),("list.append",F2 X.append),("list.extend",F2 X.extend),("dict.get",D8),("dict.items",F1 X.items),("ValueError.__init__",F2 (X.xH d9))]
def IK:=("min",F2 X.min)::("sorted",F1 X.sorted)::xi
def FT(hi:Bool)s:=(hi.rec xi IK:List (String×(List V->M V))).lookup s
def Ae:=[("int",F1 X.int),("str",F1 X.str),("range",F1 X.range),("tuple",F1 X.tuple)]
def Gs(hi:Bool)s:=(hi.rec Ae (("list",F1 X.list)::Ae):List (String×(List V->M V))).lookup s
def kW(hi:Bool)(f:Nat->Option (List V->M V))(v:ay):=match v with
 | .builtin s=>FT hi s
 | .type s=>Gs hi s
 | .ref a=>f a
 |_=>none
structure Lv where
 c:Nat->Option (List V->M V)
 e0:Option (Sc->Loc->aY->M V)
 e1:Option (Sc->Loc->aY->M V)
 e2:Option (Sc->Loc->aY->M V)
noncomputable def pN(a:V->M V)(e:Option (Sc->Loc->aY->M V)):Option Mt:=match e with
 |some e=>some ⟨e,a⟩
 |none=>none
def oD(hi:Bool)(c:Nat->Option (List V->M V))(mt:Option Mt)(a:Nat):Option (List V->M V):=match dY a lV with
 |some (.fn s df)=>some (nj (ev TT (kW hi c) hi mt 60) s df)
 |some (.cls f)=>(match c f with|some m=>some (M.make a m)|none=>none)
 |some (.exc f)=>(match c f with|some m=>some (M.su a m)|none=>none)
 |none=>none
def UJ(hi:Bool)(a:V->M V)(p:Lv):Lv:=⟨oD hi p.c (pN a p.e2),some (ev TT (kW hi (oD hi p.c (pN a p.e2))) hi none 60).E,p.e0,p.e1⟩
def lF(hi:Bool)(a:V->M V)(n:Nat):Lv:=Nat.rec ⟨λb=>none,none,none,none⟩ (λb=>UJ hi a) n
def k5:Option aY:=match(au 76).body with
 |[.Try _ [.ExceptHandler _ _ [.Return (some e) _] _] _ _ _]=>some e
 |_=>none
def ei x:=match k5 with
 |some e=>(ev TT (kW false (lF false (λa=>M.bad) 5).c) false none 40).E (au 76).scope.names [("e",x)] e
 |none=>M.bad
abbrev cF(n:Nat):ay->Option (List V->M V):=kW true (lF true ei n).c
abbrev cG(n:Nat):Option Mt:=pN ei (lF true ei n).e2
abbrev Dx(n:Nat):Ev:=ev TT (cF n) true (cG n) 60
def PF n s df:=nj (Dx n) s df
def uy(K:aE)(l:List (Nat×Fe)):Prop:=l.rec True λp b a=>Fe.rec (λs df=>(∃c,FnAt TT K p.1 s df c)/\a) (λb=>a) (λb=>a) p.2
set_option tactic.hygienic true in
theorem uy.at_{K:aE}(h:uy K l)(q:dY a l=some (.fn s df)):∃f,FnAt TT K a s df f:=by induction l with
 |nil=>exact ns q
 |cons p r c=>
 obtain⟨b,e⟩:=p;by_cases d:b=a;subst d;rw[lK]at q;obtain rfl:=ao q;exact h.1;rw[dw,beq_false_of_ne (ch d)]at q;rcases e;case fn s' g=>exact c h.2 q
 all_goals exact c h q
def ng(K:aE)(p:Nat×Fe):=keepIn K (.ref p.1)&&match p.2 with
 | .fn _ _=>true
 | .cls f=>makesIn K p.1&&fB K (.ref p.1) "__init__"==some (some (.ref f))&&isFn K (.ref f)
 | .exc f=>pU K p.1&&fB K (.ref p.1) "__init__"==some (some (.ref f))&&isFn K (.ref f)
noncomputable def yv(K:aE)(p:aa×ay):=nsIn K f7 p.1==some (some p.2)||(nsIn K f7 p.1==some none&&AQ p.1==some p.2)
noncomputable def uT:List (aa×Nat):=[("number",678),("builtin",699),("make_builtin",704),("give_own",711),("text",761),("list_of",768),("error",822),("fail",829)]
noncomputable def zZ(K:aE)(p:aa×Nat):=qo K 895 p.1&&fB K (.ref 895) p.1==some (some (.ref p.2))&&isFn K (.ref p.2)
noncomputable def oF(K:aE)(C f:Nat):=tm K (.ref C) "__getattribute__"==some (some (.builtin "type.__getattribute__"))&&readsIn K C (.type "type")&&match qs K (.ref C) (.type "type") "__init__"with
 |some (.val v)=>v==.ref f
 |_=>false
noncomputable def BZ(K:aE)(a:Nat):=qo K a "__class__"&&AV K a&&fB K (.ref a) "__class__"==some (some (.builtin "object.__class__"))&&tm K (.builtin "object.__class__") "__get__"==some (some (.builtin "getset_descriptor.__get__"))&&takesIn K (.builtin "object.__class__")==some true&&lO K a (.type "object")==some true
def xv K:=u9.all (λt=>Au.all λc=>kitOne K t c==ci t c)&&[263,243,198].all (BZ K)
noncomputable def q_ K:=codeHdIn K 1007 1005&&codeHdIn K 1014 1010&&exmOne K (.ref 71) (.ref 71)==some true&&nsIn K f7 "Raised"==some (some (.ref 71))
def uE K:=lV.all (ng K)&&pW.all (yv K)&&t7.all (λp=>p.2.all (attrOk K p.1))&&uT.all (zZ K)&&oF K 221 218&&oF K 39 36&&lO K 71 (.type "ValueError")==some true&&(qr K 71).isSome&&xv K&&q_ K
def sG(K:aE)(a:Array iS)q x:=∃b t,gm cE a q=some (.ref b)/\K.lookup b=some {cls:=.type "tuple",data:=.seq #[.str x t]}
structure KF P K:Prop where
 fn:uy K lV
 bY:uE K=true
 ve:qs K (.type "ValueError") (.type "type") "__init__"=some (.val (.builtin (jE "ValueError"++jE "."++jE (qz "__init__").toString)))
 zQ:∃es n b t,K.lookup 74=some ⟨.type "dict",none,.dict es n,#[]⟩/\wJ P es.toList/\gm cE es ("int":aa)=some (.ref b)/\K.lookup b=some {cls:=.type "tuple",data:=.seq #[.str "value" t]}
 C5:∃es n,K.lookup 631=some ⟨.type "dict",none,.dict es n,#[]⟩/\wJ P es.toList/\pH.all (λp=>match gm cE es p.1,p.2 with
 |some .none,.none=>true
 |some (.str x _),.str y=>x==y
 |_,_=>false)=true
 xm:∃es n,K.lookup 634=some ⟨.type "dict",none,.dict es n,#[]⟩/\wJ P es.toList/\sG K es "Object" "Kernel"/\sG K es "String" "Comparable"/\sG K es "Array" "Enumerable"/\
 pH.all (λp=>p.1=="Object"||p.1=="String"||p.1=="Array"||(gm cE es p.1).isNone)=true
 C2:∃t1 t2 t3,K.lookup 630=some {cls:=.type "tuple",data:=.seq #[.str "Kernel" t1,.str "Comparable" t2,.str "Enumerable" t3]}
theorem gH{e f:Type}[BEq e][LawfulBEq e]{a:e}{b:f}{l:List (e×f)}(h:dY a l=some b):(a,b)∈l:=by induction l with
 |nil=>exact ns h
 |cons p r g=>obtain⟨c,d⟩:=p;rw[dw]at h;by_cases q:a=c;subst q;rw[beq_self_eq_true]at h;exact Y (ao h)<| .head _;rw[beq_false_of_ne q]at h;exact .tail _ (g h)
theorem Va:(jE "ValueError"++jE "."++jE (qz "__init__").toString)="ValueError.__init__":=by rfl
structure KC K:Prop where
 ft:∀p∈lV,ng K p=true
 gl:∀p∈pW,yv K p=true
 ok:∀p∈t7,∀n∈p.2,attrOk K p.1 n=true
 l9:∀p∈uT,zZ K p=true
 c1:oF K 221 218=true
 c2:oF K 39 36=true
 e1:lO K 71 (.type "ValueError")=some true
 e2:(qr K 71).isSome=true
 bu:xv K=true
 met:q_ K=true
theorem KC.of{K:aE}(h:uE K=true):KC K:=by unfold uE at h;exact ut h λb c d e f g i j k a=>⟨c0.mp b,c0.mp c,λp l=>c0.mp (c0.mp d p l),c0.mp e,f,g,bI i,j,k,a⟩
set_option tactic.hygienic true in
theorem VH{K:aE}(C:KC K):∀a n,aC a n=true->attrOk K a n=true:=λa n h=>by delta aC at h;rcases b:t7.lookup a with _|l;rw[b]at h;exact ft h;rw[b]at h;exact C.ok (a,l) (gH b) n (Bp.mp h)
theorem Iz{K:aE}(C:KC K):∀a,d9 a=true->pU K a=true:=λa h=>by
 have h:a=71:=by simpa[d9]using h
 refine Y h ?_;have:=C.ft (71,.exc 68) (gH (by rfl));unfold ng at this;simp only[bO]at this;exact this.2.1.1
theorem US{K:aE}(C:KC K):∀t c b,ci t c=some b->kitOne K t c=some b/\∀a,t=.ref a->xy K a:=λt c b h=>by
 have hk:=C.bu;unfold xv at hk;rw[bO]at hk;by_cases d:(u9.contains t&&Au.contains c)=true;case neg=>exact ns ((if_neg d).symm.trans h)
 rw[bO]at d;have e:=Bp.mp d.1;refine⟨(bI (c0.mp (c0.mp hk.1 t e) c (Bp.mp d.2))).trans h,λa f=>?_⟩;subst f;have:=c0.mp hk.2 a (by simpa[u9]using e);unfold BZ at this;exact ET this λg i j k l m=>(mW g i (bI j) (bI k) ⟨bI l,bI m⟩)
structure Ctx(prog:dO)(w:cN)hb(K:aE):Prop where
 X:K.In hb
 lim:hb.NoLimit
 ns:∃mg mb,hb.Ns f7 mg/\hb.Ns s7 mb/\(∀p∈pW,mb p.1=AQ p.1)/\hb.BuiltinsAt mg 1005/\hb.BuiltinsAt mg 1010
 kf:KF w.params K
set_option tactic.hygienic true in
theorem Js{K:aE}(C:Ctx prog w H K):vk prog w H aZ:=by
 intro A φ s c q t x j L h;by_cases a:(c==.ref 74)=true;have h:=(if_pos a).symm.trans h;have a:=bI a;refine Y a ?_;by_cases e:q="int";refine ae (ao ((if_pos e).symm.trans h)) ?_;subst e;refine eZ C.kf.zQ λv n b tk k r=>bN r λl m h4=>?_;have f:=t8 (prog:=prog) C.X k l j;have g:=C.X _ _ h4;exact(fh (bQ ("dict") _ f.typeIs A0.lookup) (.ref b) (.tup b 0 _ [.str "value" tk] (j _ _ g) (λo=>ns ((L b o).symm.trans g)) (.cons _ _ _ _ (.str _ _) .nil)) (λQ E e=>A3 (ku prog w _ t) f m (e _)));exact ns ((if_neg e).symm.trans h);have h:=(if_neg a).symm.trans h;by_cases d:(c==.ref 631)=true;case neg=>exact ns ((if_neg d).symm.trans h)
 have d:=bI d;subst d;refine fQ C.kf.C5 λv n k l m=>?_;have f:=t8 (prog:=prog) C.X k l j;have:=c0.mp m (q,x) (gH ((if_pos d).symm.trans h));dsimp only at this;rcases i:gm cE v q with _|p;rw[i]at this;exact ft this;rw[i]at this;rcases p;case none=>
  rcases x;case none=>exact(fh (bQ ("dict") _ f.typeIs A0.lookup) .none .none (λQ E e=>A3 (ku prog w _ t) f i (e _)))
  all_goals exact ft this
 case str y p=>
  rcases x;case str af=>have:=bI this;exact ae this<|(fh (bQ ("dict") _ f.typeIs A0.lookup) (.str y p) (.str _ _) (λQ E e=>A3 (ku prog w _ t) f i (e _)))
  all_goals exact ft this
 all_goals exact ft this
theorem Ly{K:aE} (C : Ctx prog w g K) : pe prog w g i_ := by
  intro A s c q t b o h
  by_cases d : (c == .ref 74) = true
  · have h := (if_pos d).symm.trans h
    have d := bI d
    refine Y d ?_
    by_cases i : q = "int"
    · skip
      refine ae (ao ((if_pos i).symm.trans h)) ?_
      subst i
      refine bh λr j =>eZ C.kf.zQ λy n b tk k m =>bN m λv x H => ?_
      skip
      exact j<|λQ E l => G_ (by decide) (t8 C.X k v o) (Y x<|l _)
    · exact ns ((if_neg i).symm.trans h)
  · have h := (if_neg d).symm.trans h
    by_cases f : (c == .ref 630) = true
    case neg => exact ns ((if_neg f).symm.trans h)
    skip
    have f := bI f
    subst f
    refine bh λr j =>ui C.kf.C2 λL t2 t3 k => ?_
    skip
    refine ad (ij.mp ((if_pos f).symm.trans h)) λp hp e =>j<|λQ E l
    =>contains_tuple_strs (ys := ["Kernel", "Comparable", "Enumerable"]) (bn _ (o _ _ (C.X _ _ k)) rfl ⟨_, rfl⟩) ?_ ?_
    · exact .cons _ _ (.cons _ _ (.cons _ _ .nil))
    · have g : b = (["Kernel", "Comparable", "Enumerable"] : List aa).any (· == q) := by
        refine ae e<|(?_ : (decide (q = "Kernel") || decide (q = "Comparable") || decide (q = "Enumerable")) = ((("Kernel") == q) || ((("Comparable") == q) || ((("Enumerable") == q) || false))))
        refine Y (A_ _)<|Y (Bool.or_assoc _ _ _)<|Y (H9)<|Y (H9 (a := ("Comparable" : aa)))<|Y (H9 (a := ("Enumerable" : aa))) ?_
        rfl
      exact ae g<|l _
set_option tactic.hygienic true in
theorem Lb{K:aE}(C:Ctx prog w p K):Cb prog w p 634 oV:=by
 intro A φ s q x k r h;refine je C.kf.xm λl n t H L Q j=>xA j λm3 h3=>(ak _ (t8 C.X t H k) ?_);have a:∀y d,sG K l y d->∃v,gm cE l y=some v/\am φ s.heap (.tup [.str d]) v:=λy d m=>by refine bZ m λb tk e2 hk=>?_;have c:=C.X _ _ hk;exact(ak (.ref b) e2 (.tup b 0 _ [.str d tk] (k _ _ c) (λo=>ns ((r b o).symm.trans c)) (.cons _ _ _ _ (.str _ _) .nil)))
 delta oV at h;rcases e:pH.lookup q with _|y;rw[e]at h;exact ns h;rw[e]at h;refine ae (ao h) ?_;by_cases f:q="Object";exact Y f<|Y (if_pos rfl)<|a _ _ L;refine Y (if_neg f) ?_;by_cases g:q="String";exact Y g<|Y (if_pos rfl)<|a _ _ Q;refine Y (if_neg g) ?_;by_cases i:q="Array";exact Y i<|Y (if_pos rfl)<|a _ _ m3;refine Y (if_neg i) ?_;have:=c0.mp h3 (q,y) (gH e);simp only[gR,beq_iff_eq,f,g,i,false_or]at this;simpa using this
theorem M6{K:aE}(C:Ctx prog w i K)x c(h:dY x pW=some c)(b:(x==("__debug__":aa))=false)k a loc pos(d:a.kindOf x=some .globalImplicit):aF prog w i k a loc (.Name x pos) (M.ret (.g c)):=by have f:=gH h;have:=(KC.of C.kf.bY).gl (x,c) f;refine mz C.ns λm mb g j l n=>?_;unfold yv at this;rw[gR]at this;rcases this with e|e;exact QC (mb:=mb) C.X g d (bI e) b;rw[bO]at e;exact SJ C.X g j (l _ f) d (bI e.1) (bI e.2) b
theorem P5{K:aE}(C:Ctx prog w a K)(h:p∈uT):dH prog w a p.1 (bF 895 p.1) (.ref p.2):=by have:=(KC.of C.kf.bY).l9 p h;unfold zZ at this;rw[bO,bO]at this;exact dH.inst C.X this.1.1 (bI this.1.2) this.2
set_option tactic.hygienic true in
theorem NO{K:aE}(C:Ctx prog w a K):dH prog w a "get" mY (.builtin "dict.get"):=by
 intro A φ s H o c r H' G b e;have d:dH prog w a "get" (uO (.ref 634)) (.builtin "dict.get"):=dH.g λs f=>bZ C.kf.xm λg n q h=>(bn _ (f _ _ (C.X _ _ q)) rfl rfl)
 rcases o;case g i=>exact d A φ s H _ c r H' G b e
 all_goals exact(dH.dict wE W5) A φ s H _ c r H' G b e
theorem RV{K:aE}(C:Ctx prog w d K)name c f(h:dY name zt=some (c,f)):dH prog w d name c f:=by have b:∀{n}{a},(n,a)∈uT->(λp=>dH prog w d p.1 p.2.1 p.2.2) (wm n a):=λh=>P5 C h;have e:∀p∈zt,(λp=>dH prog w d p.1 p.2.1 p.2.2) p:=Ar.cQ (dH.list PySem.F.slot_list_append PySem.F.type_list_append)<|Ar.cQ (dH.list WD PySem.F.type_list_extend)<|Ar.cQ (NO C)<|Ar.cQ (dH.dict WF PySem.F.type_dict_items)<|Ar.cQ (b (.head _))<|Ar.cQ (b (.tail _ (.head _)))<|Ar.cQ (b (.tail _ (.tail _ (.head _))))<|Ar.cQ (b (.tail _ (.tail _ (.tail _ (.head _)))))<|Ar.cQ (b (.tail _ (.tail _ (.tail _ (.tail _ (.head _))))))<|Ar.cQ (b (.tail _ (.tail _ (.tail _ (.tail _ (.tail _ (.head _)))))))<|Ar.cQ (b (.tail _ (.tail _ (.tail _ (.tail _ (.tail _ (.tail _ (.head _))))))))<|Ar.cQ (b (.tail _ (.tail _ (.tail _ (.tail _ (.tail _ (.tail _ (.tail _ (.head _))))))))) λg h=>nomatch h;exact e (name,c,f) (gH h)
theorem Ci{K:aE}(h:oF K a f=true):tm K (.ref a) "__getattribute__"=some (some (.builtin "type.__getattribute__"))/\readsIn K a (.type "type")=true/\qs K (.ref a) (.type "type") "__init__"=some (.val (.ref f)):=by
 unfold oF at h;rw[bO,bO]at h;refine(aX (bI h.1.1) h.1.2 ?_);have h:=h.2;generalize qs K (.ref a) (.type "type") "__init__"=o at h;rcases o with _|c;exact ft h;rcases c;case val v=>refine Y (bI h) ?_;rfl
 all_goals exact ft h
theorem uN{K:aE} (C : Ctx prog w A K) : fR prog w A K TT where
  XK := C.X
  gl := λx c h H k i loc pos L => M6 C x c h H k i loc pos L
  tabI := Js C
  nB := Ly C
  ok := VH (KC.of C.kf.bY)
  l9 := RV C
  pP := λc name f h k i loc Q v pos y ms m hk j n o a b p => by
    replace h : CU c name = some f := h
    have kc := KC.of C.kf.bY
    by_cases t : name = "__init__"
    case neg => exact ns ((if_neg t).symm.trans h)
    subst t
    rcases ca.mp (gH (l := GZ) h) with e | h
    · injection e with d g
      subst d; subst g
      exact bN (Ci kc.c1) λq r s =>EW C.X j q r s hk n o a b p
    rcases ca.mp h with e | h
    · injection e with d g
      subst d; subst g
      exact bN (Ci kc.c2) λq r s =>EW C.X j q r s hk n o a b p
    · injection dW.mp h with d g
      subst d; subst g
      exact Os C.X j (by rfl) (by kernel_rfl) (Va ▸ C.kf.ve) (by rfl) hk n o a b p
  exc := Iz (KC.of C.kf.bY)
def jR prog w a:=∀k,50<=k->ck prog w a k (.builtin "sorted") (F1 X.sorted)
theorem Nf{K:aE}(C:Ctx prog w f K):ck prog w f k (.builtin "dict.get") D8:=by intro A φ s H vs d R G e;rcases vs with _|⟨a,_|⟨b,_|⟨c,_|_⟩⟩⟩;exact z.bad;exact z.bad;exact Ol A φ s H [a,b] d R G e;exact JZ (Lb C) (by decide) A φ s H [a,b,c] d R G e;exact z.bad
theorem MT{K:aE}(C:Ctx prog w b K)(S:jR prog w b)(hk:hi=true->50<=k)(h:FT hi s=some m):ck prog w b k (.builtin s) m:=by
 have kc:=KC.of C.kf.bY;have a:∀p∈xi,ck prog w b k (.builtin p.1) p.2:=Ar.cQ OY (Ar.cQ J5 (Ar.cQ (R_ C.X (US kc)) (Ar.cQ Ej (Ar.cQ SU (Ar.cQ (Nf C) (Ar.cQ Ul (Ar.cQ (Ok C.X λd c=>by
  have c:d=71:=by simpa[d9]using c
  exact Y c<|⟨kc.e1,kc.e2⟩) λp e=>(f4 e).elim)))))))
 rcases hi;exact a (s,m) (gH h);exact Ar.cQ (F:=λp=>ck prog w b k (.builtin p.1) p.2) (KO (hk rfl)) (Ar.cQ (S k (hk rfl)) a) (s,m) (gH h)
theorem LP(hk:hi=true->50<=k)(h:Gs hi s=some m):ck prog w b k (.type s) m:=by have a:∀p∈Ae,ck prog w b k (.type p.1) p.2:=Ar.cQ V1 (Ar.cQ P1 (Ar.cQ T4 (Ar.cQ Ux λp c=>(f4 c).elim)));rcases hi;exact a (s,m) (gH h);exact Ar.cQ (F:=λp=>ck prog w b k (.type p.1) p.2) (JF (hk rfl)) a (s,m) (gH h)
theorem ES{K:aE}(C:Ctx prog w b K){mt:Option Mt}(h:oD hi c mt a=some m):∃e,dY a lV=some e/\ng K (a,e)=true:=by unfold oD at h;have kc:=KC.of C.kf.bY;rcases q:dY a lV with _|e;rw[q]at h;exact ns h;exact(ak e rfl (kc.ft (a,e) (gH q)))
set_option tactic.hygienic true in
theorem V9{K:aE}(C:Ctx prog w i K){c:Nat->Option (List V->M V)}{mt:Option Mt}(l:∀a m,c a=some m->iN prog w i k (.ref a) m)(E:fL prog w i k TT (ev TT (kW hi c) hi mt 60))(h:oD hi c mt a=some m):iN prog w i (k+1) (.ref a) m:=by
 refine ad (ES C h) λe q b=>?_;unfold oD at h;rw[q]at h;unfold ng at b;rw[bO]at b;rcases e;case fn s df=>injection h with d;subst d;exact xE (C.kf.fn.at_ q) λn F=>SR C.X C.lim F E
 case cls f=>dsimp only at h b;rcases g:c f with _|j;rw[g]at h;injection h;rw[g]at h;injection h with d;subst d;have b:=b.2;rw[bO,bO]at b;exact KR C.X b.1.1 (bI b.1.2) (bI b.2) (l f j g)
 case exc f=>dsimp only at h b;rcases g:c f with _|j;rw[g]at h;injection h;rw[g]at h;injection h with d;subst d;have b:=b.2;rw[bO,bO]at b;exact Tp C.X b.1.1 (bI b.1.2) (bI b.2) (l f j g)
set_option tactic.hygienic true in
theorem V7{K:aE}(C:Ctx prog w d K)(S:jR prog w d)(hk:hi=true->50<=k){c:Nat->Option (List V->M V)}(e:∀a m,c a=some m->iN prog w d k (.ref a) m)(b:∀a m,c a=some m->gW K (.ref a)):lW prog w d K k (kW hi c):=by
 intro f m h;rcases f;case builtin s=>exact⟨MT C S hk h,N6⟩
 case type s=>exact⟨LP hk h,Ad⟩
 case ref a=>exact⟨(e _ _ h).toF,b _ _ h⟩
 all_goals exact ns h
structure pX prog w hb K hi hd b n:Prop where
 run:∀a m,(lF hi hd n).c a=some m->iN prog w hb (b+n) (.ref a) m
 keep:∀a m,(lF hi hd n).c a=some m->gW K (.ref a)
theorem pX.call{K:aE}(C:Ctx prog w a K)(S:jR prog w a)(hk:hi=true->50<=b)(h:pX prog w a K hi c b n):lW prog w a K (b+n) (kW hi (lF hi c n).c):=V7 C S (λq=>aG (hk q) (eC _ _)) h.run h.keep
theorem FU{K:aE}(C:Ctx prog w d K)(S:jR prog w d)(hk:hi=true->50<=b)(j:∀n,(∀m,m<=n->pX prog w d K hi f b m)->kY prog w d K (b+n) TT hi (pN f (lF hi f n).e2)):∀n m,m<=n->pX prog w d K hi f b m:=by
 intro n;induction n with
 |zero=>intro m c;have c:m=0:=an [.le J 0] (.eq J 0) B c;exact Y c<|⟨λa m h=>(ns h),λa m h=>(ns h)⟩
 |succ n g=>intro m c;by_cases q:m<=n;exact g m q;have c:m=n+1:=ah [.le J (U+1),.n (.le J U)] (.eq J (U+1)) B c q;refine Y c ?_;have L:=g n (aS _);exact⟨λa m h=>V9 C L.run (oN (j n g) (uN C) (L.call C S hk) (λq=>aG (hk q) (eC _ _)) 60) h,λa m h=>by refine ad (ES C h) λe q i=>?_;unfold ng at i;rw[bO]at i;exact Dd i.1⟩
structure tZ where
 c:Nat
 tk:Nat
 cp:fp
 p:fp
 pos:fp
 tp:fp
 rp:fp
 xC:fp
 k7:fp
 p1:fp
 p4:fp
 pQ:aY
noncomputable def tZ.body(m:tZ):List fw:=[.Try [.Return (some (.Tuple [.Constant (.str "told") m.c m.cp,.Call (.Name "deed" m.p) [] [] m.pos] m.tk m.tp)) m.p1] [.ExceptHandler (some (.Name "Raised" m.rp)) (some "e") [.Return (some m.pQ) m.xC] m.k7] [] [] m.p4]
def Nz:tZ:=⟨0,0,⟨630,16,630,22⟩,⟨630,24,630,28⟩,⟨630,24,630,30⟩,⟨630,15,630,31⟩,⟨631,11,631,17⟩,⟨632,8,632,63⟩,⟨631,4,632,63⟩,⟨630,8,630,31⟩,⟨629,4,632,63⟩,k5.getD (.Constant .none 0 ⟨0,0,0,0⟩)⟩
theorem Pj:(au 76).body=Nz.body:=by kernel_rfl
theorem Fp:(au 76).ps=[("world":aa),("deed":aa)]:=by kernel_rfl
theorem PH:dY ("e":aa) (au 76).scope.names=some .local:=by kernel_rfl
theorem LU:dY ("Raised":aa) (au 76).scope.names=some .globalImplicit:=by kernel_rfl
theorem SL{m:tZ}(h:(au 76).body=m.body):k5=some m.pQ:=by unfold k5;refine Y h ?_;rfl
set_option tactic.hygienic true in
theorem OD(h:ul T c b=some (f,d,a,g)):c=.ref T.met/\∃i,b=[.Name f i,.Lambda ⟨[],[],none,[],[],none,[]⟩ d a g]:=by refine cU h λq h=>h_ h λn hz h=>h_ h λw j h=>rh h λl k e=>xE (xM j) λp m=>?_;obtain⟨rfl,rfl⟩:=W_ e;refine⟨bI q,p,(Dr hz).trans ?_⟩;exact Y m<|Y (TB k) rfl
theorem Tt(Q:cq T sc d)(h:Am T a=true)(A:g_ sc loc a.names=some o):∃g,mO a d=pure g/\Taken d g/\a.kind=.function/\a.isCoroutine=false/\a.isGenerator=false/\(∀x∈a.names,x.2≠.cell)/\∀i f L k,jt d (jH i a L f k g) loc o/\cq T a.names (jH i a L f k g):=by
 unfold Am at h;simp only[bO,mF]at h;refine bh λR' l=>xA h λp h5=>xA p λr h4=>xA r λs h3=>xA s λt C=>xA t λm h1=>l ?_;have H:∀x∈a.names,x.2≠.cell:=λx n e=>by have:=c0.mp h3 x n;rw[e]at this;exact ft this
 have w:oZ T a=true:=by unfold oZ;simp only[bO];refine⟨⟨⟨m,h1⟩,C⟩,c0.mpr λx n=>?_⟩;have:=H x n;simpa using this
 have b:=yS Q w A;refine xA (CP A) λc1 c2=>(dS _ b.rk b.taken b.kind (bA h5 h4 b.cell (λi f L k=>⟨λy v e=>?_,b.kind,λx q=>q,λx q=>q,λx q=>absurd rfl (H _ (mem_of_lookup q)),λx q=>?_,λj P c q e=>by rw[e]at m;exact ft m⟩)));exact bh λR' l=>cW (b.aB 0 y v e) λa1 a2 a3 a4=>l<|(bA a1 a2 (.inr (wb (nF C) (c1 y v e).1)) a4);exact⟨.inr q,((b.env 0).free x q).2⟩
theorem Vx{K:aE}(C:Ctx prog w l K)(h:TT.tb m=some (j,P,c,q)):CodeHd l c P/\(P=1005\/P=1010):=by have k:=(KC.of C.kf.bY).met;unfold q_ at k;refine o6 k λn o p p=>?_;replace h:xL m=some (j,P,c,q):=h;unfold xL at h;split at h;injection h with a;injection a with b d;subst b;injection d with e f;subst e;injection f with g i;subst g;subst i;exact⟨H_ C.X n,.inl rfl⟩;split at h;injection h with a;injection a with b d;subst b;injection d with e f;subst e;injection f with g i;subst g;subst i;exact⟨H_ C.X o,.inr rfl⟩;injection h
theorem U7(h:M.tabAt o d H=some (r,H')):∃j P c q pos,o=some (j,P,c,q)/\H[j]? =some (.tab P pos (q++"<lambda>"))/\pos.line=d.line/\pos.col=d.col/\r=.ok ()/\H'=H:=by rcases o with _|⟨j,P,c,q⟩;exact ns h;have h:M.opt (λH=>(H[j]?).bind λb=>b.zn.bind λa=>if a.1=P/\a.2.1.line=d.line/\a.2.1.col=d.col/\a.2.2=q++"<lambda>"then some ()else none) H=some (r,H'):=h;exact M.Ap h λt f g i=>h_ f λb k e=>h_ e λa hz e=>cU e λl v=>cW l λm n p s=>lu j P c q a.2.1 rfl (mW (k.trans (congrArg some ((tab_of hz).trans (Y m<|Y s rfl)))) n p g i)
theorem Uv{K:aE}(C:Ctx prog w o K)(af:kk<=k)(j:kk<50)(HO:∀e,k5=some e->∀i,cq TT (au 76).scope.names i->∀x,aF prog w o kk i [("e",x)] e (h x))(R:bw (k+1) A)(G:Good w o A φ H s.heap)(L:jV prog w o k φ s.heap f m)(hv:am φ s.heap vw cw):z prog w o aI A φ s H (call (.ref 989) [cw,.ref f]) (M.met d9 m h) am:=by
 refine λr H' e Q E hQ hE=>xE (C.kf.fn.at_ (by rfl:dY 989 lV=some (.fn (au 76) []))) λdv y=>ji y.at_ λqn ai pm cd dc hl aj=>bN aj λap av ax=>?_;have ok:=y.ok;unfold sK at ok;(refine ut ok λo1 o2 d g g g g o8 o9 a=>?_;try replace o1:=nt o1;try replace o2:=nt o2;try replace d:=nt d;try replace o8:=nt o8;try replace o9:=nt o9;try replace a:=nt a);have d:(au 76).scope.kind=.function:=by simpa using d
 have a:∀p∈(au 76).scope.names,p.2≠.free:=λp hp e=>by have:=c0.mp a p hp;rw[e]at this;exact ft this
 have a0:=Xe ((y.Ag φ s.heap).length);subst a0;have b:=Pj;have c:(au 76).ps.length=2:=Y Fp ?_;rfl;refine xE R.2.2.2 λl a1=>?_;have km:=(KC.of C.kf.bY).met;unfold q_ at km;simp only[bO,beq_iff_eq]at km;refine xA km λa2 mr=>xA a2 λg mx=>bZ C.ns λmg g hg g=>qh (GA (mb:=(M.met d9 m h).bd λv=>M.ret (.ret v)) (post:=λl:Loc=>l) C.X C.lim hl rfl rfl ap rfl rfl rfl (nF o8) o9 o1 o2 d R G (kp_binds (C.X.keeps G.rel.base) (λS=>by have:=ax [cw,.ref f] (Y c<|aS _) (Y c<|aS _) S;simpa using this)) (.cons _ _ _ _ hv (.cons _ _ _ _ (.g _) .nil)) (by refine Y c ?_;rfl) (λL' s' S' G' F'=>?_) ?_ hQ hE);have t:=D_ (df:=ai) (pm:=pm) (dc:=dc) (L:=L') (f:=989) av d a;refine Y b ?_;rw[Fp]at F';refine I7 (Rr:=71) C.X (by refine(?_:A.frames.map _=_);refine Y a1 ?_;rfl) rfl R.deeper af j G' F' (L.step S') (by rfl) (by rfl) (by rfl) (t.loc _ PH) (λa8 a7 Q E a3 q=>?_) (λa5 hD=>?_) (HO _ (SL b) _ t);exact Ho t.kind (t.D7 _ LU) (loadGlobal_global (hg.keeps a3) (mg_of C.X hg mr) q) (by rfl);have hD:a5=71:=by simpa[d9]using hD
 exact Y hD<|mx;refine ae e ?_;delta M.fin M.bd M.ret;rcases M.met d9 m h H with _|a6;rfl;obtain⟨n,a4⟩:=a6;rcases n<;>rfl
theorem Na{K:aE}(C:Ctx prog w hb K){mt:Mt}(EO:∀sc d loc e,cq TT sc d->aF prog w hb k d loc e (mt.E sc loc e))(bv:kk<=k+1)(a7:kk<50)(HO:∀e,k5=some e->∀d,cq TT (au 76).scope.names d->∀x,aF prog w hb kk d [("e",x)] e (mt.h x)):kY prog w hb K (k+2) TT true (some mt):=by
 refine λsc d loc c x p pos b9 wn h g lp EN bx a8=>bh λR' k'=>xA (OD a8) λax a0=>?_;subst ax;refine xE a0 λpw b0=>?_;subst b0;refine k' ?_;delta sR;rcases a9:g_ sc loc g.names with _|ct;exact cX;refine jn λhl=>bh λR' k'=>cT (Tt EN (by simpa using hl) a9) λcl a3 T hk a1=>cW a1 λb3 a' a4 y=>k' ?_;intro A φ s H R G F;have b4:br (.Call (.Name x p) [.Name wn pw,.Lambda ⟨[],[],none,[],[],none,[]⟩ h g lp] [] pos) d=(do qk pos (<-br (.Name x p) d) [] (fy pos (d4 [.Name wn pw,.Lambda ⟨[],[],none,[],[],none,[]⟩ h g lp] d)) (lL pos (lM [] d))):=by rfl
 refine Y b4<|z.pS (bx A φ s H R G F) λa5 af c bb ai q=>?_;rcases q;intro r H' e Q E hQ hE;have he:d4 [.Name wn pw,.Lambda ⟨[],[],none,[],[],none,[]⟩ h g lp] d=[(false,br (.Name wn pw) d),(false,br (.Lambda ⟨[],[],none,[],[],none,[]⟩ h g lp) d)]:=by rfl
 refine Y he ?_;have ke:=(KC.of C.kf.bY).ft (989,.fn (au 76) []) (gH (by rfl));unfold ng at ke;rw[bO]at ke;refine wv rfl (Dd ke.1 _)<|AR (x:=br (.Name wn pw) d)<|(?_:aJ (aq prog w) A (br (.Name wn pw) d>>=λv=>nX [v] (br (.Lambda ⟨[],[],none,[],[],none,[]⟩ h g lp) d>>=λb8=>nX [b8] (pure [])>>=λm=>pure ([b8]++m))>>=λm=>pure ([v]++m)) _ _ af);unfold M.bd at e;rcases hn:rZ TT sc loc wn H with _|cs;rw[hn]at e;injection e;obtain⟨bc,aj⟩:=cs;rw[hn]at e;refine ag (DR (uN C) EN A a5 af H R bb (F.step ai) bc aj hn _ _ (λt ap vw cw hr n o hv=>?_) (λt ap bk bm hr n i=>?_));subst hr;dsimp only at e;rcases ht:M.tabAt (TT.tb sc) lp aj with _|bs;rw[ht]at e;injection e;refine bh λR' k'=>?_;obtain⟨b',cd⟩:=bs;refine ji (U7 ht) λj P c q tp a6 a1=>hZ a1 λhj l1 l2 ax a0=>?_;subst ax;subst a0;refine k' ?_;rw[ht]at e;dsimp only at e;refine bh λR' k'=>xA (Vx C a6) λhC hP=>xA (EN.code j P c q a6) λec eq=>je C.ns λmg o0 hg o0 o0 b1 b2=>?_;have i:=(F.step ai).step o.toStep;refine k'<|ag (da (ag (VM n i.gl hg (by rcases hP with rfl|rfl<;>assumption) ec hC hj l1 l2 (Y eq rfl) a3 λcf f av l LA=>?_)));refine ag (da (aK (aK (aK ⟨C.X.keeps av.rel.base,?_⟩))));exact Uv C bv a7 HO R av (jV.of C.lim (i.step l) LA T (λL cv=>(y _ _ L cv).1) hk b3 a' a4 λL cv=>EO _ _ _ _ (y _ _ L cv).2) (hv.be l) r H' e Q E (λa2 s' b a hr G' S' p=>hQ a2 s' b a hr G' ((o.trans l).trans S') p) (λa2 s' x e' hr G' F'=>hE a2 s' x e' hr G' (F'.after (o.trans l)));subst hr;injection e with b5;injection b5 with b6 b7;subst b6;subst b7;exact hE t ap bk bm rfl n i
theorem tW{K:aE}:kY prog w h K k T hi none:=λi f loc c x p pos b j d a l m g e=>cX
theorem Fh{K:aE}{mt:Option Mt}:kY prog w j K k T false mt:=by intro f g loc c x p pos b l d a m n h e;delta sR;rcases mt with _|mt;exact cX;rcases g_ f loc a.names with _|i;exact cX;exact cX
theorem Ke{K:aE}(C:Ctx prog w b K)(S:jR prog w b)e(c:k5=some e)a(d:cq TT (au 76).scope.names a)x:aF prog w b 5 a [("e",x)] e (ei x):=by unfold ei;exact Y c<|(oN Fh (uN C) ((FU C S (Ia) (λn f=>Fh) 5 5 (aS _)).call C S (Ia)) (Ia) 40).E _ _ _ _ d
theorem Lu{K:aE}(C:Ctx prog w a K)(S:jR prog w a):∀n,(∀m,m<=n->pX prog w a K true ei 50 m)->kY prog w a K (50+n) TT true (pN ei (lF true ei n).e2)
 |0,_=>tW
 |1,_=>tW
 |2,_=>tW
 |n+3,L=>Na C (oN tW (uN C) ((L (n+1) (an [] (.le (J+1) (J+3)) B)).call C S (λb=>aS _)) (λb=>eC _ _) 60).E (an [] (.le 5 (50+(J+1)+1)) B) (lb B) (Ke C S)
theorem S3{K:aE}(C:Ctx prog w a K)(S:jR prog w a)n:pX prog w a K true ei 50 n:=FU C S (λb=>aS _) (Lu C S) n n (aS _)
noncomputable def fdOf(K:aE)(a:Nat):Bo:=match K.lookup a with
 |some ⟨_,_,.func b,_⟩=>b
 |_=>default
abbrev yU(K:aE)(a:Nat)(s:Src):Bo:=vU s (fdOf K a).qualname (fdOf K a).defaults (fdOf K a).pyModule (fdOf K a).code (fdOf K a).doc
def Binds(K:aE)(a:Nat)(s:Src)(c:List ay)b:=∀S,peek K S (bindArgs (yU K a s) ⟨b,[]⟩)=some (s.ps.zip (b++c.drop (b.length+c.length- s.ps.length)))
theorem vh{K:aE}{a:Nat}n(d:s.ps.length=n)(e:sK s=true)(f:∀φ h,aH φ h df c)(g:K.lookup a=some ⟨.type "function",none,.func (yU K a s),#[]⟩)(i:wu K (fdOf K a).code (fdOf K a).qualname=true)(j:sQ TT s (fdOf K a).qualname (fdOf K a).code=true)(k:∀b,b.length<=n->n<=b.length+c.length->Binds K a s c b):FnAt TT K a s df c:=⟨e,f,_,_,_,_,_,g,i,j,λb l m=>k b (d▸l) (d▸m)⟩
theorem Mk φ h:aH φ h [] []:=.nil
noncomputable def kK:Nat->(List ay->Prop)->Prop
 |0,P=>P []
 |n+1,P=>∀a,kK n λr=>P (a::r)
theorem kK.ok:∀{P},kK n P->∀b,b.length=n->P b:=by induction n with
 |zero=>intro P h b e;exact Y (Xe e)<|h
 |succ n c=>intro P h b e;rcases b with _|⟨a,r⟩;injection e;exact c (h a) r (bX e)
theorem Ut(h:kK n P)a(b:a.length<=n)(c:n<=a.length+([]:List ay).length):P a:=h.ok a (Xf b c)
noncomputable def sv(x:aa)(v:V):=(x,v)
def r_(vs:List V):=Ab TT [((".0"),NameKind.local),(("name"),NameKind.local),(("node"),NameKind.local)] ((([("name":aa),("node")]).zip vs).reverse++([]:Loc)) "name" M.ret
noncomputable def Df(b:List fw)(i:Nat):List fw:=match b[i]? with
 |some (.If _ a _ _)=>a
 |_=>[]
noncomputable def fb(a:List fw)(i:Nat):List fw:=match a[i]? with
 |some (.For _ _ b _ _)=>b
 |_=>[]
def FG(n:Nat)(s:Src)loc:=kS TT (cF n) true (cG n) 60 V s.scope.names loc s.body M.ret λa=>M.ret .none
theorem bp(h:uz s.ps.length df vs=some fvs):PF n s df vs=FG n s (s.ps.zip fvs):=by delta PF nj FG;refine Y h<|Bq ?_ ((Fz 60).S V _ _ _ _ _).symm;refine(?_:((Dx n).S s.scope.names (s.ps.zip fvs) s.body).bd (λo=>M.ret o.val)=_);exact congrArg _ (funext λo=>by rcases o<;>rfl)
def xo n:=PF n (au 63) []
def gI n:=PF n (au 64) []
def p6 n:=PF n (au 65) []
def vM n:=PF n (au 66) []
def vF n:=PF n (au 67) []
def mm n:=PF n (au 68) []
def pA n:=PF n (au 69) []
def u4 n:=PF n (au 70) []
def oE n:=PF n (au 71) []
def yQ n:=PF n (au 72) []
def uh n:=PF n (au 73) []
def vZ n:=PF n (au 74) []
def zR n:=PF n (au 75) []
def qU n:=PF n (au 77) []
def qR n:=PF n (au 78) []
def wg n:=PF n (au 79) []
def z_ n:=PF n (au 80) []
def vN n:=PF n (au 81) []
def Gi n:=PF n (cb 61 0) [.none,.none,.int 20000]
def pY n:=PF n (cb 61 3) []
def j4 n:=PF n (cb 61 6) []
def zx n:=PF n (cb 61 7) []
def zM n:=PF n (cb 61 8) []
def vd n:=PF n (cb 61 15) []
def rJ n:=PF n (cb 61 16) []
def FN n:=PF n (cb 61 24) []
def Fm n:=PF n (cb 61 25) []
def nG n:=PF n (cb 13 0) []
def zN n:=PF n (cb 14 0) []
def zm n:=PF n (cb 15 0) []
def zr n:=PF n (cb 19 0) []
def Af n:=PF n (cb 21 0) [.none,.bool false,.none,.none]
def Gf n:=PF n (cb 2 0) []
def vI n:=PF n (cb 4 0) []
def yW n:=PF n (cb 7 0) [.tup [],.int 0]
def xp n:=PF n (cb 8 0) []
def uD n:=PF n (au 23) []
def uY n:=PF n (au 24) []
def mD n:=PF n (au 39) []
def pC n:=PF n (au 40) []
def zI n:=PF n (au 41) []
def vl n:=PF n (au 42) []
def xe n:=PF n (au 43) []
def l8 n:=PF n (au 44) []
def uq n:=PF n (au 45) []
def rm n:=PF n (au 46) []
def vg n:=PF n (au 47) []
def uR n:=PF n (au 48) []
def zX n:=PF n (au 49) []
def r5 n:=PF n (au 50) []
def uw n:=PF n (au 51) []
def l4 n:=PF n (au 52) []
def sS(a b:V):Loc:=[sv "script" a,sv "fold" b]
def Da n l v:=fc (kS TT (cF (n+2)) true (cG (n+2)) 58) (au 63).scope.names (fb (au 63).body 1) l.length (ew "cell" v l)
theorem Rl n a b c:Da n (sS a b) c=(X.mul b (.int 1000003)).bd λe=>(X.abs c).bd λf=>(X.mul (.int 2) f).bd λg=>(X.add e g).bd λh=>(X.lt c (.int 0)).bd λi=>(X.int i).bd λj=>(X.add h j).bd λk=>(X.pow (.int 10) (.int 150)).bd λl=>(X.fmod k l).bd λd=>M.ret (.go (sS a d)):=by kernel_rfl
def BQ n l:=kS TT (cF (n+2)) true (cG (n+2)) 58 (V) (au 63).scope.names l ((au 63).body.drop 2) M.ret (λa=>M.ret .none)
theorem O5 n a b:BQ n (sS a b)=(X.fmod b (.int 1000003)).bd λc=>(X.len a).bd λd=>(X.min (.int 3) d).bd λe=>(M.alloc (.list [b,(.int 0),c,e])).bd λf=>M.ret f:=by kernel_rfl
def Ui n a b:=(X.slice a .none (.int 30)).bd λc=>(M.eO c (sS a b) (Da n)).bd (M.cg M.ret (BQ n))
def O4 n a:=Ui n a (.int 0)
theorem JH n a:xo (n+2) [a]=O4 n a:=(bp (fvs:=[a]) (by kernel_rfl)).trans (by kernel_rfl)
def Vl(n:Nat)(a c b:V):=(X.item aZ a (.int 0)).bd λd=>(X.fdiv d c).bd λe=>(X.setItem a (.int 0) e).bd λf=>M.ret b
def JP n a b:=(X.item aZ a (.int 0)).bd λc=>(X.fmod c b).bd λd=>Vl n a b d
def Mz(n:Nat)a b:=(X.mul a a).bd λc=>(X.fmod c (.int 2147483629)).bd λd=>(X.fdiv d (.int 8)).bd λe=>(X.fmod e b).bd λf=>M.ret f
def Lq n a b:=(X.item aZ a (.int 2)).bd λg=>(X.item aZ a (.int 1)).bd λh=>(X.mul (.int 7919) h).bd λi=>(X.add g i).bd λc=>(X.add c (.int 13)).bd λd=>(X.pow d (.int 3)).bd λe=>(X.fmod e (.int 2147483647)).bd λf=>Mz n f b
def Ou n a b:=(X.item aZ a (.int 1)).bd λc=>(X.add c (.int 1)).bd λd=>(X.setItem a (.int 1) d).bd λe=>Lq n a b
def Q7 n a b:=(X.item aZ a (.int 0)).bd λc=>(X.ge c b).bd λd=>(M.truth d).bd λe=>M.aw e (JP n a b) (Ou n a b)
theorem QO n a b:gI (n+2) [a,b]=Q7 n a b:=(bp (fvs:=[a,b]) (by kernel_rfl)).trans (by kernel_rfl)
def Oi(n:Nat)a:=(X.neg (.int 1)).bd λb=>(X.item aZ a b).bd λc=>M.ret c
def Pz n a:=(c8 a).bd λe=>(X.len a).bd λb=>(X.str b).bd λc=>(X.add (.str "v") c).bd λd=>(X.append a d).bd λf=>Oi n a
theorem Pm n a:p6 (n+2) [a]=Pz n a:=(bp (fvs:=[a]) (by kernel_rfl)).trans (by kernel_rfl)
def pt(d a e b c:V):Loc:=[sv "pool" d,sv "stock" a,sv "most" e,sv "depth" b,sv "found" c]
def RB(n:Nat)(a b d c e:V):M (Out Loc):=(c8 a).bd λh=>(X.sub b (.int 1)).bd λf=>(vF (n+1) [d,c,f,(.bool false)]).bd λg=>(X.append a g).bd λi=>M.ret (.go (pt d c e b a))
def xZ(n:Nat)(a b d e c:V):M (Out Loc):=(c8 a).bd λg=>(p6 (n+1) [b]).bd λf=>(X.append a f).bd λh=>M.ret (.go (pt d b e c a))
def Qk n a b c d e:=(gI (n+1) [a,(.int 3)]).bd λg=>(X.eq g (.int 0)).bd λh=>(M.truth h).bd λf=>M.aw f (RB n b c a d e) (xZ n b d a e c)
def Cq n l v:=fc (kS TT (cF (n+2)) true (cG (n+2)) 58) (au 66).scope.names (fb (au 66).body 1) l.length (ew "turn" v l)
theorem My n d b e a c h:Cq n (pt d b e a c) h=(X.gt a (.int 0)).bd λf=>(M.truth f).bd λg=>M.aw g (Qk n d c a b e) (xZ n c b d e a):=by kernel_rfl
def Dw n l:=kS TT (cF (n+2)) true (cG (n+2)) 58 (V) (au 66).scope.names l ((au 66).body.drop 2) M.ret (λa=>M.ret .none)
theorem NY n d b e c a:Dw n (pt d b e c a)=M.ret a:=by kernel_rfl
def Rg n a b c d e:=(gI (n+1) [a,b]).bd λf=>(X.range f).bd λg=>(M.eO g (pt a c b d e) (Cq n)).bd (M.cg M.ret (Dw n))
def Ng n c a d b:=(M.alloc (.list [])).bd λe=>Rg n c d a b e
theorem Nt n c a d b:vM (n+2) [c,a,d,b]=Ng n c a d b:=(bp (fvs:=[c,a,d,b]) (by kernel_rfl)).trans (by kernel_rfl)
def R8(n:Nat)(c d a e b:V):M (V):=(p6 (n+1) [c]).bd λf=>M.ret (.tup [d,a,e,b,f])
def VR n f e c a d b:=(gI (n+1) [f,(.int 3)]).bd λg=>(X.eq g (.int 0)).bd λh=>(M.truth h).bd λi=>M.aw i (R8 n e c a d b) (M.ret (.tup [c,a,d,b,.none]))
def VF n e g f c a d b:=(M.truth e).bd λh=>M.aw h (VR n g f c a d b) (M.ret (.tup [c,a,d,b,.none]))
def C0 n c a d e f b g:=(vM (n+1) [c,a,(.int 3),d]).bd λh=>VF n e c a f b g h
def zB n a c d e f b:=(p6 (n+1) [a]).bd λg=>(M.alloc (.list [.none,.none,(.str ""),g])).bd λh=>(gI (n+1) [c,(.int 4)]).bd λi=>(X.item aZ h i).bd λj=>C0 n c a d e f b j
def GG n a:=(p6 (n+1) [a]).bd λb=>M.ret b
def Ra n b a c d e:=(gI (n+1) [b,(.int 3)]).bd λf=>(X.range f).bd λg=>(M.cZ g λi=>GG n a).bd λh=>zB n a b c d e h
def K7 n a e b c d:=(M.alloc (.list [])).bd λf=>zB n a e b c d f
def QA n a e b c d:=(M.truth a).bd λf=>M.aw f (Ra n e b c a d) (K7 n b e c a d)
def R9 n c a b d:=(vM (n+1) [c,a,(.int 3),b]).bd λe=>QA n d c a b e
theorem MA n d a b c:vF (n+2) [d,a,b,c]=R9 n d a b c:=(bp (fvs:=[d,a,b,c]) (by kernel_rfl)).trans (by kernel_rfl)
def CV n a:=(X.bu ci a (.g (.type "tuple"))).bd λb=>(M.truth b).bd λc=>M.aw c ((mm (n+1) [a]).bd λd=>M.ret d) (M.ret a)
def RP n b:=(M.cZ b λc=>CV n c).bd λa=>M.ret a
def Gl(n:Nat)(a:V):M (V):=(M.make 166 (yW n) [(.str "int"),(.tup [(.int 7)])]).bd λb=>M.ret (.tup [a,b])
def P2 n a b d c:=(X.item aZ a (.int 0)).bd λe=>(M.cZ b λf=>Gl n f).bd λg=>(X.item aZ a (.int 1)).bd λh=>(M.make 198 (xp n) [e,g,d,h,c]).bd λi=>M.ret i
def Pd n c b a e d:=(M.cZ (.tup [c,b]) λg=>RP n g).bd λf=>P2 n f a e d
def NC n a:=M.iG a λb c d e f=>Pd n b e c d f
theorem Tx n a:mm (n+2) [a]=NC n a:=(bp (fvs:=[a]) (by kernel_rfl)).trans (by kernel_rfl)
def SW n a c b:=(X.sub a (.int 1)).bd λd=>(pA (n+1) [c,b,d]).bd λe=>M.ret e
def Nh n a b c:=(bF 895 "list_of" a).bd λh=>(gI (n+1) [b,(.int 4)]).bd λd=>(X.range d).bd λe=>(M.cZ e λi=>SW n c b a).bd λf=>(rJ (n+1) [a,f]).bd λg=>M.ret g
def KN n a:=(bF 895 "text" a).bd λc=>(vd (n+1) [a,(.str "t")]).bd λb=>M.ret b
def T8 n a b:=(gI (n+1) [a,(.int 9)]).bd λc=>(X.sub c (.int 4)).bd λd=>(M.alloc (.list [d,.none,(.bool true),(.str "sym")])).bd λe=>(X.fmod b (.int 4)).bd λf=>(X.item aZ e f).bd λg=>M.ret g
def yk n a b c:=(X.eq a (.int 4)).bd λd=>(M.truth d).bd λe=>M.aw e (KN n b) (T8 n c a)
def MM n a b c d:=(X.gt a (.int 0)).bd λe=>(M.truth e).bd λf=>M.aw f (Nh n b c a) (yk n d b c)
def Q8 n b d a c:=(X.gt b (.int 4)).bd λe=>(M.truth e).bd λf=>M.aw f (MM n d a c b) (yk n b a c)
def Pw n a b c:=(gI (n+1) [a,(.int 7)]).bd λd=>Q8 n d c b a
theorem Qe n c a b:pA (n+2) [c,a,b]=Pw n c a b:=(bp (fvs:=[c,a,b]) (by kernel_rfl)).trans (by kernel_rfl)
def js(g c a f b d e:V):Loc:=[sv "row" g,sv "front" c,sv "optional" a,sv "rest" f,sv "behind" b,sv "block" d,sv "found" e]
def JW(n:Nat)(h c g d a f b e:V):M (Out Loc):=(u4 (n+1) [h]).bd λi=>(X.add c i).bd λj=>M.ret (.go (js g d a f b e j))
def SE(n:Nat)(a h g d b f c e:V):M (Out Loc):=(c8 a).bd λj=>(X.append a h).bd λi=>M.ret (.go (js g d b f c e a))
def Ch(n:Nat)(g c a f b d e:V):M (Out Loc):=M.ret (.go (js g c a f b d e))
def O1 n c h g d a f b e:=SE n c h g d a f b e
def I' n g c a f b d e:=Ch n g c a f b d e
def TJ n j c g d a f b e:=(X.ne j (.str "")).bd λh=>(M.truth h).bd λi=>M.aw i (O1 n c j g d a f b e) (I' n g d a f b e c)
def OR n g c a f b d e:=Ch n g c a f b d e
def IH n j c g d a f b e:=(X.bV j .none).bd λh=>(M.truth h).bd λi=>M.aw i (TJ n j c g d a f b e) (OR n g d a f b e c)
def yl n l v:=fc (kS TT (cF (n+2)) true (cG (n+2)) 57) (au 70).scope.names (fb (au 70).body 2) l.length (ew "one" v l)
theorem Q1 n g c a f b d e h:yl n (js g c a f b d e) h=(X.bu ci h (.g (.type "tuple"))).bd λi=>(M.truth i).bd λj=>M.aw j (JW n h e g c a f b d) (IH n h e g c a f b d):=by kernel_rfl
def FX n l:=kS TT (cF (n+2)) true (cG (n+2)) 57 (V) (au 70).scope.names l ((au 70).body.drop 3) M.ret (λa=>M.ret .none)
theorem Om n g d b f c e a:FX n (js g d b f c e a)=M.ret a:=by kernel_rfl
def Jd n c a e b d g f:=(X.add c a).bd λh=>(M.alloc (.list [e])).bd λi=>(X.add h i).bd λj=>(X.add j b).bd λk=>(M.alloc (.list [d])).bd λl=>(X.add k l).bd λm=>(M.eO m (js g c a e b d f) (yl n)).bd (M.cg M.ret (FX n))
def LR n c a e b d f:=(M.alloc (.list [])).bd λg=>Jd n c a e b d f g
def Ud n a:=M.iG a λb c d e f=>LR n b c d e f a
theorem TF n a:u4 (n+2) [a]=Ud n a:=(bp (fvs:=[a]) (by kernel_rfl)).trans (by kernel_rfl)
def Vf(n:Nat)a:=(X.attr aC "items" a).bd λb=>(X.list b).bd λc=>M.ret c
def Td n a:=(X.bu ci a (.g (.ref 263))).bd λb=>(M.truth b).bd λc=>M.aw c (Vf n a) ((M.alloc (.list [a])).bd λd=>M.ret d)
theorem Ky n a:oE (n+2) [a]=Td n a:=(bp (fvs:=[a]) (by kernel_rfl)).trans (by kernel_rfl)
def LB(n:Nat)(c a d b e:V):M (V):=(X.add c a).bd λf=>(M.alloc (.list [(.str "*")])).bd λg=>(X.len a).bd λh=>(X.sub d h).bd λi=>(X.mul g i).bd λj=>(X.add f j).bd λk=>(X.add k b).bd λl=>(X.lS l e).bd λm=>(X.len a).bd λo=>M.ret (.tup [m,o])
def JX n b a d c e:=(X.slice b .none a).bd λf=>LB n d f a c e
def yV n b d a e c:=(X.len b).bd λf=>(X.sub f d).bd λg=>JX n a g e c b
def Q9 n a b e d c:=(X.len a).bd λf=>(X.add b f).bd λg=>(X.slice e .none g).bd λh=>yV n h b a d c
def Rb n f a c e d b:=(X.is f .none).bd λg=>(M.truth g).bd λh=>M.aw h (Q9 n a c e d b) (yV n e c a d b)
def Vh n c a f b e d:=(M.alloc (.list [.none])).bd λk=>(X.len c).bd λg=>(X.sub a g).bd λh=>(X.mul k h).bd λi=>(X.add c i).bd λj=>Rb n f b a j e d
def Ro n b a d e c:=(X.len b).bd λf=>(X.len a).bd λg=>(X.add f g).bd λh=>Vh n d h e c b a
def Lm n b a:=M.iG b λc d e f g=>Ro n c f a e d
theorem NW n b a:yQ (n+2) [b,a]=Lm n b a:=(bp (fvs:=[b,a]) (by kernel_rfl)).trans (by kernel_rfl)
def pZ(h e b a c f g d:V):Loc:=[sv "row" h,sv "args" e,sv "pairs" b,sv "taken_up" a,sv "found" c,sv "rest" f,sv "spot" g,sv "value" d]
def yy n l vs:=fc (kS TT (cF (n+2)) true (cG (n+2)) 55) (au 73).scope.names (fb (Df (fb (au 73).body 2) 0) 0) l.length (gy ["key","own"] vs l)
theorem Py n h e c a b f g d i j:yy n (pZ h e c a b f g d) [i,j]=(X.setItem b i j).bd λk=>M.ret (.go (pZ h e c a b f g d)):=by kernel_rfl
def gX(f d b a c e:V):Loc:=[sv "row" f,sv "args" d,sv "pairs" b,sv "taken_up" a,sv "found" c,sv "rest" e]
def Az n l:=kS TT (cF (n+2)) true (cG (n+2)) 55 (Out Loc) (au 73).scope.names l ((Df (fb (au 73).body 2) 0).drop 1) (λa=>M.ret (.ret a)) (λl=>kS TT (cF (n+2)) true (cG (n+2)) 56 (Out Loc) (au 73).scope.names l ((fb (au 73).body 2).drop 1) (λa=>M.ret (.ret a)) (λl=>M.ret (.go (l.take 6))))
theorem IJ n f d b a c e h g:Az n (pZ f d b a c e h g)=M.ret (.go (gX f d b a c e)):=by kernel_rfl
def G2 n o p h f d c e g:=(oE (n+1) [o]).bd λj=>(uh (n+1) [p,j]).bd λk=>(X.item aZ k (.int 0)).bd λi=>(md i).bd λr=>(X.items i).bd λm=>(M.sJ m (pZ h f d c e g p o) λl a b=>yy n l [a,b]).bd (M.cg (λq=>M.ret (.ret q)) (Az n))
def MZ(n:Nat)(a g f e c b d:V):M (Out Loc):=(c8 a).bd λi=>(X.append a g).bd λh=>M.ret (.go (gX f e c b d a))
def KG(n:Nat)(a g h f d c b e:V):M (Out Loc):=(X.setItem a g (.tup [(.str "one"),h])).bd λi=>M.ret (.go (gX f d c b a e))
def xz n i d j f e b a c:=(X.eq i (.str "*")).bd λg=>(M.truth g).bd λh=>M.aw h (MZ n d j f e b a c) (KG n c i j f e b a d)
def xI n l vs:=fc (kS TT (cF (n+2)) true (cG (n+2)) 57) (au 73).scope.names (fb (au 73).body 2) l.length (gy ["spot","value"] vs l)
theorem Pu n f d b a c e g h:xI n (gX f d b a c e) [g,h]=(X.bu ci g (.g (.type "tuple"))).bd λi=>(M.truth i).bd λj=>M.aw j (G2 n h g f d b a c e) (xz n g e h f d b a c):=by kernel_rfl
def ON(n:Nat)(d a c b:V):M (V):=(X.item aZ d (.int 2)).bd λe=>(X.setItem a e (.tup [(.str "rest"),c])).bd λf=>M.ret (.tup [a,b])
def VT n c b d a:=(X.item aZ c (.int 2)).bd λe=>(X.ne e (.str "")).bd λf=>(M.truth f).bd λg=>M.aw g (ON n c b d a) (M.ret (.tup [b,a]))
def Gy n l:=kS TT (cF (n+2)) true (cG (n+2)) 57 (V) (au 73).scope.names l ((au 73).body.drop 3) M.ret (λa=>M.ret .none)
theorem T5 n c f e a b d:Gy n (gX c f e a b d)=(X.item aZ c (.int 2)).bd λg=>(X.bV g .none).bd λh=>(M.truth h).bd λi=>M.aw i (VT n c b d a) (M.ret (.tup [b,a])):=by kernel_rfl
def JR n a f d b c e:=(M.vr a (gX f d a b c e) λl v=>(M.cM 2 v).bd λvs=>xI n l vs).bd (M.cg M.ret (Gy n))
def JM n b d c a:=(M.alloc (.dict [])).bd λe=>(M.alloc (.list [])).bd λf=>JR n b d c a e f
def Q0 n b a:=(yQ (n+1) [b,a]).bd λc=>M.iC c λd e=>JM n d b a e
theorem Jg n b a:uh (n+2) [b,a]=Q0 n b a:=(bp (fvs:=[b,a]) (by kernel_rfl)).trans (by kernel_rfl)
def R7 n b f a:=(X.item aZ b f).bd λg=>(X.item aZ a f).bd λc=>(uY (n+1) [g,c]).bd λd=>(M.truth d).bd λe=>M.ret (!e)
def Mj n b a:=(X.len b).bd λg=>(X.range g).bd λh=>(M.ny h (λc=>R7 n b c a) λc=>M.ret c).bd λd=>(M.alloc (.list [])).bd λe=>(X.eq d e).bd λf=>M.ret f
def Rq n b a:=(X.len b).bd λd=>(X.len a).bd λe=>(X.eq d e).bd λc=>(M.truth c).bd λf=>M.aw f (Mj n b a) (M.ret c)
theorem Kq n b a:vZ (n+2) [b,a]=Rq n b a:=(bp (fvs:=[b,a]) (by kernel_rfl)).trans (by kernel_rfl)
def ou(a b c:V):Loc:=[sv "found" a,sv "due" b,sv "old" c]
def Je(n:Nat)(a c b d e:V):M (Out Loc):=(X.item aZ a c).bd λf=>(X.attr aC "items" f).bd λg=>(vZ (n+1) [g,b]).bd λh=>(M.truth h).bd λi=>M.aw (!i) (M.ret (.ret (.bool false))) (M.ret (.go (ou a d e)))
def Iu n a b c d e:=(X.item aZ a b).bd λi=>(X.attr aC "number" i).bd λf=>(X.le f c).bd λg=>(M.truth g).bd λh=>M.aw h (M.ret (.ret (.bool false))) (Je n a b d e c)
def NG n a b d c e:=(X.item aZ a b).bd λf=>(X.bu ci f (.g (.ref 263))).bd λg=>(M.truth g).bd λh=>M.aw (!h) (M.ret (.ret (.bool false))) (Iu n a b d c e)
def G4 n e a f b d c:=(X.eq e (.str "rest")).bd λg=>(M.truth g).bd λh=>M.aw h (NG n a f b d c) (M.ret (.go (ou a c b)))
def Nu n a c b d e f:=(X.item aZ a c).bd λg=>(uY (n+1) [g,b]).bd λh=>(M.truth h).bd λi=>M.aw (!i) (M.ret (.ret (.bool false))) (G4 n d a c e b f)
def J' n a b d c e f:=(X.eq a (.str "one")).bd λg=>(M.truth g).bd λh=>M.aw h (Nu n b d c a e f) (G4 n a b d e c f)
def Ed n l v:=fc (kS TT (cF (n+2)) true (cG (n+2)) 58) (au 75).scope.names (fb (au 75).body 1) l.length (ew "key" v l)
theorem NZ n a b c d:Ed n (ou a b c) d=(X.item aZ b d).bd λe=>M.iC e λf g=>J' n f a d g c b:=by kernel_rfl
def FQ n l:=kS TT (cF (n+2)) true (cG (n+2)) 58 (V) (au 75).scope.names l ((au 75).body.drop 2) M.ret (λa=>M.ret .none)
theorem MU n a b c:FQ n (ou a b c)=M.ret (.bool true):=by kernel_rfl
def KU n a b c:=(M.eO a (ou b a c) (Ed n)).bd (M.cg M.ret (FQ n))
def M9 n a b c:=(X.sorted a).bd λd=>(X.sorted b).bd λe=>(X.ne d e).bd λf=>(M.truth f).bd λg=>M.aw g (M.ret (.bool false)) (KU n b a c)
theorem Ju n a b c:zR (n+2) [a,b,c]=M9 n a b c:=(bp (fvs:=[a,b,c]) (by kernel_rfl)).trans (by kernel_rfl)
def PK(n:Nat)a:=(X.str a).bd λb=>(X.add b (.str "+")).bd λc=>M.ret c
def L_(n:Nat)a b:=(X.str a).bd λc=>(X.str b).bd λd=>(X.add (.str "..") d).bd λe=>(X.gt b a).bd λf=>(X.int f).bd λg=>(X.mul e g).bd λh=>(X.add c h).bd λi=>M.ret i
def Tf n a b:=(X.is b .none).bd λc=>(M.truth c).bd λd=>M.aw d (PK n a) (L_ n a b)
theorem Qp n a b:qU (n+2) [a,b]=Tf n a b:=(bp (fvs:=[a,b]) (by kernel_rfl)).trans (by kernel_rfl)
def Vt(n:Nat)(b a:V):M (V):=(X.len b).bd λc=>(X.add a c).bd λd=>M.ret (.tup [a,d])
def NA n c a b:=(X.bV c .none).bd λd=>(M.truth d).bd λe=>M.aw e (M.ret (.tup [a,.none])) (Vt n b a)
def Op n c b d a:=(X.len c).bd λe=>(X.len b).bd λf=>(X.add e f).bd λg=>NA n d g a
def Iw n a:=M.iG a λb c d e f=>Op n b e d c
theorem KM n a:qR (n+2) [a]=Iw n a:=(bp (fvs:=[a]) (by kernel_rfl)).trans (by kernel_rfl)
def EE n a:=(oE (n+3) [a]).bd λb=>(X.list b).bd λc=>M.ret c
def Nx(n:Nat)a b:=(X.eq a (.tup [(.str "ArgumentError"),b])).bd λc=>M.ret c
def wh n b a c d:=(X.len b).bd λe=>(X.str e).bd λf=>(X.add (.str "wrong number of arguments (given ") f).bd λg=>(X.add g (.str ", expected ")).bd λh=>(qU (n+3) [a,c]).bd λi=>(X.add h i).bd λj=>(X.add j (.str ")")).bd λk=>Nx n d k
def RG n b c a:=(X.item aZ b c).bd λd=>(oE (n+3) [d]).bd λe=>(X.item aZ a c).bd λf=>(vZ (n+3) [e,f]).bd λg=>(M.truth g).bd λh=>M.ret (!h)
def E3 n a b:=(X.len a).bd λd=>(X.range d).bd λe=>(M.ny e (λc=>RG n a c b) λc=>M.ret c).bd λf=>(M.alloc (.list [])).bd λg=>(X.eq f g).bd λh=>M.ret h
def OM n b d e c a:=(X.item aZ b (.int 1)).bd λf=>(X.item aZ f (.int 0)).bd λg=>(zR (n+3) [g,d,e]).bd λh=>(M.truth h).bd λi=>M.aw (!i) (M.ret (.bool false)) (E3 n c a)
def SK n b a e f d c:=(X.item aZ b (.int 1)).bd λg=>(X.item aZ g (.int 1)).bd λh=>(X.ne h a).bd λi=>(M.truth i).bd λj=>M.aw j (M.ret (.bool false)) (OM n b e f d c)
def PE n b a e f d c:=(X.item aZ b (.int 0)).bd λg=>(X.ne g (.str "told")).bd λh=>(M.truth h).bd λi=>M.aw i (M.ret (.bool false)) (SK n b a e f d c)
def wd n e a c f d b:=(uh (n+3) [e,a]).bd λg=>M.iC g λh i=>PE n c i h f d b
def Ec n a d c e b:=(X.item aZ a (.int 0)).bd λf=>(X.attr aC "items" f).bd λg=>(X.list g).bd λh=>wd n d h c e a b
def pD n e a c f d b:=wd n e a c f d b
def Kr n e a c f d b:=pD n e a c f d b
def DJ n g b e c f a d:=(X.gt g (.int 1)).bd λh=>(M.truth h).bd λi=>M.aw i (Ec n b e c f a) (Kr n e d c f b a)
def L9 n e a c f d b:=pD n e a c f d b
def Cd n c g e d f a b:=(X.item aZ c (.int 0)).bd λh=>(X.bu ci h (.g (.ref 263))).bd λi=>(M.truth i).bd λj=>M.aw j (DJ n g c e d f a b) (L9 n e b d f c a)
def OX n e a c f d b:=pD n e a c f d b
def Gn n c g e d f a b:=(X.len c).bd λh=>(X.eq h (.int 1)).bd λi=>(M.truth i).bd λj=>M.aw j (Cd n c g e d f a b) (OX n e b d f c a)
def Oc n e a c f d b:=pD n e a c f d b
def EP n e c h f d g a b:=(M.truth e).bd λi=>M.aw (!i) (Gn n c h f d g a b) (Oc n f b d g c a)
def Cx n a e b f g h c d:=(X.item aZ a (.int 1)).bd λi=>(X.len i).bd λj=>(X.add e j).bd λk=>(X.item aZ a (.int 2)).bd λl=>(X.bV l .none).bd λm=>(X.int m).bd λo=>(X.add k o).bd λp=>EP n b f p a g h c d
def uc n a f d b e g c:=(X.list a).bd λh=>Cx n f d b a e g c h
def EY n d f c a e g b:=uc n d f c a e g b
def ze n d f c a e g b:=EY n d f c a e g b
def zk n b a f c g d h e:=M.aw false (wh n b a f c) (ze n b g a d c h e)
def xa n b a f c g d h e:=M.aw true (wh n b a f c) (ze n b g a d c h e)
def KZ n d c e f g a h b:=M.aw true (xa n d c e f g a h b) (zk n d c e f g a h b)
def U5 n d c e f g a h b:=M.aw false (xa n d c e f g a h b) (zk n d c e f g a h b)
def VE n c d e f g a h b:=(X.len c).bd λi=>(X.gt i d).bd λj=>(M.truth j).bd λk=>M.aw k (KZ n c e d f g a h b) (U5 n c e d f g a h b)
def Ty n d c e f g a h b:=M.aw false (xa n d c e f g a h b) (zk n d c e f g a h b)
def V_ n c e d f g a h b:=(X.bV c .none).bd λi=>(M.truth i).bd λj=>M.aw j (VE n e c d f g a h b) (Ty n e d c f g a h b)
def LL n b a f c g d h e:=M.aw true (wh n b a f c) (ze n b g a d c h e)
def UO n d a e f g b h c:=(X.len d).bd λi=>(X.lt i a).bd λj=>(M.truth j).bd λk=>M.aw k (LL n d a e f g b h c) (V_ n e d a f g b h c)
def Jv n d f c a e g b:=EY n d f c a e g b
def vT n a d c h e f g b:=(M.truth a).bd λi=>M.aw i (UO n d c h e f a g b) (Jv n d f c a e g b)
def GO n e d b a f g h c:=((M.tabAt (TT.tb (au 79).scope.names) ⟨644,27,644,76⟩).bd λj=>M.met d9 (M.call (l4 (n+1)) [(M.ret e),(M.call (mm (n+1)) [(M.ret d)]),(M.ret b),(M.ret a)]) ei).bd λi=>vT n a b f g i d h c
def I9 n b a f c d e:=(M.cZ b λg=>EE n g).bd λh=>(X.attr aC "last_number" a).bd λi=>GO n a f b c d e i h
def UR n c b d a:=(qR (n+3) [b]).bd λe=>M.iC e λf g=>I9 n d c b a f g
theorem Jj n b d c a:wg (n+4) [b,d,c,a]=UR n b d c a:=(bp (fvs:=[b,d,c,a]) (by kernel_rfl)).trans (by kernel_rfl)
def Ue(n:Nat)a b:=(X.eq a (.tup [(.str "ArgumentError"),b])).bd λc=>M.ret c
def rg n b a c d:=(X.str b).bd λi=>(X.add (.str "wrong number of arguments (given ") i).bd λj=>(X.add j (.str ", expected ")).bd λe=>(qU (n+3) [a,c]).bd λf=>(X.add e f).bd λg=>(X.add g (.str ")")).bd λh=>Ue n d h
def uk(n:Nat)a:=(X.eq a (.tup [(.str "told"),.none])).bd λb=>M.ret b
def Mu n c b d a:=M.aw true (rg n c b d a) (uk n a)
def Qg n c b d a:=M.aw false (rg n c b d a) (uk n a)
def IV n a b c d:=(X.gt a b).bd λe=>(M.truth e).bd λf=>M.aw f (Mu n a c b d) (Qg n a c b d)
def Q6 n c b d a:=M.aw false (rg n c b d a) (uk n a)
def S5 n a c b d:=(X.bV a .none).bd λe=>(M.truth e).bd λf=>M.aw f (IV n c a b d) (Q6 n c b a d)
def yN n b a c d:=(X.lt b a).bd λe=>(M.truth e).bd λf=>M.aw f (rg n b a c d) (S5 n c b a d)
def FS n d b a c:=((M.tabAt (TT.tb (au 80).scope.names) ⟨665,27,665,72⟩).bd λf=>M.met d9 (M.call (l8 (n+1)) [(M.ret d),(M.ret b),(M.ret a),(M.ret c)]) ei).bd λe=>yN n b a c e
def DO n c a b d:=(gI (n+3) [c,(.int 6)]).bd λe=>FS n a e b d
def zj n e f c a b d:=(X.ne e f).bd λg=>(M.truth g).bd λh=>M.aw h (M.ret (.bool false)) (DO n c a b d)
def QL n e a c b d:=zj n e a c b a d
def OJ n a e c b d:=(X.neg (.int 1)).bd λf=>(X.sub f a).bd λg=>zj n e g c b a d
def Gd n e b a d c:=(uq (n+3) [e,(.bool true)]).bd λf=>(X.eq b a).bd λg=>(M.truth g).bd λh=>M.aw h (QL n f a d c b) (OJ n a f d c b)
def yM n f g c d a e b:=(X.ne f g).bd λh=>(M.truth h).bd λi=>M.aw i (M.ret (.bool false)) (Gd n c d a e b)
def O' n f a c d e b:=yM n f a c d a e b
def Vb n a f c d e b:=(X.neg (.int 1)).bd λg=>(X.sub g a).bd λh=>yM n f h c d a e b
def K8 n a b c e d:=(uq (n+3) [a,(.bool false)]).bd λf=>(X.bV b .none).bd λg=>(M.truth g).bd λh=>M.aw h (O' n f c a b e d) (Vb n c f a b e d)
def EJ n b a c e d:=(xe (n+3) [b]).bd λf=>(qU (n+3) [a,c]).bd λg=>(X.ne f g).bd λh=>(M.truth h).bd λi=>M.aw i (M.ret (.bool false)) (K8 n b c a e d)
def Su n a f b d e c:=(vg (n+3) [a]).bd λg=>(u4 (n+3) [f]).bd λh=>(X.ne g h).bd λi=>(M.truth i).bd λj=>M.aw j (M.ret (.bool false)) (EJ n a b d e c)
def TP n b c a:=(mm (n+3) [a]).bd λd=>(qR (n+3) [a]).bd λe=>(X.item aZ e (.int 0)).bd λf=>(qR (n+3) [a]).bd λg=>(X.item aZ g (.int 1)).bd λh=>Su n d a f h c b
theorem NS n a b c:z_ (n+4) [a,b,c]=TP n a b c:=(bp (fvs:=[a,b,c]) (by kernel_rfl)).trans (by kernel_rfl)
def Sd n b a:=(pA (n+1) [b,a,(.int 2)]).bd λc=>M.ret c
def sB(a c b d f e:V):Loc:=[sv "script" a,sv "pool" c,sv "world" b,sv "turn" d,sv "row" f,sv "args" e]
def JG(n:Nat)(a c b d f e:V):M (Out Loc):=M.ret (.go (sB a c b d f e))
def Ca n l v:=fc (kS TT (cF (n+2)) true (cG (n+2)) 55) (au 81).scope.names (fb (fb (au 81).body 1) 2) l.length (ew "strict" v l)
theorem LG n b e a f d c g:Ca n (sB b e a f d c) g=(wg (n+1) [a,d,c,g]).bd λh=>(M.truth h).bd λi=>M.aw (!i) (M.ret (.ret (.bool false))) (JG n b e a f d c):=by kernel_rfl
def TR n b a:=(pA (n+1) [b,a,(.int 1)]).bd λc=>M.ret c
def rY(a c b:V):Loc:=[sv "script" a,sv "pool" c,sv "world" b]
def S7(n:Nat)(a b d c:V):M (Out Loc):=(z_ (n+1) [a,b,d]).bd λe=>(M.truth e).bd λf=>M.aw (!f) (M.ret (.ret (.bool false))) (M.ret (.go (rY c b a)))
def Qm n b a d e c:=(gI (n+1) [b,(.int 4)]).bd λf=>(X.eq f (.int 0)).bd λg=>(wg (n+1) [a,d,e,g]).bd λh=>(M.truth h).bd λi=>M.aw (!i) (M.ret (.ret (.bool false))) (S7 n a b d c)
def zi n l:=kS TT (cF (n+2)) true (cG (n+2)) 55 (Out Loc) (au 81).scope.names l ((fb (au 81).body 1).drop 3) (λa=>M.ret (.ret a)) (λl=>M.ret (.go (l.take 3)))
theorem Px n c b a e d f:zi n (sB c b a e d f)=(bF 895 "list_of" a).bd λp=>(X.item aZ b (.int 3)).bd λg=>(X.add (.int 3) g).bd λh=>(gI (n+1) [b,h]).bd λi=>(X.range i).bd λj=>(M.cZ j λo=>TR n b a).bd λk=>(rJ (n+1) [a,k]).bd λl=>(M.alloc (.list [l])).bd λm=>Qm n b a d m c:=by kernel_rfl
def TW n a c b d f e:=(M.eO (.tup [(.bool true),(.bool false)]) (sB a c b d f e) (Ca n)).bd (M.cg (λg=>M.ret (.ret g)) (zi n))
def Tj n a b c d e:=(X.item aZ a (.int 3)).bd λf=>(X.add (.int 4) f).bd λg=>(gI (n+1) [a,g]).bd λh=>(X.range h).bd λi=>(M.cZ i λk=>Sd n a b).bd λj=>TW n c a b d e j
def xR n l v:=fc (kS TT (cF (n+2)) true (cG (n+2)) 58) (au 81).scope.names (fb (au 81).body 1) l.length (ew "turn" v l)
theorem Nj n b a c d:xR n (rY b a c) d=(M.alloc (.list [])).bd λe=>(X.item aZ a (.int 3)).bd λf=>(X.fdiv f (.int 2)).bd λg=>(X.add (.int 1) g).bd λh=>(vF (n+1) [a,e,h,(.bool true)]).bd λi=>Tj n a c b d i:=by kernel_rfl
def Gh n l:=kS TT (cF (n+2)) true (cG (n+2)) 58 (V) (au 81).scope.names l ((au 81).body.drop 2) M.ret (λa=>M.ret .none)
theorem V3 n a c b:Gh n (rY a c b)=M.ret (.bool true):=by kernel_rfl
def Dg n a b c:=(X.item aZ a (.int 3)).bd λd=>(X.add (.int 1) d).bd λe=>(X.range e).bd λf=>(M.eO f (rY b a c) (xR n)).bd (M.cg M.ret (Gh n))
def Lk n a:=(xo (n+1) [a]).bd λb=>(M.alloc (.dict [])).bd λc=>(M.make 895 (Gi n) [c]).bd λd=>Dg n b a d
theorem NT n a:vN (n+2) [a]=Lk n a:=(bp (fvs:=[a]) (by kernel_rfl)).trans (by kernel_rfl)
def VW(n:Nat)a:=(X.attr aC "last_number" a).bd λb=>(X.iadd b (.int 1)).bd λc=>(X.setAttr aC "last_number" a c).bd λe=>(X.attr aC "last_number" a).bd λd=>M.ret d
theorem K1 n a:pY (n+2) [a]=VW n a:=(bp (fvs:=[a]) (by kernel_rfl)).trans (by kernel_rfl)
def Q5 n a b:=(bF 895 "make_builtin" a).bd λd=>(zx (n+1) [a,b]).bd λc=>M.ret c
def TE n a b c:=(X.is a .none).bd λd=>(M.truth d).bd λe=>M.aw e (Q5 n b c) (M.ret a)
def Vv n a b:=(X.attr aC "made" a).bd λc=>(mY c).bd λe=>(X.get c b).bd λd=>TE n d a b
theorem LY n a b:j4 (n+2) [a,b]=Vv n a b:=(bp (fvs:=[a,b]) (by kernel_rfl)).trans (by kernel_rfl)
def GW n a b:=(bF 895 "builtin" a).bd λd=>(j4 (n+1) [a,b]).bd λc=>M.ret c
def Oz(n:Nat)(a c b:V):=(bF 895 "give_own" a).bd λe=>(zM (n+1) [a,c]).bd λd=>M.ret b
def Fg n b c a:=(X.attr aC "is_ready" b).bd λd=>(M.truth d).bd λe=>M.aw e (Oz n b c a) (M.ret a)
def V5 n b c a:=(mY (.g (.ref 634))).bd λf=>(X.get3 634 oV (.g (.ref 634)) b (.tup [])).bd λg=>(M.cZ g λd=>GW n c d).bd λe=>(X.setAttr aC "mixed" a e).bd λf=>Fg n c b a
def yw n b d a c:=(j4 (n+1) [b,d]).bd λe=>(X.setAttr aC "owner" a e).bd λf=>V5 n c b a
def QV n b a c:=yw n b (.str "Class") a c
def Nr n b a c:=yw n b (.str "Module") a c
def Eo n a c b d:=(bF 895 "builtin" a).bd λf=>(M.truth c).bd λe=>M.aw e (QV n a b d) (Nr n a b d)
def Fy n a e c b d:=(X.setAttr aC "parent" a e).bd λf=>Eo n c b a d
def JT n b c a d:=Fy n b .none c a d
def N8 n a c d b e:=(bF 895 "builtin" a).bd λg=>(j4 (n+1) [a,c]).bd λf=>Fy n d f a b e
def I2 n b c d a e:=(X.is b .none).bd λf=>(M.truth f).bd λg=>M.aw g (JT n c d a e) (N8 n d b c a e)
def O8 n b c d a:=(X.item aZ (.g (.ref 631)) b).bd λe=>I2 n e c d a b
def QH n a c d b:=(X.setAttr aC "native" a c).bd λe=>O8 n c a d b
def MR n c d a b:=(X.attr aC "made" c).bd λe=>(X.setItem e d a).bd λf=>QH n a d c b
def Pt n b c a:=(bF 895 "number" b).bd λf=>(pY (n+1) [b]).bd λd=>(M.make 409 (Af n) [d,.none,c,a]).bd λe=>MR n b c e a
def KI n b a:=(X.rR i_ a (.g (.ref 630))).bd λc=>Pt n b a c
theorem UQ n a b:zx (n+2) [a,b]=KI n a b:=(bp (fvs:=[a,b]) (by kernel_rfl)).trans (by kernel_rfl)
def PQ(n:Nat)(a b:V):M (V):=(X.add a (.str ".")).bd λc=>(X.attr aC "prelude" b).bd λd=>(X.isIn i_ c d).bd λe=>(M.truth e).bd λf=>M.aw f (M.bad) (M.ret .none)
def Nk n a b:=(X.add b (.str ".")).bd λc=>(X.attr aC "natives" a).bd λd=>(X.isIn i_ c d).bd λe=>(M.truth e).bd λf=>M.aw f (M.bad) (PQ n b a)
theorem Ka n a b:zM (n+2) [a,b]=Nk n a b:=(bp (fvs:=[a,b]) (by kernel_rfl)).trans (by kernel_rfl)
def Pp n a b:=(bF 895 "number" a).bd λc=>(pY (n+1) [a]).bd λd=>(bF 895 "builtin" a).bd λc=>(j4 (n+1) [a,(.str "String")]).bd λe=>(M.make 243 (zN n) [d,e,b]).bd λf=>M.ret f
theorem J8 n a b:vd (n+2) [a,b]=Pp n a b:=(bp (fvs:=[a,b]) (by kernel_rfl)).trans (by kernel_rfl)
def Sx n a b:=(bF 895 "number" a).bd λc=>(pY (n+1) [a]).bd λd=>(bF 895 "builtin" a).bd λc=>(j4 (n+1) [a,(.str "Array")]).bd λe=>(X.list b).bd λf=>(M.make 263 (zm n) [d,e,f]).bd λg=>M.ret g
theorem Ql n b a:rJ (n+2) [b,a]=Sx n b a:=(bp (fvs:=[b,a]) (by kernel_rfl)).trans (by kernel_rfl)
def Pa n a c b:=(bF 895 "number" a).bd λd=>(pY (n+1) [a]).bd λe=>(bF 895 "builtin" a).bd λd=>(j4 (n+1) [a,c]).bd λf=>(bF 895 "text" a).bd λd=>(vd (n+1) [a,b]).bd λg=>(M.make 362 (zr n) [e,f,g]).bd λh=>M.ret h
theorem QE n b c a:FN (n+2) [b,c,a]=Pa n b c a:=(bp (fvs:=[b,c,a]) (by kernel_rfl)).trans (by kernel_rfl)
def Jq(n:Nat)(b c a:V):M V:=(bF 895 "error" b).bd λf=>(FN (n+1) [b,c,a]).bd λd=>(M.su 71 (vI n) [d]).bd λe=>M.raise d9 e
theorem U2 n b c a:Fm (n+2) [b,c,a]=Jq n b c a:=(bp (fvs:=[b,c,a]) (by kernel_rfl)).trans (by kernel_rfl)
def PJ(n:Nat)(a:V):M (V):=(X.setAttr aC "ident" a .none).bd λb=>M.ret .none
def QR n a:=(X.setAttr aC "frozen" a (.bool false)).bd λb=>PJ n a
def M2 n a:=(X.setAttr aC "own" a .none).bd λb=>QR n a
def JB n a:=(M.alloc (.dict [])).bd λb=>(X.setAttr aC "fields" a b).bd λc=>M2 n a
def NF n a b:=(X.setAttr aC "owner" a b).bd λc=>JB n a
def BN n a b c:=(X.setAttr aC "number" a b).bd λd=>NF n a c
theorem Oe n c a b:nG (n+2) [c,a,b]=BN n c a b:=(bp (fvs:=[c,a,b]) (by kernel_rfl)).trans (by kernel_rfl)
def Kb(n:Nat)(a b:V):M (V):=(X.setAttr aC "text" a b).bd λc=>M.ret .none
def OK n a b c d:=(nG (n+1) [a,b,c]).bd λe=>Kb n a d
theorem R5 n c a b d:zN (n+2) [c,a,b,d]=OK n c a b d:=(bp (fvs:=[c,a,b,d]) (by kernel_rfl)).trans (by kernel_rfl)
def Lp(n:Nat)(a:V):M (V):=(M.alloc (.list [])).bd λb=>(X.setAttr aC "items" a b).bd λc=>M.ret .none
def V0(n:Nat)(b a:V):M (V):=(X.setAttr aC "items" b a).bd λc=>M.ret .none
def JA n a b:=(X.is a .none).bd λc=>(M.truth c).bd λd=>M.aw d (Lp n b) (V0 n b a)
def VZ n a b c d:=(nG (n+1) [a,b,c]).bd λe=>JA n d a
theorem Jl n d a b c:zm (n+2) [d,a,b,c]=VZ n d a b c:=(bp (fvs:=[d,a,b,c]) (by kernel_rfl)).trans (by kernel_rfl)
def UV(n:Nat)(a:V):M (V):=(X.setAttr aC "cause" a .none).bd λb=>M.ret .none
def LX n b a:=(X.setAttr aC "message" b a).bd λc=>UV n b
def LN n b c d a:=(nG (n+1) [b,c,d]).bd λe=>LX n b a
theorem TA n d b c a:zr (n+2) [d,b,c,a]=LN n d b c a:=(bp (fvs:=[d,b,c,a]) (by kernel_rfl)).trans (by kernel_rfl)
def VV(n:Nat)(a:V):M (V):=(X.setAttr aC "native" a .none).bd λb=>(X.setAttr aC "kept" a .none).bd λb=>M.ret .none
def Tr n a:=(X.setAttr aC "attached" a .none).bd λb=>VV n a
def MW n a:=(M.alloc (.list [])).bd λb=>(X.setAttr aC "ahead" a b).bd λc=>Tr n a
def Lo n a:=(M.alloc (.list [])).bd λb=>(X.setAttr aC "mixed" a b).bd λc=>MW n a
def Oj n a:=(M.alloc (.dict [])).bd λb=>(X.setAttr aC "constants" a b).bd λc=>Lo n a
def P9 n a:=(M.alloc (.dict [])).bd λb=>(X.setAttr aC "methods" a b).bd λc=>Oj n a
def Mx n a b:=(X.setAttr aC "outer" a b).bd λc=>P9 n a
def OO n a b c:=(X.setAttr aC "parent" a b).bd λd=>Mx n a c
def V8 n b a c d:=(X.setAttr aC "is_class" b a).bd λe=>OO n b c d
def Lz n b e a c d:=(X.setAttr aC "name" b e).bd λf=>V8 n b a c d
def Qj n b c e g a d f:=(nG (n+1) [b,c,e]).bd λh=>Lz n b g a d f
theorem VG n d b c e a:Af (n+2) [d,b,c,e,a]=Qj n d b c e a (V.none) (V.none):=(bp (fvs:=[d,b,c,e,a,(V.none),(V.none)]) (by kernel_rfl)).trans (by kernel_rfl)
def O7(n:Nat)(b a:V):M (V):=(X.setAttr aC "reason" b a).bd λc=>M.ret .none
def RD n b a:=(X.xH d9 b a).bd λc=>O7 n b a
theorem JV n b a:Gf (n+2) [b,a]=RD n b a:=(bp (fvs:=[b,a]) (by kernel_rfl)).trans (by kernel_rfl)
def Pr(n:Nat)(b a:V):M (V):=(X.setAttr aC "thing" b a).bd λc=>M.ret .none
def Rj n a b:=(Gf (n+1) [a,(.str "a Ruby error")]).bd λc=>Pr n a b
theorem U_ n b a:vI (n+2) [b,a]=Rj n b a:=(bp (fvs:=[b,a]) (by kernel_rfl)).trans (by kernel_rfl)
def Kx(n:Nat)(a b:V):M (V):=(X.setAttr aC "line" a b).bd λc=>(X.setAttr aC "own" a .none).bd λc=>M.ret .none
def M' n b a c:=(X.tuple b).bd λd=>(X.setAttr aC "parts" a d).bd λe=>Kx n a c
def SO n a c b d:=(X.setAttr aC "kind" a c).bd λe=>M' n b a d
def TM n b a c d:=(X.item aZ (.g (.ref 74)) b).bd λe=>(X.len e).bd λf=>(X.len a).bd λg=>(X.ne f g).bd λh=>(M.truth h).bd λi=>M.aw i (M.bad) (SO n c b a d)
def UI n c a b d:=(X.rR i_ a (.g (.ref 74))).bd λe=>(M.truth e).bd λf=>M.aw f (M.bad) (TM n a b c d)
theorem Lx n b c a:yW (n+2) [b,c,a]=UI n b c a (V.int 0):=(bp (fvs:=[b,c,a,(V.int 0)]) (by kernel_rfl)).trans (by kernel_rfl)
def Ow(n:Nat)(b a:V):M (V):=(X.setAttr aC "block" b a).bd λc=>M.ret .none
def JN n c a b:=(X.list c).bd λd=>(X.setAttr aC "post" a d).bd λe=>Ow n a b
def NP n a c d b:=(X.setAttr aC "rest" a c).bd λe=>JN n d a b
def Lr n a b d e c:=(X.list a).bd λf=>(X.setAttr aC "optional" b f).bd λg=>NP n b d e c
def OE n c a b e f d:=(X.list a).bd λg=>(X.setAttr aC "required" c g).bd λh=>Lr n b c e f d
theorem TQ n d a b e f c:xp (n+2) [d,a,b,e,f,c]=OE n d a b e f c:=(bp (fvs:=[d,a,b,e,f,c]) (by kernel_rfl)).trans (by kernel_rfl)
def Pf(n:Nat)(a:V):M (V):=(X.bu ci a (.g (.type "str"))).bd λb=>(M.truth b).bd λc=>M.aw c (M.ret (.str "sym")) (M.ret (.str "thing"))
def KY n a:=(X.bu ci a (.g (.type "int"))).bd λb=>(M.truth b).bd λc=>M.aw c (M.ret (.str "int")) (Pf n a)
def Ve n a:=(X.bu ci a (.g (.type "bool"))).bd λb=>(M.truth b).bd λc=>M.aw c (M.ret (.str "bool")) (KY n a)
def Lw n a:=(X.is a .none).bd λb=>(M.truth b).bd λc=>M.aw c (M.ret (.str "nil")) (Ve n a)
theorem xY n a:uD (n+2) [a]=Lw n a:=(bp (fvs:=[a]) (by kernel_rfl)).trans (by kernel_rfl)
def SA(n:Nat)b a:=(X.attr aC "number" b).bd λc=>(X.attr aC "number" a).bd λd=>(X.eq c d).bd λe=>M.ret e
def GM n c b a:=(X.eq c (.str "thing")).bd λd=>(M.truth d).bd λe=>M.aw e (SA n b a) ((X.eq b a).bd λf=>M.ret f)
def N7 n a b c:=(uD (n+1) [a]).bd λf=>(X.ne b f).bd λd=>(M.truth d).bd λe=>M.aw e (M.ret (.bool false)) (GM n b c a)
def tY n a b:=(uD (n+1) [a]).bd λc=>N7 n b c a
theorem Kj n b a:uY (n+2) [b,a]=tY n b a:=(bp (fvs:=[b,a]) (by kernel_rfl)).trans (by kernel_rfl)
def Rh(n:Nat)a:=(X.attr aC "required" a).bd λb=>(X.len b).bd λc=>(X.attr aC "post" a).bd λd=>(X.len d).bd λe=>(X.add c e).bd λf=>M.ret f
theorem IC n a:mD (n+2) [a]=Rh n a:=(bp (fvs:=[a]) (by kernel_rfl)).trans (by kernel_rfl)
def Vp n a:=(mD (n+1) [a]).bd λb=>(X.attr aC "optional" a).bd λc=>(X.len c).bd λd=>(X.add b d).bd λe=>M.ret e
def Uf n a:=(X.attr aC "rest" a).bd λb=>(X.bV b .none).bd λc=>(M.truth c).bd λd=>M.aw d (M.ret .none) (Vp n a)
theorem QT n a:pC (n+2) [a]=Uf n a:=(bp (fvs:=[a]) (by kernel_rfl)).trans (by kernel_rfl)
def Qx n a:=(mD (n+1) [a]).bd λb=>(X.attr aC "optional" a).bd λc=>(X.len c).bd λd=>(X.add b d).bd λe=>(X.attr aC "rest" a).bd λf=>(X.bV f .none).bd λg=>(X.int g).bd λh=>(X.add e h).bd λi=>M.ret i
theorem JQ n a:zI (n+2) [a]=Qx n a:=(bp (fvs:=[a]) (by kernel_rfl)).trans (by kernel_rfl)
def I8(n:Nat)a:=(X.str a).bd λb=>(X.add b (.str "+")).bd λc=>M.ret c
def I3(n:Nat)a b:=(X.str a).bd λc=>(X.add c (.str "..")).bd λd=>(X.str b).bd λe=>(X.add d e).bd λf=>M.ret f
def S9 n a b:=(X.eq a b).bd λd=>(M.truth d).bd λc=>M.aw c ((X.str a).bd λe=>M.ret e) (I3 n a b)
def Mo n a b:=(X.is b .none).bd λc=>(M.truth c).bd λd=>M.aw d (I8 n a) (S9 n a b)
theorem Oq n a b:vl (n+2) [a,b]=Mo n a b:=(bp (fvs:=[a,b]) (by kernel_rfl)).trans (by kernel_rfl)
def K6 n a:=(mD (n+1) [a]).bd λb=>(pC (n+1) [a]).bd λc=>(vl (n+1) [b,c]).bd λd=>M.ret d
theorem Tv n a:xe (n+2) [a]=K6 n a:=(bp (fvs:=[a]) (by kernel_rfl)).trans (by kernel_rfl)
def C6(n:Nat)(a b:V):M (V):=(bF 895 "fail" a).bd λc=>(Fm (n+1) [a,(.str "ArgumentError"),b]).bd λd=>M.ret .none
def sf n c a d b:=(X.str c).bd λe=>(X.add (.str "wrong number of arguments (given ") e).bd λf=>(X.add f (.str ", expected ")).bd λg=>(vl (n+1) [a,d]).bd λh=>(X.add g h).bd λi=>(X.add i (.str ")")).bd λj=>C6 n b j
def Pk n c a d b:=M.aw true (sf n c a d b) (M.ret .none)
def L7 n c a d b:=M.aw false (sf n c a d b) (M.ret .none)
def QU n a b c d:=(X.gt a b).bd λe=>(M.truth e).bd λf=>M.aw f (Pk n a c b d) (L7 n a c b d)
def PB n c a d b:=M.aw false (sf n c a d b) (M.ret .none)
def SN n a d b c:=(X.bV a .none).bd λe=>(M.truth e).bd λf=>M.aw f (QU n d a b c) (PB n d b a c)
def ID n c b a d:=(X.lt b a).bd λe=>(M.truth e).bd λf=>M.aw f (sf n b a d c) (SN n d b a c)
theorem C8 n a c b d:l8 (n+2) [a,c,b,d]=ID n a c b d:=(bp (fvs:=[a,c,b,d]) (by kernel_rfl)).trans (by kernel_rfl)
def Vi(n:Nat)a:=(X.neg a).bd λb=>(X.sub b (.int 1)).bd λc=>M.ret c
def v8 n b a:=(M.truth b).bd λc=>M.aw c (Vi n a) (M.ret a)
def Mf n b c a:=(M.truth b).bd λd=>M.aw d ((X.gt c a).bd λe=>v8 n e a) (v8 n b a)
def LK n b a c:=(X.is b .none).bd λd=>(M.truth d).bd λe=>M.aw e (v8 n d a) (Mf n c b a)
def LT n a b:=(mD (n+1) [a]).bd λc=>(pC (n+1) [a]).bd λd=>LK n d c b
theorem Jn n a b:uq (n+2) [a,b]=LT n a b:=(bp (fvs:=[a,b]) (by kernel_rfl)).trans (by kernel_rfl)
def M7 n a:=(X.bu ci a (.g (.ref 198))).bd λb=>(M.truth b).bd λc=>M.aw c ((vg (n+1) [a]).bd λd=>M.ret d) ((M.alloc (.list [a])).bd λe=>M.ret e)
theorem K_ n a:rm (n+2) [a]=M7 n a:=(bp (fvs:=[a]) (by kernel_rfl)).trans (by kernel_rfl)
def g8(a b:V):Loc:=[sv "params" a,sv "found" b]
def Gz n l v:=fc (kS TT (cF (n+2)) true (cG (n+2)) 58) (au 47).scope.names (fb (au 47).body 1) l.length (ew "place" v l)
theorem Tn n b a c:Gz n (g8 b a) c=(c8 a).bd λe=>(rm (n+1) [c]).bd λd=>(X.extend a d).bd λf=>M.ret (.go (g8 b a)):=by kernel_rfl
def GK n l v:=fc (kS TT (cF (n+2)) true (cG (n+2)) 55) (au 47).scope.names (fb (au 47).body 4) l.length (ew "place" v l)
theorem VD n b a c:GK n (g8 b a) c=(c8 a).bd λf=>(rm (n+1) [c]).bd λd=>(X.extend a d).bd λe=>M.ret (.go (g8 b a)):=by kernel_rfl
def Rv(n:Nat)a b:=(c8 a).bd λe=>(X.attr aC "block" b).bd λc=>(X.append a c).bd λd=>M.ret a
def F9 n l:=kS TT (cF (n+2)) true (cG (n+2)) 55 (V) (au 47).scope.names l ((au 47).body.drop 5) M.ret (λa=>M.ret .none)
theorem UX n a b:F9 n (g8 a b)=(X.attr aC "block" a).bd λc=>(X.bV c .none).bd λd=>(M.truth d).bd λe=>M.aw e (Rv n b a) (M.ret b):=by kernel_rfl
def sI n a b:=(X.attr aC "post" a).bd λc=>(M.eO c (g8 a b) (GK n)).bd (M.cg M.ret (F9 n))
def PN n a b:=(c8 a).bd λd=>(X.attr aC "rest" b).bd λc=>(X.append a c).bd λe=>sI n b a
def ML n a b:=(X.attr aC "rest" a).bd λc=>(X.ne c (.str "")).bd λd=>(M.truth d).bd λe=>M.aw e (PN n b a) (sI n a b)
def MY n a b:=(X.attr aC "rest" a).bd λc=>(X.bV c .none).bd λd=>(M.truth d).bd λe=>M.aw e (ML n a b) (sI n a b)
def FK n l:=kS TT (cF (n+2)) true (cG (n+2)) 58 (V) (au 47).scope.names l ((au 47).body.drop 2) M.ret (λa=>M.ret .none)
theorem OG n b a:FK n (g8 b a)=(c8 a).bd λe=>(X.attr aC "optional" b).bd λc=>(M.rB 2 c r_).bd λd=>(X.extend a d).bd λf=>MY n b a:=by kernel_rfl
def TY n a b:=(X.attr aC "required" a).bd λc=>(M.eO c (g8 a b) (Gz n)).bd (M.cg M.ret (FK n))
def Ni n a:=(M.alloc (.list [])).bd λb=>TY n a b
theorem N1 n a:vg (n+2) [a]=Ni n a:=(bp (fvs:=[a]) (by kernel_rfl)).trans (by kernel_rfl)
def SY(n:Nat)a b:=(M.alloc (.list [.none])).bd λc=>(X.mul c a).bd λd=>(X.add b d).bd λe=>M.ret e
def Tl(n:Nat)a b:=(X.is a .none).bd λc=>(M.truth c).bd λd=>M.aw d (M.ret b) ((X.slice b .none a).bd λe=>M.ret e)
def UZ n a b c:=(X.gt a (.int 0)).bd λd=>(M.truth d).bd λe=>M.aw e (SY n a b) (Tl n c b)
def L5 n b a:=(pC (n+1) [a]).bd λc=>(mD (n+1) [a]).bd λd=>(X.len b).bd λe=>(X.sub d e).bd λf=>UZ n f b c
theorem L8 n b a:uR (n+2) [b,a]=L5 n b a:=(bp (fvs:=[b,a]) (by kernel_rfl)).trans (by kernel_rfl)
def Rc(n:Nat)a:=(X.attr aC "items" a).bd λb=>(X.list b).bd λc=>M.ret c
def OA n a:=(X.bu ci a (.g (.ref 263))).bd λb=>(M.truth b).bd λc=>M.aw c (Rc n a) ((M.alloc (.list [a])).bd λd=>M.ret d)
theorem PP n a:zX (n+2) [a]=OA n a:=(bp (fvs:=[a]) (by kernel_rfl)).trans (by kernel_rfl)
def IO(n:Nat)(c a d b:V):M (V):=(zX (n+1) [c]).bd λe=>(uR (n+1) [e,a]).bd λf=>(uw (n+1) [d,a,f,b]).bd λg=>M.ret .none
def Jb(n:Nat)(a b c:V):M (V):=(X.setItem a b c).bd λd=>M.ret .none
def O9 n d a c b:=(X.bu ci a (.g (.ref 198))).bd λe=>(M.truth e).bd λf=>M.aw f (IO n c a d b) (Jb n b a c)
theorem Qc n b c d a:r5 (n+2) [b,c,d,a]=O9 n b c d a:=(bp (fvs:=[b,c,d,a]) (by kernel_rfl)).trans (by kernel_rfl)
def jx(c a f b d g e:V):Loc:=[sv "world" c,sv "params" a,sv "args" f,sv "values" b,sv "front" d,sv "back" g,sv "given" e]
def CM n l v:=fc (kS TT (cF (n+2)) true (cG (n+2)) 57) (au 51).scope.names (fb (au 51).body 2) l.length (ew "at" v l)
theorem U1 n c a d b e g f h:CM n (jx c a d b e g f) h=(X.attr aC "required" a).bd λi=>(X.item aZ i h).bd λj=>(X.item aZ d h).bd λk=>(r5 (n+1) [c,j,k,b]).bd λl=>M.ret (.go (jx c a d b e g f)):=by kernel_rfl
def Ao n l v:=fc (kS TT (cF (n+2)) true (cG (n+2)) 56) (au 51).scope.names (fb (au 51).body 3) l.length (ew "at" v l)
theorem NI n e a d b c g f h:Ao n (jx e a d b c g f) h=(X.add c h).bd λi=>(X.item aZ d i).bd λj=>(X.attr aC "optional" a).bd λk=>(X.item aZ k h).bd λl=>(X.item aZ l (.int 0)).bd λm=>(X.setItem b m j).bd λo=>M.ret (.go (jx e a d b c g f)):=by kernel_rfl
def v5(d a g b e h f c:V):Loc:=[sv "world" d,sv "params" a,sv "args" g,sv "values" b,sv "front" e,sv "back" h,sv "given" f,sv "behind" c]
def BG n l v:=fc (kS TT (cF (n+2)) true (cG (n+2)) 53) (au 51).scope.names (fb (au 51).body 6) l.length (ew "at" v l)
theorem U4 n d a e b f h g c i:BG n (v5 d a e b f h g c) i=(X.attr aC "post" a).bd λj=>(X.item aZ j i).bd λk=>(X.add c i).bd λl=>(X.item aZ e l).bd λm=>(r5 (n+1) [d,k,m,b]).bd λo=>M.ret (.go (v5 d a e b f h g c)):=by kernel_rfl
def Ck n l:=kS TT (cF (n+2)) true (cG (n+2)) 53 (V) (au 51).scope.names l ((au 51).body.drop 7) M.ret (λa=>M.ret .none)
theorem Jr n e b g c f h a d:Ck n (v5 e b g c f h a d)=M.ret a:=by kernel_rfl
def rD n a e b h c f g d:=(X.range a).bd λi=>(M.eO i (v5 e b h c f a g d) (BG n)).bd (M.cg M.ret (Ck n))
def Ei n a e f g b c d h:=(bF 895 "list_of" a).bd λm=>(X.add e f).bd λi=>(X.slice g i b).bd λj=>(rJ (n+1) [a,j]).bd λk=>(X.attr aC "rest" c).bd λl=>(X.setItem d l k).bd λm=>rD n h a c g d e f b
def BS n g d a h b e f c:=rD n g d a h b e f c
def On n d e f g a b c h:=Ei n d e f g a b c h
def V2 n g d a h b e f c:=BS n g d a h b e f c
def So n a d e f g b c h:=(X.attr aC "rest" a).bd λi=>(X.ne i (.str "")).bd λj=>(M.truth j).bd λk=>M.aw k (On n d e f g b a c h) (V2 n h d a g c e f b)
def VK n g d a h b e f c:=BS n g d a h b e f c
def Nb n a d e f g b c h:=(X.attr aC "rest" a).bd λi=>(X.bV i .none).bd λj=>(M.truth j).bd λk=>M.aw k (So n a d e f g b c h) (VK n h d a g c e f b)
def GU n l:=kS TT (cF (n+2)) true (cG (n+2)) 56 (V) (au 51).scope.names l ((au 51).body.drop 4) M.ret (λa=>M.ret .none)
theorem JO n e a c b f d g:GU n (jx e a c b f d g)=(X.len c).bd λh=>(X.sub h d).bd λi=>Nb n a e f g c i b d:=by kernel_rfl
def GE n l:=kS TT (cF (n+2)) true (cG (n+2)) 57 (V) (au 51).scope.names l ((au 51).body.drop 3) M.ret (λa=>M.ret .none)
theorem Jf n d b f c e g a:GE n (jx d b f c e g a)=(X.range a).bd λh=>(M.eO h (jx d b f c e g a) (Ao n)).bd (M.cg M.ret (GU n)):=by kernel_rfl
def LQ n a d b f c g e:=(X.range a).bd λh=>(M.eO h (jx d b f c a g e) (CM n)).bd (M.cg M.ret (GE n))
def Uw n a c b d f e:=(X.attr aC "optional" a).bd λh=>(X.len h).bd λi=>(X.len c).bd λj=>(X.sub j b).bd λk=>(X.sub k d).bd λl=>(X.min i l).bd λg=>LQ n b f a c e d g
def M1 n c a d b:=(X.attr aC "required" a).bd λe=>(X.len e).bd λf=>(X.attr aC "post" a).bd λg=>(X.len g).bd λh=>Uw n a d f h c b
theorem TS n c a d b:uw (n+2) [c,a,d,b]=M1 n c a d b:=(bp (fvs:=[c,a,d,b]) (by kernel_rfl)).trans (by kernel_rfl)
def xG(n:Nat)(c b d a:V):M (V):=(uw (n+1) [c,b,d,a]).bd λe=>M.ret (.tup [a,e])
def U3 n c a b d:=(X.len c).bd λe=>(mD (n+1) [a]).bd λf=>(pC (n+1) [a]).bd λg=>(l8 (n+1) [b,e,f,g]).bd λh=>xG n b a c d
def sH n d a c b:=(uR (n+1) [d,a]).bd λe=>xG n c a e b
def K9 n d a c b:=(X.item aZ d (.int 0)).bd λf=>(X.attr aC "items" f).bd λg=>(X.list g).bd λe=>sH n e a c b
def JU n a d c b:=(zI (n+1) [a]).bd λe=>(X.gt e (.int 1)).bd λf=>(M.truth f).bd λg=>M.aw g (K9 n d a c b) (sH n d a c b)
def LS n c a d b:=(X.item aZ c (.int 0)).bd λe=>(X.bu ci e (.g (.ref 263))).bd λf=>(M.truth f).bd λg=>M.aw g (JU n a c d b) (sH n c a d b)
def PU n c a d b:=(X.len c).bd λe=>(X.eq e (.int 1)).bd λf=>(M.truth f).bd λg=>M.aw g (LS n c a d b) (sH n c a d b)
def Tc n e d a c b:=(M.truth e).bd λf=>M.aw f (U3 n d a c b) (PU n d a c b)
def K0 n c a d b:=(X.list d).bd λe=>(M.alloc (.dict [])).bd λf=>Tc n b e a c f
theorem FB n c a d b:l4 (n+2) [c,a,d,b]=K0 n c a d b:=(bp (fvs:=[c,a,d,b]) (by kernel_rfl)).trans (by kernel_rfl)
def W(m:M b)(H:Hp)(Q:b->Hp->Prop):=∃a H',m H=some (.ok a,H')/\Q a H'
theorem W.ret(h:Q a H):W (M.ret a) H Q:=(bQ a H rfl h)
theorem W.bd(h:W m H λa H'=>W (k a) H' Q):W (m.bd k) H Q:=bZ h λa H' e c=>bZ c λb d f q=>(bQ b d (by unfold M.bd;exact Y e<|f) q)
theorem W.mono(h:W m H Q)(f:∀a H',Q a H'->Q' a H'):W m H Q':=bZ h λa H' e q=>(bQ a H' e (f _ _ q))
theorem W.eq(e:m=a)(h:W a H Q):W m H Q:=e▸h
theorem W.st{m:M b}(e:m H=some (.ok a,H'))(h:W (k a) H' Q):W (m.bd k) H Q:=W.bd (bQ a H' e h)
theorem W.aw(a:b=true->W x H Q)(c:b=false->W y H Q):W (M.aw b x y) H Q:=by
 rcases b;case true=>exact a rfl
 case false=>exact c rfl
theorem W.bj(a:b=true)(h:W x H Q):W (M.aw b x y) H Q:=Y a<|h
theorem W.aQ(a:b=false)(h:W y H Q):W (M.aw b x y) H Q:=Y a<|h
theorem W.truth(h:W (k b) H Q):W ((M.truth (.bool b)).bd k) H Q:=h
theorem W.add(h:W (k (.int (x+y))) H Q):W ((X.add (.int x) (.int y)).bd k) H Q:=h
theorem W.sub(h:W (k (.int (x- y))) H Q):W ((X.sub (.int x) (.int y)).bd k) H Q:=h
theorem W.neg(h:W (k (.int (-x))) H Q):W ((X.neg (.int x)).bd k) H Q:=h
theorem W.iadd(h:W (k (.int (x+y))) H Q):W ((X.iadd (.int x) (.int y)).bd k) H Q:=h
theorem W.ge(h : W (k (.bool (decide (y <= x)))) H Q) : W ((X.ge (.int x) (.int y)).bd k) H Q := h
theorem W.gt(h : W (k (.bool (decide (y < x)))) H Q) : W ((X.gt (.int x) (.int y)).bd k) H Q := h
theorem W.lt(h : W (k (.bool (decide (x < y)))) H Q) : W ((X.lt (.int x) (.int y)).bd k) H Q := h
theorem W.le(h : W (k (.bool (decide (x <= y)))) H Q) : W ((X.le (.int x) (.int y)).bd k) H Q := h
theorem W.is(h:W (k (.bool x.isNone)) H Q):W ((X.is x .none).bd k) H Q:=h
theorem W.bV(h:W (k (.bool (!x.isNone))) H Q):W ((X.bV x .none).bd k) H Q:=h
theorem W.tS(h:W (k (.int (if b then 1 else 0))) H Q):W ((X.int (.bool b)).bd k) H Q:=h
theorem W.range(h:W (k (.de n)) H Q):W ((X.range (.int n)).bd k) H Q:=h
theorem W.min(h:W (k (.int (if y<x then y else x))) H Q):W ((X.min (.int x) (.int y)).bd k) H Q:=h
theorem W.abs(h:W (k (.int (if x<0 then-x else x))) H Q):W ((X.abs (.int x)).bd k) H Q:=h
theorem W.jf(h:W (k (.bool (x==y))) H Q):W ((X.eq (.int x) (.int y)).bd k) H Q:=h
theorem W.iM(h:W (k (.bool (x==y))) H Q):W ((X.eq (.str x) (.str y)).bd k) H Q:=h
theorem W.hF(h:W (k (.bool (!(x==y)))) H Q):W ((X.ne (.int x) (.int y)).bd k) H Q:=h
theorem W.kM(h:W (k (.bool (!(x==y)))) H Q):W ((X.ne (.str x) (.str y)).bd k) H Q:=h
theorem W.OP(h:W (k (.bool false)) H Q):W ((X.eq .none (.int y)).bd k) H Q:=h
theorem W.bM[Decidable p](c:p)(h:W a H Q):W (if p then a else b) H Q:=Y (if_pos c)<|h
theorem uU[Decidable p](a:p):M.bM p m=m:=if_pos a
theorem W.nn[Decidable p]{a:V}(b:p)(h:W (k a) H Q):W ((M.bM p (M.ret a)).bd k) H Q:=by unfold M.bM;exact Y (if_pos b)<|h
theorem W.mul(a:x.natAbs<2^64)(h:W (k (.int (x*y))) H Q):W ((X.mul (.int x) (.int y)).bd k) H Q:=show W ((M.bM (x.natAbs<2^64\/y.natAbs<2^64) (M.ret (.int (x*y)))).bd k) H Q from W.nn (.inl a) h
theorem W.fmod(a:y≠0)(h:W (k (.int (x.fmod y))) H Q):W ((X.fmod (.int x) (.int y)).bd k) H Q:=show W ((M.bM (y≠0) (M.ret (.int (x.fmod y)))).bd k) H Q from W.nn a h
theorem W.fdiv(a:y≠0/\y.natAbs<uP)(h:W (k (.int (x.fdiv y))) H Q):W ((X.fdiv (.int x) (.int y)).bd k) H Q:=show W ((M.bM (y≠0/\y.natAbs<uP) (M.ret (.int (x.fdiv y)))).bd k) H Q from W.nn a h
theorem W.pow(a:0<=y/\y<=1000/\x.natAbs<2^64)(h:W (k (.int (x^y.toNat))) H Q):W ((X.pow (.int x) (.int y)).bd k) H Q:=show W ((M.bM (0<=y/\y<=1000/\x.natAbs<2^64) (M.ret (.int (x^y.toNat)))).bd k) H Q from W.nn a h
theorem W.fk(l:x.length+y.length<=1000)(h:W (k (.str (x++y))) H Q):W ((X.add (.str x) (.str y)).bd k) H Q:=show W ((M.bM (x.length+y.length<=bH) (M.ret (.str (x++y)))).bd k) H Q from W.nn (Y fA<|aG l (by decide)) h
theorem W.str(a:x.natAbs<2^64)(h:W (k (.str (jE x))) H Q):W ((X.str (.int x)).bd k) H Q:=show W ((M.bM (x.natAbs<2^64) (M.ret (.str (jE x)))).bd k) H Q from W.nn a h
theorem kI{m:Nat}(h:n<=m)(q:Nat.ble m 1000000=true):((n:Nat):Int).natAbs<2^64:=iR (aG h (gj q)) (lb B)
theorem gf(e:H[i]? =some (.list xs)):M.cC (.ref i) H=some (.ok xs,H):=M.gD (by refine(?_:(H[i]?).bind O.lB=_);refine Y e ?_;rfl)
theorem DD(e:H[i]? =some (.list xs)):M.jU (.ref i) H=some (.ok xs,H):=M.gD (by refine(?_:(H[i]?).bind O.sE=_);refine Y e ?_;rfl)
theorem EM(e:H[i]? =some (.lit xs a b)):M.jU (.ref i) H=some (.ok xs,H):=M.gD (by refine(?_:(H[i]?).bind O.sE=_);refine Y e ?_;rfl)
theorem j0(e:H[i]? =some (.dict a)):M.eB (.ref i) H=some (.ok a,H):=M.gD (by refine(?_:(H[i]?).bind O.l7=_);refine Y e ?_;rfl)
theorem cn{m:M b}(e:m H=some (.ok a,H')):(m.bd f) H=f a H':=by unfold M.bd;exact Y e rfl
theorem W.alloc(h:W (k (.ref H.length)) (H++[o]) Q):W ((M.alloc o).bd k) H Q:=h
theorem rW(l:xs.length<=bH):M.d8 xs H=some (.ok (.ref H.length),H++[.list xs]):=by unfold M.d8;refine Y (if_pos l) ?_;rfl
abbrev Sz(xs:List V):Prop:=xs.length<=1000
theorem Sz.ok(h:Sz xs):xs.length<=bH:=Y fA<|aG h (lb B)
theorem W.len(e:H[i]? =some (.list xs))(l:Sz xs)(h:W (k (.int xs.length)) H Q):W ((X.len (.ref i)).bd k) H Q:=W.st ((cn (DD e)).trans (by refine Y (uU l.ok) ?_;rfl)) h
theorem W.J7(e:H[i]? =some (.lit xs a b))(l:Sz xs)(h:W (k (.int xs.length)) H Q):W ((X.len (.ref i)).bd k) H Q:=W.st ((cn (EM e)).trans (by refine Y (uU l.ok) ?_;rfl)) h
theorem Ep(hk:hW i xs.length=some j)(a:xs[j]? =some x)(l:Sz xs):M.at xs i H=some (.ok x,H):=by unfold M.at;refine Y (if_pos l.ok)<|Y hk ?_;dsimp only;refine Y a ?_;rfl
theorem W.item(e:H[i]? =some (.list xs))(hk:hW c xs.length=some j)(a:xs[j]? =some x)(l:Sz xs)(h:W (k x) H Q):W ((X.item aZ (.ref i) (.int c)).bd k) H Q:=W.st ((cn (gf e)).trans (Ep hk a l)) h
theorem Pc{n:Nat}(h:j<n):hW (j:Int) n=some j:=by unfold hW;refine Y (if_pos (an [] (.bC (.k 0) (.c J)) B))<|Y (if_pos (by omega)) ?_;rfl
theorem W.ek{j:Nat}(e:H[i]? =some (.list xs))(a:xs[j]? =some x)(l:Sz xs)(h:W (k x) H Q):W ((X.item aZ (.ref i) (.int (j:Int))).bd k) H Q:=W.item e (Pc (bR.mp a).1) a l h
theorem W.jb(hk:hW c xs.length=some j)(a:xs[j]? =some x)(l:Sz xs)(h:W (k x) H Q):W ((X.item aZ (.tup xs) (.int c)).bd k) H Q:=W.st (Ep hk a l) h
theorem W.rx(e:H[i]? =some (.dict a))(b:bg q a=some x)(h:W (k x) H Q):W ((X.item aZ (.ref i) (.str q)).bd k) H Q:=W.st ((cn (j0 e)).trans (by refine Y b ?_;rfl)) h
theorem W.TK(a:aZ c q=some x)(h:W (k x) H Q):W ((X.item aZ (.g c) (.str q)).bd k) H Q:=W.st (by refine(?_:M.op (aZ c q) M.ret H=_);refine Y a ?_;rfl) h
theorem W.setItem(e:H[i]? =some (.list xs))(hk:0<=c/\c<xs.length/\xs.length<=bH)(h:W (k ()) (H.set i (.list (xs.set c.toNat x))) Q):W ((X.setItem (.ref i) (.int c) x).bd k) H Q:=W.st ((cn (gf e)).trans (by refine Y (uU hk) ?_;rfl)) h
theorem W.ux(e:H[i]? =some (.dict a))(l:a.length<=bH)(h:W (k ()) (H.set i (.dict (cc q x a))) Q):W ((X.setItem (.ref i) (.str q) x).bd k) H Q:=W.st (by refine(?_:(match(H[i]?).bind O.l7 with|some a=>if a.length<=bH then some (Rs.ok (),H.set i (.dict (cc q x a)))else none|none=>none)=_);exact Y e<|if_pos l) h
theorem W.attr(e:H[i]? =some (.inst C a))(b:bg name a=some x)(ok:aC C name=true)(c:x.rH=false)(h:W (k x) H Q):W ((X.attr aC name (.ref i)).bd k) H Q:=W.st ((cn (M.gD (by show O.fields H H[i]? =_;refine Y e ?_;rfl))).trans (by refine Y (if_pos ok)<|Y b ?_;dsimp only;refine Y c ?_;rfl)) h
theorem W.bF(e:H[i]? =some (.inst C a))(b:bg name a=none)(h:W (k ()) H Q):W ((Internal.bF C name (.ref i)).bd k) H Q:=W.st ((cn (M.gD (by show O.fields H H[i]? =_;refine Y e ?_;rfl))).trans (by refine Y (if_pos rfl)<|Y b ?_;rfl)) h
theorem W.setAttr(e:H[i]? =some (.inst C a))(ok:aC C name=true)(l:a.length<=1000)(h:W (k ()) (H.set i (.inst C (cc name x a))) Q):W ((X.setAttr aC name (.ref i) x).bd k) H Q:=W.st (by
 have b:O.cls H[i]? =some C:=Y e ?_;rfl
 have c:O.stored H i H[i]? name x=some (H.set i (.inst C (cc name x a))):=Y e<|if_pos l
 refine(?_:(match O.cls H[i]? with|some C=>if aC C name then(match O.stored H i H[i]? name x with|some H'=>some (Rs.ok (),H')|none=>none)else none|none=>none)=some (Rs.ok (),_));refine Y b<|Y c ?_;dsimp only;exact Y (if_pos ok) rfl) h
theorem W.bu(a:X.jc ci c (v.ty H)=some (.bool b))(h:W (k (.bool b)) H Q):W ((X.bu ci v (.g c)).bd k) H Q:=W.st (M.gD (f:=λH=>X.jc ci c (v.ty H)) a) h
theorem W.c8(e:H[i]? =some (.list xs))(h:W (k ()) H Q):W ((Internal.c8 (.ref i)).bd k) H Q:=W.st (cn (gf e)) h
theorem W.md(e:H[i]? =some (.dict a))(h:W (k ()) H Q):W ((Internal.md (.ref i)).bd k) H Q:=W.st (cn (j0 e)) h
theorem W.append(e:H[i]? =some (.list xs))(l:Sz xs)(h:W (k .none) (H.set i (.list (xs++[x]))) Q):W ((X.append (.ref i) x).bd k) H Q:=W.st ((cn (gf e)).trans (by refine Y (if_pos l.ok) ?_;rfl)) h
theorem W.extend(e:H[i]? =some (.list xs))(a:H[j]? =some (.list ys))(l:Sz xs)(b:Sz ys)(h:W (k .none) (H.set i (.list (xs++ys))) Q):W ((X.extend (.ref i) (.ref j)).bd k) H Q:=W.st ((cn (gf e)).trans ((cn (gf a)).trans (by refine Y (if_pos (aG (sZ l b) (by decide))) ?_;rfl))) h
theorem W.oC(e:H[i]? =some (.list xs))(a:H[j]? =some (.list ys))(l:Sz xs)(b:Sz ys)(h:W (k (.ref H.length)) (H++[.list (xs++ys)]) Q):W ((X.add (.ref i) (.ref j)).bd k) H Q:=W.st ((cn (gf e)).trans ((cn (gf a)).trans (rW (Y fA<|Y bE<|aG (sZ l b) (lb B))))) h
theorem W.rF(e:H[i]? =some (.list xs))(l:Sz xs)(h:W (k (.ref H.length)) (H++[.list xs]) Q):W ((X.list (.ref i)).bd k) H Q:=W.st (by refine(?_:X.cx H[i]? H=_);exact Y e<|rW l.ok) h
theorem W.slice{lo:V}(c:lo.part=some a)(d:hi.part=some b)(e:H[i]? =some (.list xs))(l:Sz xs)(h:W (k (.ref H.length)) (H++[.list (kU xs a b)]) Q):W ((X.slice (.ref i) lo hi).bd k) H Q:=W.st (by unfold X.slice;refine Y c<|Y d<|(cn (DD e)).trans (by refine Y (if_pos l.ok) ?_;rfl)) h
theorem W.No{lo:V}(c:lo.part=some a)(d:hi.part=some b)(e:H[i]? =some (.lit xs f g))(l:Sz xs)(h:W (k (.ref H.length)) (H++[.list (kU xs a b)]) Q):W ((X.slice (.ref i) lo hi).bd k) H Q:=W.st (by unfold X.slice;refine Y c<|Y d<|(cn (EM e)).trans (by refine Y (if_pos l.ok) ?_;rfl)) h
theorem W.get(e:H[i]? =some (.dict a))(h:W (k ((bg q a).getD .none)) H Q):W ((X.get (.ref i) (.str q)).bd k) H Q:=W.st ((cn (j0 e)).trans (by rcases bg q a<;>rfl)) h
theorem W.iC(h:W (f a b) H Q):W (M.iC (.tup [a,b]) f) H Q:=h
theorem W.iG(h:W (f a b c d e) H Q):W (M.iG (.tup [a,b,c,d,e]) f) H Q:=h
theorem W.make(h:W (m (.ref H.length::vs)) (H++[.inst C []]) λr H'=>r=.none/\W (k (.ref H.length)) H' Q):W ((M.make C m vs).bd k) H Q:=by refine fQ h λr H' e a q=>?_;subst a;exact W.st (by refine(?_:((M.alloc (.inst C [])).bd _) H=_);unfold M.bd M.alloc;dsimp only;refine Y e ?_;rfl) q
theorem W.fI(h:W m H Q):W (M.fI m) H Q:=bZ h λa H' e q=>(bQ a H' (by unfold M.fI;exact Y e rfl) q)
def fT(I:b->Hp->Prop)(R:V->Hp->Prop):Out b->Hp->Prop
 | .go a,H=>I a H
 | .ret c,H=>R c H
theorem W.loop{b:Type}{K:It}{v:Nat->V}{n:Nat}{mb:b->V->M (Out b)}{R:V->Hp->Prop}(Inv:Nat->b->Hp->Prop)(c:∀j a H,j<=n->Inv j a H->K.next j H=some (.ok (if j<n then some (v j)else none),H))(dX:∀j a H,j<n->Inv j a H->W (mb a (v j)) H (fT (Inv (j+1)) R)):∀k j a H,j+k=n->Inv j a H->W (M.loop K mb (k+1) j a) H (fT (Inv n) R):=by
 intro k;induction k with
 |zero=>
  intro j a H e i;have e:j=n:=ah [.eq (J+0) U] (.eq J U) B e
  subst e;refine W.bd (bQ _ _ (c j a H (aS _) i) ?_);exact Y (if_neg (p_ _))<|W.ret i
  |succ k d=>refine λj a H e i=>W.bd (bQ _ _ (c j a H (aL [.eq (J+(u+1)) U] (.le J U) B e) i) ?_);refine Y (if_pos (by exact aL [.eq (J+(u+1)) U] (.lt J U) B e))<|W.bd (W.fI ((dX j a H (aL [.eq (J+(u+1)) U] (.lt J U) B e) i).mono λo H' q=>?_));rcases o with f|g;exact d (j+1) f H' (aL [.eq (J+(U+1)) u] (.eq (J+1+U) u) B e) q;exact W.ret q
theorem oz:(It.de n).next j H=some (.ok (if j<n then some (.int j)else none),H):=rfl
theorem pn(e:H[i]? =some (.list xs))(a:j<=xs.length):(It.list i).next j H=some (.ok (if j<xs.length then some (xs.getD j .none)else none),H):=by refine(cn (gf e)).trans ?_;by_cases q:j<xs.length;refine Y (if_pos q)<|Y (bJ q)<|Y (wK)<|Y (bJ q) ?_;rfl;refine Y (if_neg q)<|Y (ik (by exact ah [.le U J,.n (.lt U J)] (.le J U) B a q)) ?_;rfl
theorem pG(e:H[i]? =some (.list xs)):M.eN (.ref i) H=some (.ok (.list i,xs.length),H):=M.gD (f:=λH=>It.nH i H[i]?) (by show It.nH i H[i]? =_;refine Y e ?_;rfl)
theorem pF{n:Nat}(h:n<1000):M.eN (.de (n:Int)) H=some (.ok (.de n,n),H):=by refine(?_:(if-1000000<(n:Int)/\(n:Int)<1000000 then M.ret (It.de (n:Int).toNat,(n:Int).toNat)else M.bad) H=_);refine Y (if_pos (by exact an [.lt J 1000] (.and (.aR (.g 1000000) (.c J)) (.aR (.c J) 1000000)) B h)) ?_;rfl
theorem lD{xs:List V}{j:Nat}(h:j<xs.length):xs[j]? =some (xs.getD j .none):=by refine Y (wK)<|Y (bJ h) ?_;rfl
theorem pJ{bz:V->M γ}(h:W m H (fT I R))(c:∀a H,I a H->W (f a) H Q)(d:∀b H,R b H->W (bz b) H Q):W (m.bd (M.cg bz f)) H Q:=W.bd (h.mono λo H' q=>by cases o with|go a=>exact c a H' q|ret b=>exact d b H' q)
theorem W.forR{bz:V->M γ}(Inv:Nat->Loc->Hp->Prop)(d:n<1000)(e:Inv 0 a H)(dX:∀j a H,j<n->Inv j a H->W (mb a (.int j)) H (fT (Inv (j+1)) λb b=>False))(c:∀a H,Inv n a H->W (f a) H Q):W ((M.eO (.de (n:Int)) a mb).bd (M.cg bz f)) H Q:=pJ (W.st (pF d) (W.loop Inv (λb b b b b=>oz) dX n 0 a H (an [] (.eq (.a (.k 0) J) J) B) e)) c λb b q=>q.elim
theorem W.forL{bz:V->M γ}(Inv:Nat->Loc->Hp->Prop)(g:∀j a H,Inv j a H->H[i]? =some (.list xs))(h:Inv 0 a H)(dX:∀j x a H,xs[j]? =some x->Inv j a H->W (mb a x) H (fT (Inv (j+1)) λb b=>False))(e:∀a H,Inv xs.length a H->W (f a) H Q):W ((M.eO (.ref i) a mb).bd (M.cg bz f)) H Q:=pJ (W.st (pG (g 0 a H h)) (W.loop Inv (λj a H c d=>pn (g j a H d) c) (λj a H c d=>dX j _ a H (lD c) d) xs.length 0 a H (an [] (.eq (.a (.k 0) J) J) B) h)) e λb b q=>q.elim
theorem W.Lc{bz:V->M γ}(Inv:Nat->Loc->Hp->Prop)(e:∀j a H,Inv j a H->H[i]? =some (.list xs))(g:Inv 0 a H)(dX:∀j x a H,xs[j]? =some x->Inv j a H->W (mb a x) H (fT (Inv (j+1)) λb b=>False))(d:∀a H,Inv xs.length a H->W (f a) H Q):W ((M.vr (.ref i) a mb).bd (M.cg bz f)) H Q:=pJ (W.st (pG (e 0 a H g)) (W.loop Inv (λj a H c h=>pn (e j a H h) c) (λj a H c=>dX j _ a H (lD c)) xs.length 0 a H (an [] (.eq (.a (.k 0) J) J) B) g)) d λb b q=>q.elim
theorem W.compLoop{K:It}{v:Nat->V}{n L:Nat}{el:V->M V}(a:Nat->Hp->Prop)(S:Hp->Nat->V->Prop)(l:∀j H,j<=n->a j H->K.next j H=some (.ok (if j<n then some (v j)else none),H))(m:n<=1000)(o:∀j H ys d,a j H->H[L]? =some (.list ys)->a j (H.set L (.list d))/\∀k y,S H k y->S (H.set L (.list d)) k y)(dX:∀j H ys,j<n->a j H->H[L]? =some (.list ys)->W (el (v j)) H λy H'=>H'[L]? =some (.list ys)/\a (j+1) H'/\S H' j y/\∀k b,S H k b->S H' k b):∀k j H ys,j+k=n->a j H->H[L]? =some (.list ys)->ys.length=j->(∀k y,ys[k]? =some y->S H k y)->W (M.compLoop K (λv=>(el v).bd λy=>X.append (.ref L) y) (.ref L) (k+1) j) H λA H'=>∃ys,a n H'/\H'[L]? =some (.list ys)/\ys.length=n/\∀k y,ys[k]? =some y->S H' k y:=by
 intro k;induction k with
 |zero=>
  intro j H ys e i f c g;have e:j=n:=ah [.eq (J+0) U] (.eq J U) B e
  subst e;refine W.bd (bQ _ _ (l j H (aS _) i) ?_);exact Y (if_neg (p_ _))<|W.ret (dS ys i f c g)
 |succ k p=>
  refine λj H ys e i f c g=>W.bd (bQ _ _ (l j H (aL [.eq (J+(u+1)) U] (.le J U) B e) i) ?_);refine Y (if_pos (by exact aL [.eq (J+(u+1)) U] (.lt J U) B e))<|W.bd (W.fI (W.bd ((dX j H ys (aL [.eq (J+(u+1)) U] (.lt J U) B e) i f).mono λy H' q=>?_)));refine cW q λh r s t=>xA (o _ _ _ (ys++[y]) r h) λw x=>(bQ .none (H'.set L (.list (ys++[y]))) ((cn (gf h)).trans (by refine Y (if_pos (Y fA<|aU [.le U 1000,.eq (u+(D+1)) U,.eq J u] (.le J 16777216) B m e c)) ?_;rfl)) ?_);refine p (j+1) _ (ys++[y]) (aL [.eq (J+(U+1)) u] (.eq (J+1+U) u) B e) w (wj (bR.mp h).1) (by simp[c]) λk b hz=>x k b ?_;by_cases q:k<ys.length;rw[mH q]at hz;exact t k b (g k b hz);rw[mI (by exact ah [.n (.lt U J)] (.le J U) B q)]at hz;have:k=j:=by have:=(bR.mp hz).1;simp at this;exact aL [.eq u U,.n (.lt J u),.eq (J-u) 0] (.eq J U) B c q this
  subst this;rw[c,Nat.sub_self]at hz;exact ae (ao hz)<|s
theorem W.cZ{K:It}{f:Nat->V}(b:Nat->Hp->Prop)(S:Hp->Nat->V->Prop)(hi:M.eN v H=some (.ok (K,n),H))(h:n<=1000)(i:∀j H,j<=n->b j H->K.next j H=some (.ok (if j<n then some (f j)else none),H))(l:b 0 (H++[.list []]))(m:∀j H' ys c,b j H'->H'[H.length]? =some (.list ys)->b j (H'.set H.length (.list c))/\∀k y,S H' k y->S (H'.set H.length (.list c)) k y)(dX:∀j a ys,j<n->b j a->a[H.length]? =some (.list ys)->W (el (f j)) a λy H'=>H'[H.length]? =some (.list ys)/\b (j+1) H'/\S H' j y/\∀k g,S a k g->S H' k g)(d:∀ys H',ys.length=n->b n H'->H'[H.length]? =some (.list ys)->(∀k y,ys[k]? =some y->S H' k y)->W (k (.ref H.length)) H' Q):W ((M.cZ v el).bd k) H Q:=by refine W.bd (W.bd (bQ _ _ hi (W.bM rfl (W.bd (bQ _ _ rfl (W.bd ((W.compLoop b S i h m dX n 0 _ [] (an [] (.eq (.a (.k 0) J) J) B) l (by simp) rfl (λk y e=>(ns e))).mono λt H' q=>?_)))))));exact cT q λys o p r s=>W.ret (d ys H' r o p s)
theorem eK{H:Hp}(e:H[i]? =some o):(H.set i a)[i]? =some a:=wj (bR.mp e).1
theorem gK{H:Hp}(n:i≠j)(e:H[j]? =some o):(H.set i a)[j]? =some o:=(qe n).trans e
theorem fE{S:Hp}{i:Nat}(e:H[i]? =some o):(H++S)[i]? =some o:=Y (mH (bR.mp e).1)<|e
theorem gV{H:Hp}:(H++[o])[H.length]? =some o:=by simp
structure Ext(mu:List Nat)(H H':Hp):Prop where
 len:H.length<=H'.length
 keep:∀i,i<H.length->i∉mu->H'[i]? =H[i]?
theorem Ext.refl:Ext mu H H:=⟨aS _,λa a a=>rfl⟩
theorem Ext.trans(x:Ext mu H a)(y:Ext mu a b):Ext mu H b:=⟨aG x.len y.len,λi hi c=>(y.keep i (eS hi x.len) c).trans (x.keep i hi c)⟩
theorem Ext.new:Ext mu H (H++[o]):=⟨by simp,λi hi a=>Y (mH hi) rfl⟩
theorem Ext.set(hi:i∈mu):Ext mu H (H.set i o):=⟨by simp,λj b a=>by have:i≠j:=λe=>a (e▸hi);exact qe this⟩
theorem Ext.get(x:Ext mu H H')(e:H[i]? =some o)(a:i∉mu):H'[i]? =some o:=Y (x.keep i (bR.mp e).1 a)<|e
theorem Ext.eM(x:Ext mu H H')(hi:H.length<=i):Ext mu H (H'.set i o):=⟨by simpa using x.len,λj a b=>(qe (by exact aL [.le u J,.lt U u] (.n (.eq J U)) B hi a)).trans (x.keep j a b)⟩
theorem Ext.trans'(x:Ext mu H a)(y:Ext c a b)(h:∀i∈c,i∈mu\/H.length<=i):Ext mu H b:=⟨aG x.len y.len,λi hi d=>(y.keep i (eS hi x.len) λq=>by rcases h i q with h|h;exact d h;exact ah [.lt J U,.le U J] .ff B hi h).trans (x.keep i hi d)⟩
noncomputable def dp(i:Nat):=("v")++(qz (jE (i:Int)))
def dB(m:Nat):List V:=(List.range m).map λi=>.str (dp i)
theorem P8:dB m++[.str (dp m)]=dB (m+1):=by unfold dB;refine Y List.range_succ<|Y eF ?_;rfl
theorem r7:(dB m).length=m:=by simp[dB]
theorem OC:((List.range 100).map dp).Nodup:=by decide+kernel
theorem Er:∀i:Nat,i<100->(qz (jE (i:Int))).length<=10:=by decide+kernel
def Al{c d:Type}(R:c->d->Prop)(e:List c)(f:List d):=e.length=f.length/\∀(j:Nat)(a)(b),e[j]? =some a->f[j]? =some b->R a b
theorem Al.nil:Al R [] []:=⟨rfl,λa a a e=>(ns e)⟩
theorem Al.at_{d:List g}{c:List i}(h:Al R d c){j:Nat}(e:d[j]? =some a):∃b,c[j]? =some b/\R a b:=by
 have f:j<c.length:=ae h.1<|(bR.mp e).1
 exact(ak (c[j]) (bJ f) (h.2 j a _ e (bJ f)))
theorem Al.mono(h:Al R c d)(f:∀a b,R a b->S a b):Al S c d:=⟨h.1,λj a b x y=>f a b (h.2 j a b x y)⟩
theorem Al.app(h:Al R e g)(f:Al R c d):Al R (e++c) (g++d):=by refine⟨Y bE<|Y bE<|Y h.1<|Y f.1 rfl,λj a b x y=>?_⟩;by_cases q:j<e.length;rw[mH q]at x;rw[mH (h.1▸q)]at y;exact h.2 j a b x y;rw[mI (iP.mp q)]at x;rw[mI (h.1▸iP.mp q),<-h.1]at y;exact f.2 _ a b x y
theorem Al.one(h:R a b):Al R [a] [b]:=⟨rfl,λj x y c d=>by rcases j with _|j;exact ae (ao c)<|ae (ao d)<|h;exact ns c⟩
theorem Al.map{γ:Type}{f:γ->k}{g:γ->m}{l:List γ}(h:∀c∈l,R (f c) (g c)):Al R (l.map f) (l.map g):=⟨by simp,λj a b d e=>by rw[f_]at d e;rcases i:l[j]? with _|c;rw[i]at d;exact ns d;rw[i]at d e;exact ae (ao d)<|ae (ao e)<|h c (iT i)⟩
structure Row(A:Type)where
 front:List A
 opt:List aa
 rest:Option aa
 behind:List A
 block:Option aa
noncomputable def T:Nat->Type
 |0=>Empty
 |d+1=>aa⊕Row (T d)
theorem pd{P:∀d,T d->Prop}(a:∀d s,P (d+1) (.inl s))(b:∀d r,(∀t,P d t)->P (d+1) (.inr r))d:∀t,P d t:=by induction d with
 |zero=>exact λt=>wL t
 |succ d c=>intro t;rcases t with s|r;exact a d s;exact b d r c
noncomputable def cS(o:Option aa):V:=match o with
 |some s=>.str s
 |none=>.none
abbrev St(b:Nat)(H:Hp)(i:Nat)(o:O):Prop:=b<=i/\H[i]? =some o
def Tm(i o j:Nat)(a c:Option aa):V:=.tup [.ref i,.ref o,cS a,.ref j,cS c]
inductive c7 b H AI v(r:Row A):Prop
 |mk (i o j) (f g) (ev:v=Tm i o j r.rest r.block) (e1:St b H i (.list f)) (e2:St b H o (.list (r.opt.map V.str))) (e3:St b H j (.list g)) (a1:Al AI f r.front) (a2:Al AI g r.behind) (s1:r.front.length<=2) (s2:r.opt.length<=2) (s3:r.behind.length<=2)
theorem c7.sm(h:c7 b H e v r):r.front.length<=2/\r.opt.length<=2/\r.behind.length<=2:=by obtain⟨_,_,_,_,_,_,_,_,_,_,_,a,c,d⟩:=h;exact⟨a,c,d⟩
noncomputable def bK(b:Nat)(H:Hp):(d:Nat)->V->T d->Prop
 |0,_,t=>nomatch t
 |d+1,v,.inl s=>v=.str s/\∃i,i<100/\s=dp i
 |d+1,v,.inr r=>c7 b H (bK b H d) v r
noncomputable def oG(a b c:Nat)(d e:V):List (aa×V):=[("required",.ref a),("optional",.ref b),("rest",d),("post",.ref c),("block",e)]
inductive cH b H AI(v:V)(r:Row A):Prop
 |mk (i l1 l2 l3) (f g os) (ev:v=.ref i) (e0:St b H i (.inst 198 (oG l1 l2 l3 (cS r.rest) (cS r.block)))) (e1:St b H l1 (.list f)) (e2:St b H l2 (.list os)) (e3:St b H l3 (.list g)) (a1:Al AI f r.front) (a3:Al AI g r.behind) (a2:Al (λv s=>∃nd,v=.tup [.str s,nd]) os r.opt) (s1:r.front.length<=2) (s2:r.opt.length<=2) (s3:r.behind.length<=2)
theorem cH.sm(h:cH b H e v r):r.front.length<=2/\r.opt.length<=2/\r.behind.length<=2:=by obtain⟨_,_,_,_,_,_,_,_,_,_,_,_,_,_,_,a,c,d⟩:=h;exact⟨a,c,d⟩
noncomputable def bL(b:Nat)(H:Hp):(d:Nat)->V->T d->Prop
 |0,_,t=>nomatch t
 |d+1,v,.inl s=>v=.str s/\∃i,i<100/\s=dp i
 |d+1,v,.inr r=>cH b H (bL b H d) v r
theorem St.ext(x:Ext mu H H')(m:∀j∈mu,j<b)(h:St b H i o):St b H' i o:=⟨h.1,x.get h.2 λq=>p_ _ (eS (m i q) h.1)⟩
theorem St.low(l:b'<=b)(h:St b H i o):St b' H i o:=⟨aG l h.1,h.2⟩
theorem c7.mono(h:c7 b H d v r)(s:∀i o,St b H i o->St b' H' i o)(f:∀v a,d v a->c v a):c7 b' H' c v r:=by obtain⟨i,o,j,p,q,e,g,k,l,m,n,t,w,x⟩:=h;exact⟨i,o,j,p,q,e,s _ _ g,s _ _ k,s _ _ l,m.mono f,n.mono f,t,w,x⟩
theorem bK.mono(s:∀i o,St b H i o->St b' H' i o)(h:bK b H d v t):bK b' H' d v t:=pd (P:=λd t=>∀v,bK b H d v t->bK b' H' d v t) (λa a a h=>h) (λa a c a h=>c7.mono h s λv t=>c t v) d t v h
theorem cH.mono(h:cH b H d v r)(s:∀i o,St b H i o->St b' H' i o)(f:∀v a,d v a->c v a):cH b' H' c v r:=by obtain⟨i,g,j,k,p,q,os,e,l,m,n,t,w,x,y,A,C,L⟩:=h;exact⟨i,g,j,k,p,q,os,e,s _ _ l,s _ _ m,s _ _ n,s _ _ t,w.mono f,x.mono f,y,A,C,L⟩
theorem bL.mono(s:∀i o,St b H i o->St b' H' i o)(h:bL b H d v t):bL b' H' d v t:=pd (P:=λd t=>∀v,bL b H d v t->bL b' H' d v t) (λa a a h=>h) (λa a c a h=>cH.mono h s λv t=>c t v) d t v h
noncomputable def eY(o:Option aa):=match o with
 |some s=>if s=""then[]else[s]
 |none=>[]
def ba(f:A->List aa)(r:Row A):=r.front.flatMap f++(r.opt++(eY r.rest++(r.behind.flatMap f++r.block.toList)))
noncomputable def aD:(d:Nat)->T d->List aa
 |0,t=>nomatch t
 |d+1,.inl s=>[s]
 |d+1,.inr r=>ba (aD d) r
def Atom(b:Nat)(H:Hp)(v:V):=v=.none\/(∃x,v=.bool x)\/(∃x,v=.int x)\/(∃x,v=.str x)\/∃i a n,v=.ref i/\St b H i (.inst 243 a)/\bg "number" a=some (.int n)
def ListIs(b:Nat)(H:Hp)(v:V)n xs:=∃i a j,v=.ref i/\St b H i (.inst 263 a)/\bg "number" a=some (.int n)/\bg "items" a=some (.ref j)/\St b H j (.list xs)
noncomputable def dF(b:Nat)(H:Hp):Nat->V->Prop
 |0,v=>Atom b H v
 |d+1,v=>Atom b H v\/∃n xs,ListIs b H v n xs/\xs.length<=10/\∀x∈xs,dF b H d x
theorem Atom.mono{H H':Hp}(s:∀i o,St b H i o->St b' H' i o)(h:Atom b H v):Atom b' H' v:=by rcases h with h|h|h|h|⟨i,a,n,e,h,g⟩;exact .inl h;exact .inr (.inl h);exact .inr (.inr (.inl h));exact .inr (.inr (.inr (.inl h)));exact .inr (.inr (.inr (.inr (nu i a n e (s _ _ h) g))))
theorem ListIs.mono(s:∀i o,St b H i o->St b' H' i o)(h:ListIs b H v n xs):ListIs b' H' v n xs:=jY h λi c j e d f a=>xA a λg k=>(dK i c j e (s _ _ d) f ⟨g,s _ _ k⟩)
theorem dF.mono(s:∀i o,St b H i o->St b' H' i o):dF b H d v->dF b' H' d v:=by
 revert v;induction d with
 |zero=>exact λh=>Atom.mono s h
 |succ d a=>exact λ{v}h=>Or.imp (Atom.mono s) (λc=>fQ c λn xs h l e=>fU n xs (h.mono s) l (λx q=>a (e x q))) (h)
noncomputable def O.oY(o:O):=match o with
 | .inst C a=>if C=263 then some a else none
 |_=>none
def parts(H:Hp)(v:V):=((v.eH H).bind O.oY).elim [v] λa=>(((bg "items" a).bind (·.eH H)).bind O.lB).getD []
def cI(H:Hp)(v:V):=((v.eH H).bind O.oY).isSome
theorem kQ(e:H[i]? =some o):cI H (.ref i)=o.oY.isSome:=congrArg (λa=>(a.bind O.oY).isSome) e
theorem ListIs.parts(h:ListIs b H v n xs):parts H v=xs:=by refine fW h λi d j a c=>Y a<|cW c λe k f g=>(?_:((H[i]?).bind O.oY).elim [V.ref i] (λd=>_)=xs);refine Y e.2<|(?_:(((bg "items" d).bind (·.eH H)).bind O.lB).getD []=xs);refine Y f<|(?_:((H[j]?).bind O.lB).getD []=xs);exact Y g.2 rfl
theorem Atom.parts(h:Atom b H v):parts H v=[v]:=by rcases h with rfl|⟨_,rfl⟩|⟨_,rfl⟩|⟨_,rfl⟩|⟨i,a,n,rfl,h,g⟩;rfl;rfl;rfl;rfl;refine(?_:((H[i]?).bind O.oY).elim [V.ref i] (λa=>_)=_);exact Y h.2 rfl
inductive Bd where
 |one (v:V)
 |rest (xs:List V)
noncomputable def bW(r:Row A)xs:=
 let ys:=xs++dq (r.front.length+r.behind.length- xs.length) V.none
 if r.rest=none then ys.take (r.front.length+r.behind.length+r.opt.length)else ys
noncomputable def eX(o:Option aa)(xs:List V):List (aa×Bd):=match o with
 |some s=>if s=""then[]else[(s,.rest xs)]
 |none=>[]
noncomputable def taken(r:Row A)n:=fZ r.opt.length (n-(r.front.length+r.behind.length))
def cY(late:Bool)(f:A->V->List (aa×Bd))r xs:=
 let k:=r.front.length
 let t:=taken r xs.length
 let m:=xs.length- r.behind.length
 let a:=eX r.rest ((xs.take m).drop (k+t))
 (r.front.zip xs).flatMap (λp=>f p.1 p.2)++(((r.opt.take t).zip (xs.drop k)).map (λp=>(p.1,Bd.one p.2))++((if late then[]else a)++((r.behind.zip (xs.drop m)).flatMap (λp=>f p.1 p.2)++(if late then a else[]))))
noncomputable def bT(H:Hp)(late:Bool):(d:Nat)->T d->V->List (aa×Bd)
 |0,t,_=>nomatch t
 |d+1,.inl s,v=>[(s,.one v)]
 |d+1,.inr r,v=>cY late (bT H late d) r (bW r (parts H v))
noncomputable abbrev lU(f c a t:Int):List V:=[.int f,.int c,.int a,.int t]
noncomputable def wf(a:Int):List (aa×V):=[("natives",.ref 5),("prelude",.ref 7),("read",.none),("most",.int 20000),("taken",.int 0),("last_number",.int a),("last_ident",.int 8),("symbol_idents",.ref 8),("made",.ref 9),("version",.int 0),("const_version",.int 0),("globals",.ref 10),("out",.ref 11),("is_ready",.bool true),("main",.ref 47)]
def jS(H:Hp)(v:V)name:=∃i a,v=.ref i/\10<=i/\H[i]? =some (.inst 409 a)/\bg "name" a=some (.str name)/\bg "outer" a=some .none/\bg "attached" a=some .none
def vK H a:=(∀name v,bg name a=some v->jS H v name)/\∀name∈(["Object","BasicObject","Class","Module","Kernel"]:List aa),(bg name a).isSome=true
noncomputable def iJ:O:=.tab 1005 ⟨644,27,644,76⟩ "_law_bound_right.<locals>.<lambda>"
noncomputable def iw:O:=.tab 1010 ⟨665,27,665,72⟩ "_law_told_right.<locals>.<lambda>"
structure Base(H:Hp)t(C:Nat)N:Prop where
 tb:H[1]? =some iJ/\H[2]? =some iw/\H[5]? =some (.dict [])/\H[7]? =some (.dict [])
 Ll:∃f c z:Int,H[4]? =some (.list (lU f c z t))/\0<=f/\(0<=c/\c<=C)/\(0<=z/\z<1000003)
 cP:H[6]? =some (.inst 895 (wf N))
 made:∃es,H[9]? =some (.dict es)/\es.length<=C/\vK H es
 len:50<=H.length
noncomputable abbrev eQ:List Nat:=[4,6,9]
theorem Ext.mono(x:Ext mu H H')(h:∀i∈mu,i∈a):Ext a H H':=⟨x.len,λi hi b=>x.keep i hi λq=>b (h i q)⟩
theorem Ext.any(x:Ext [] H H'):Ext mu H H':=x.mono λa q=>(f4 q).elim
theorem Ext.drop(x:Ext (i::mu) H H')(h:H.length<=i):Ext mu H H':=⟨x.len,λj a b=>x.keep j a λq=>by rcases ca.mp q with rfl|q;exact ah [.lt J U,.le U J] .ff B a h;exact b q⟩
theorem Ext.st(x:Ext mu H H')(m:∀j∈mu,j<b):∀i o,St b H i o->St b H' i o:=λa a h=>h.ext x m
theorem qQ:∀j∈eQ,j<10:=by decide
theorem jS.ext(k:∀i o,10<=i->H[i]? =some o->(∃a,o=.inst 409 a)->H'[i]? =some o)(h:jS H v name):jS H' v name:=mz h λi a e l b c=>(kN i a e l (k i _ l b ⟨_,rfl⟩) c)
theorem vK.ext(k:∀i o,10<=i->H[i]? =some o->(∃a,o=.inst 409 a)->H'[i]? =some o)(h:vK H b):vK H' b:=⟨λn v e=>(h.1 n v e).ext k,h.2⟩
theorem Base.keep(h:Base H t C b)(a:H.length<=H'.length)(lo:∀i,i<10->H'[i]? =H[i]?)(k:∀i o,10<=i->H[i]? =some o->(∃c,o=.inst 409 c)->H'[i]? =some o):Base H' t C b:=by obtain⟨d,e,f,⟨g,j,l,m⟩,n⟩:=h;refine⟨?_,?_,?_,(bn g ?_ l (m.ext k)),aG n a⟩;exact Y (lo 1 (lb B))<|Y (lo 2 (lb B))<|Y (lo 5 (lb B))<|Y (lo 7 (lb B))<|d;exact Y (lo 4 (lb B))<|e;exact Y (lo 6 (lb B))<|f;exact Y (lo 9 (lb B))<|j
theorem Base.ext(h:Base H t C a)(x:Ext mu H H')(m:∀j∈mu,H.length<=j):Base H' t C a:=h.keep x.len (λi hi=>x.keep i (by have:=h.len;exact ah [.lt J 10,.le 50 U] (.lt J U) B hi this) λq=>by have:=m i q;have:=h.len;exact ah [.lt J 10,.le U J,.le 50 U] .ff B hi (by assumption) this) λi o b e b=>x.get e λq=>by have:=m i q;have:=(bR.mp e).1;exact ah [.le J U,.lt U J] .ff B (by assumption) this
theorem Base.dk(h:Base H t C a)(x:Ext [] H H'):Base H' t C a:=h.ext x λb q=>(f4 q).elim
theorem Base.set(h:Base H t C c)(f:10<=d)(e:H[d]? =some o)(g:∀a,o≠.inst 409 a):Base (H.set d l) t C c:=h.keep (by simp) (λi hi=>qe (by exact ah [.le 10 J,.lt U 10] (.n (.eq J U)) B f hi)) λi m n b j=>xE j λa q=>gK (λk=>by subst k;obtain rfl:=ao (b.symm.trans e);exact g a q) b
theorem Base.mono(h:Base H t C b)(l:C<=d):Base H t d b:=by refine bh λx e=>?_;obtain⟨g,⟨f,c,i,j,k,a,m⟩,n,⟨o,p,q,r⟩,s⟩:=h;exact e<|⟨g,(dK f c i j k ⟨a.1,by(revert l a;apply dj c;exact λv w=>λl a=>aU [.le D u,.and (.bC (.k 0) (.s (.c J) (.c U))) (.bC (.s (.c J) (.c U)) (.c D))] (.bC (.s (.c J) (.c U)) (.c u)) B l a)⟩ m),n,(bn o p (aG q l) r),s⟩
theorem g9{k:Nat}(n:k≠i):i∉[k]:=by simp;exact ah [.n (.eq U J)] (.n (.eq J U)) B n
theorem u_(h:10<=i)(n:k≠i):i∉[4,k]:=by simp;exact ah [.le (.k 10) J,.n (.eq U J)] (.and (.n (.eq J (.k 4))) (.n (.eq J U))) B h n
theorem FJ:4<=bH:=by decide
theorem Nl{c:Int}{C:Nat}(hz:0<=b/\b<1000003)(d:0<=c/\c<=C)(e:C<1000000):(b+7919*(c+1)+13).natAbs<2^64:=by refine xE (Ib hz.1) λb a=>?_;subst a;refine xE (Ib d.1) λc a=>?_;subst a;refine(?_);exact ar [_,_,_] [.lt J (.k 1000003),.le U u,.lt u (.k 1000000)] (.lt (.a (.a J (.m 7919 (.a U (.k 1)))) (.k 13)) (.k 18446744073709551616)) B (nU.mp hz.2) (p9.mp d.2) e
theorem W.take(hn:2<=n)(ai:Base H t C N)(hC:C<1000000)(g:0<a/\a<1000)(h:∀(d:Nat)H',(d:Int)<a->Base H' t (C+1) N->Ext [4] H H'->W (k (.int d)) H' Q):W ((gI n [.ref 4,.int a]).bd k) H Q:=by
 obtain⟨n,rfl⟩:∃k,n=k+2:=⟨n- 2,an [.le (.k 2) J] (.eq J (.a (.s J (.k 2)) (.k 2))) B hn⟩;refine bh λR' k'=>?_;obtain⟨x,⟨f,c,y,j,hf,l,hz⟩,h3,⟨es,h4,h5,h6⟩,h7⟩:=ai;have m:∀{i}{o o'},4≠i->H[i]? =some o->(H.set 4 o')[i]? =some o:=λn e=>gK n e;refine k' ?_;replace h:∀d A p,0<=d->d<a->0<=A->c<=p->p<=c+1->W (k (.int d)) (H.set 4 (.list (lU A p y t))) Q:=λd A p d0 d1 f1 q r=>by refine xE (Ib d0) λd af=>?_;subst af;exact h d _ d1 ⟨(bA (m (by decide) x.1) (m (by decide) x.2.1) (m (by decide) x.2.2.1) (m (by decide) x.2.2.2)),(dK A p y (eK j) f1 ⟨by(revert l q r;apply dj p;intro s v;apply dj c;exact λaj ap=>λl q r=>cK [.and (.bC (.k 0) (.s (.c u) (.c D))) (.bC (.s (.c u) (.c D)) (.c aA)),.bC (.s (.c u) (.c D)) (.s (.c J) (.c U)),.bC (.s (.c J) (.c U)) (.a (.s (.c u) (.c D)) (.k 1))] (.bC (.k 0) (.s (.c J) (.c U))) B l q r),by(revert l q r;apply dj p;intro s v;apply dj c;exact λav ax=>λl q r=>cK [.and (.bC (.k 0) (.s (.c D) (.c aA))) (.bC (.s (.c D) (.c aA)) (.c u)),.bC (.s (.c D) (.c aA)) (.s (.c J) (.c U)),.bC (.s (.c J) (.c U)) (.a (.s (.c D) (.c aA)) (.k 1))] (.bC (.s (.c J) (.c U)) (.c (.a u (.k 1)))) B l q r)⟩ hz),m (by decide) h3,(bn es (m (by decide) h4) (ah [.le J U] (.le J (.a U (.k 1))) B h5) (h6.ext λi o hi e o0=>m (an [.le (.k 10) J] (.n (.eq (.k 4) J)) B hi) e)),by simpa using h7⟩ (.set (.head _))
 have b:=(show(4)<=1000 by decide);refine W.bd<|Y (QO _ _ _)<|W.item j (by rfl) rfl b<|W.ge<|W.truth<|W.aw (λL=>?_) (λL=>?_);have L:=of_decide_eq_true L;have my:=Int.ne_of_gt g.1;exact W.item j (by rfl) rfl b<|W.fmod my<|W.item j (by rfl) rfl b<|W.fdiv ⟨my,(s6 (BL ⟨Int.lt_trans (by decide) g.1,g.2⟩) (by decide))⟩<|W.setItem j (aX (by decide) (by decide:(0:Int)<4) FJ)<|W.ret<|h (f.fmod a) (f.fdiv a) c (wM _ g.1) (Bs _ g.1) (Int.fdiv_nonneg hf (by(revert g;apply dj a;exact λs v=>λg=>ah [.and (.aR (.k 0) (.s (.c J) (.c U))) (.aR (.s (.c J) (.c U)) (.k 1000))] (.bC (.k 0) (.s (.c J) (.c U))) B g))) (mQ _) (Xg (by decide));have w:(H.set 4 (.list (lU f (c+1) y t)))[4]? =some (.list (lU f (c+1) y t)):=eK j;refine W.item j (by rfl) rfl b<|W.add<|W.setItem j (aX (by decide) (by decide:(1:Int)<4) FJ)<|W.item w (by rfl) rfl b<|W.item w (by rfl) rfl b<|W.mul (by decide)<|W.add<|W.add<|W.pow (aX (by decide) (by decide) (Nl hz l hC))<|W.fmod (by decide)<|W.mul (by refine(?_);exact BL ⟨Int.lt_of_lt_of_le (by decide) (wM _ (by decide)),Int.lt_trans (Bs _ (by decide)) (by decide)⟩)<|W.fmod (by decide)<|W.fdiv ⟨by decide,by decide⟩<|W.fmod (Int.ne_of_gt g.1)<|W.ret<|h _ f (c+1) (wM _ g.1) (Bs _ g.1) hf (Xg (by decide)) (mQ _)
theorem W.fresh(d:2<=n)(f:Base H t C g)(hi:10<=i)(e:H[i]? =some (.list (dB m)))(a:m<100)(h:∀H',Base H' t C g->Ext [i] H H'->H'[i]? =some (.list (dB (m+1)))->W (k (.str (dp m))) H' Q):W ((p6 n [.ref i]).bd k) H Q:=by
 obtain⟨n,rfl⟩:∃k,n=k+2:=⟨n- 2,an [.le (.k 2) J] (.eq J (.a (.s J (.k 2)) (.k 2))) B d⟩;have c:(H.set i (.list (dB (m+1))))[i]? =some (.list (dB (m+1))):=eK e;have b:∀{j},j<=100->Sz (dB j):=λh=>by show _<=_;exact Y r7<|an [.le J (.k 100)] (.le J (.k 1000)) B h
 replace h:=h _ (f.set hi e λl q=>(by injection q)) (.set (.head _)) c;refine W.bd<|Y (Pm _ _)<|W.c8 e<|W.len e (b (an [.lt J (.k 100)] (.le J (.k 100)) B a))<|W.str (Y r7<|(s6 a (lb B)))<|W.fk ?_<|W.append e (b (an [.lt J (.k 100)] (.le J (.k 100)) B a)) ?_;refine Y r7 ?_;have:=Er m a;have:("v").length=1:=by decide
 exact ah [.le U (.k 10),.eq J (.k 1)] (.le (.a J U) (.k 1000)) B (by assumption) this;refine Y r7<|(?_);refine Y P8<|W.neg<|W.item (j:=m) c ?_ ?_ (b (an [.lt J (.k 100)] (.le (.a J (.k 1)) (.k 100)) B a))<|W.ret h;refine Y r7 ?_;unfold hW;refine Y (if_neg (by decide))<|Y (if_pos (by exact an [.lt J (.k 100)] (.bC (.g (.c (.a J (.k 1)))) (.g (.k 1))) B a)) ?_;congr 1;exact ah [.lt J (.k 100),.or (.cu (.c U) (.a (.g (.k 1)) (.c (.a J (.k 1))))) (.and (.eq U (.k 0)) (.bC (.a (.g (.k 1)) (.c (.a J (.k 1)))) (.k 0)))] (.eq U J) B a kL;unfold dB;simp
noncomputable def pc(d:Nat):Nat:=d.rec 1 λb a=>4*a+1
noncomputable def kc(d:Nat):Nat:=d.rec 1 λb a=>4*a+10
def Nm(m a:Nat)(l:List aa):=m<=a/\l.Sublist ((qA m (a- m)).map dp)
theorem Nm.nil(h:m<=a):Nm m a []:=⟨h,wN _⟩
theorem Nm.app{l f:List aa}(h:Nm m b l)(d:Nm b c f):Nm m c (l++f):=by
 refine⟨aG h.1 d.1,?_⟩;have e:qA m (c- m)=qA m (b- m)++qA b (c- b):=by have a:=h.1;have:=List.range'_append_1 (s:=m) (m:=b- m) (n:=c- b);rw[show m+(b- m)=b by exact ah [.le J U] (.eq (J+(U-J)) U) B a,show(b- m)+(c- b)=c- m by exact aL [.le U J,.le J u] (.eq (J-U+(u-J)) (u-U)) B a d.1]at this;exact this.symm
 exact Y e<|Y eF<|h.2.append d.2
theorem Nm.one:Nm m (m+1) [dp m]:=⟨an [] (.le J (.a J (.k 1))) B,Y (by exact an [] (.eq (.s (.a J (.k 1)) J) (.k 1)) B:m+1- m=1)<|il _⟩
theorem Nm.up(h:Nm m a l)(c:a<=b):Nm m b l:=by have:=h.app (Nm.nil c);rwa [cV]at this
structure Drawn k m q H H' t C N m' l:Prop where
 base:Base H' t C N
 ext:Ext [4,k] H H'
 iz:H'[k]? =some (.list (dB m'))
 names:Nm m m' l
 aB:m'<=m+q
structure GT D k m(H:Hp)t C N i xs ts m' H':Prop where
 st:St H.length H' i (.list xs)
 al:Al (bK H.length H' (D+1)) xs ts
 n:ts.length<=2
 d:Drawn k m (2*pc D) H H' t (C+2*kc D+1) N m' (ts.flatMap (aD (D+1)))
noncomputable def ru(o:Bool):=if o then 4 else 1
structure B7 D k m o(H:Hp)t C N v r m' H':Prop where
 is:c7 H.length H' (bK H.length H' (D+1)) v r
 d:Drawn k m (4*pc D+ru o) H H' t (C+kc (D+1)- 1) N m' (ba (aD (D+1)) r)
def yj a:=∀(n k m)(H)(t)(C)(b)(c)(f)(Q:c->Hp->Prop),2*a+3<=n->Base H t C b->C+2*kc a+1<1000000->10<=k->H[k]? =some (.list (dB m))->m+2*pc a<=100->(∀i xs d e H',GT a k m H t C b i xs d e H'->W (f (.ref i)) H' Q)->W ((vM n [.ref 4,.ref k,.int 3,.int a]).bd f) H Q
def zW a:=∀(n k m)(o)(H)(t)(C)(b)(c)(f)(Q:c->Hp->Prop),2*a+4<=n->Base H t C b->C+kc (a+1)<=1000000->10<=k->H[k]? =some (.list (dB m))->m+4*pc a+ru o<=100->(∀v r d H',B7 a k m o H t C b v r d H'->W (f v) H' Q)->W ((vF n [.ref 4,.ref k,.int a,.bool o]).bd f) H Q
theorem EQ(h:10<=k)(l:k<i):∀j∈[4,k],j<i+1:=by simp;exact ah [.le (.k 10) U,.lt U J] (.and (.lt (.k 4) (.a J (.k 1))) (.lt U (.a J (.k 1)))) B h l
theorem Rw:1<=kc a:=by rcases a;exact aS _;exact qB _ _
theorem xg:1<=pc a:=by rcases a;exact aS _;exact qB _ _
def DX(k a f:Nat):=pt (.ref 4) (.ref k) (.int 3) (.int a) (.ref f)
structure yO D k m f H t C N j a(H':Hp)xs ts m':Prop where
 a:a=DX k D f
 fo:H'[f]? =some (.list xs)
 al:Al (bK (f+1) H' (D+1)) xs ts
 n:ts.length=j
 d:Drawn k m (j*pc D) H H' t (C+j*kc D+1) N m' (ts.flatMap (aD (D+1)))
def zF b k m f H t C c j a H':=∃xs d e,yO b k m f H t C c j a H' xs d e
theorem yO.more{a:Loc}(I:yO l k m f H t C A j a p xs ts L)(hk:10<=k/\k<f/\f=H.length)(hy:bK (f+1) c (l+1) y b)(e:Ext [4,k] p c)(r:Base c t (C+(j+1)*kc l+1) A)(s:c[k]? =some (.list (dB h)))(v:Nm L h (aD (l+1) b))(w:h<=L+pc l):zF l k m f H t C A (j+1) (DX k l f) (c.set f (.list (xs++[y]))):=by obtain⟨_,g1,g2,g3,x⟩:=I;have g:=e.get g1 (u_ (aL [.and (.le 10 U) (.and (.lt U J) (.eq J u))] (.le 10 J) B hk) (aL [.and (.le 10 J) (.and (.lt J U) (.eq U u))] (.n (.eq J U)) B hk));have Q:∀i o,St (f+1) c i o->St (f+1) (c.set f (.list (xs++[y]))) i o:=(Ext.set (mu:=[f]) (.head _)).st (by simp);refine⟨xs++[y],ts++[b],h,rfl,eK g,((g2.mono λo0 o0 q=>bK.mono (λi o q=>Q i o (q.ext e (EQ hk.1 hk.2.1))) q).app (.one (bK.mono Q hy))),by simp[g3],?_⟩;refine⟨r.set (aL [.and (.le 10 U) (.and (.lt U J) (.eq J u))] (.le 10 J) B hk) g (λo0 q=>(by injection q)),(x.ext.trans e).eM (kA hk.2.2.symm),(gK (aL [.and (.le 10 U) (.and (.lt U J) (.eq J u))] (.n (.eq J U)) B hk) s),?_,?_⟩;exact Y jI<|x.names.app (by simpa using v);have:=x.aB;exact Y (qC _ _)<|cK [.le J (aA+D),.le aA (U+u)] (.le J (U+(u+D))) B w this
theorem QG(b:j<=1)(c:m+2*p<=100)(e:1<=p)(a:d<=m+j*p):d+p<=100:=by have:=lG p b;exact aU [.le (u+(.m 2 U)) 100,.le J (u+D),.le D (.m 1 U)] (.le (J+U) 100) B c a this
theorem S4{K j:Nat}(a:j<=1)(b:C+2*K+1<1000000)(c:1<=K):C+j*K+1+1+K<=1000000/\C+j*K+2<=C+(j+1)*K+1/\C+j*K+1+1+(K- 1)<=C+(j+1)*K+1:=by have:=lG K a;exact aU [.lt (J+(.m 2 u)+1) 1000000,.le 1 u,.le U (.m 1 u),.eq D (U+u)] (.and (.le (J+U+1+1+u) 1000000) (.and (.le (J+U+2) (J+D+1)) (.le (J+U+1+1+(u-1)) (J+D+1)))) B b c this (qC _ _)
theorem Qa{q:Nat}{a:List (T d)}(b:(q:Int)<3)(c:j<q)(f:xs.length=a.length)(e:a.length=j):j<=1/\Sz xs:=⟨aL [.aR (.c U) 3,.lt J U,.eq u J] (.le J 1) B b c e,show _<=1000 by exact aU [.aR (.c U) 3,.lt u U,.eq J D,.eq D u] (.le J 1000) B b c f e⟩
theorem BJ(R:∀d,p=d+1->zW d):yj p:=by
 intro n k m H t C L β f Q hn a0 hC hk hs hm hQ;obtain⟨n,rfl⟩:∃k,n=k+2:=⟨n- 2,ar [_,_] [.le (.a (.m 2 U) (.k 3)) J] (.eq J (.a (.s J (.k 2)) (.k 2))) B hn⟩;have hQ:∀i xs ts y H',GT p k m H t C L i xs ts y H'->(λa H'=>W (f a) H' Q) (.ref i) H':=hQ;refine W.bd ?_;generalize (λa H'=>W (f a) H' Q)=Q at*;refine Y (Nt _ _ _ _ _) ?_;have kl:=(bR.mp hs).1;have bl:=a0.len;have B0:Base (H++[.list []]) t C L:=a0.dk .new;have f0:(H++[.list []])[H.length]? =some (O.list []):=gV;have s0:(H++[.list []])[k]? =some (.list (dB m)):=fE hs;have e0:Ext [4,k] H (H++[.list []]):=Ext.new;refine W.alloc ?_;generalize hf:H.length=f at*;generalize H++[.list []]=H₀ at*;refine W.take (ar [_,_] [.le (.a (.m 2 U) (.k 3)) (.a J (.k 2))] (.le (.k 2) (.a J (.k 1))) B hn) B0 (ar [_,_] [.lt (.a (.a J (.m 2 U)) (.k 1)) (.k 1000000)] (.lt J (.k 1000000)) B hC) (by decide) λq a1 q1 ai w=>W.range<|W.forR (zF p k m f H t C L) (ar [_] [.aR (.c J) (.k 3)] (.lt J (.k 1000)) B q1) ?_ ?_ ?_;exact⟨[],[],m,rfl,w.get f0 (g9 (ar [_] [.le (.k 50) J] (.n (.eq (.k 4) J)) B bl)),.nil,rfl,⟨ai.mono (ar [_,_] [] (.le (.a J (.k 1)) (.a (.a J (.m 0 U)) (.k 1))) B),e0.trans (w.mono λi q=>by simp at q⊢;exact .inl q),w.get s0 (g9 (ar [_] [.le (.k 10) J] (.n (.eq (.k 4) J)) B hk)),.nil (aS _),ar [_,_] [] (.le J (.a J (.m 0 U))) B⟩⟩;rintro j a g hj ⟨xs,ts,y,I⟩;refine Y (I.a)<|W.eq (My n _ _ _ _ _ _)<|xA (Qa q1 hj I.al.1 I.n) λaf lx=>?_;have cp:=QG af hm xg I.d.aB;refine bN (S4 af hC Rw) λkk k1 k3=>?_;have f2:∀{c:Hp},Ext [4,k] g c->c[f]? =some (.list xs):=λx=>x.get I.fo (u_ (ar [_] [.le (.k 50) J] (.le (.k 10) J) B bl) (ar [_,_] [.lt J U] (.n (.eq J U)) B kl));have name:∀(c),Base c t (C+(j+1)*kc p+1) L->Ext [4,k] g c->c[k]? =some (.list (dB y))->W (xZ n (.ref f) (.ref k) (.ref 4) (.int 3) (.int p)) c (fT (zF p k m f H t C L (j+1)) λo0 o0=>False):=by intro c s h s5;have mh:=eS (Nat.lt_add_of_pos_right xg) cp;refine W.c8 (f2 h)<|W.fresh (ar [_,_] [.le (.a (.m 2 U) (.k 3)) (.a J (.k 2))] (.le (.k 2) (.a J (.k 1))) B hn) s hk s5 mh λaj ap av ax=>?_;have l:=h.trans (av.mono λi q=>.tail _ q);exact W.append (f2 l) lx<|W.ret<|I.more (aX hk kl hf.symm) (b:=.inl (dp y)) (fh rfl y mh rfl) l ap ax .one (qD xg _)
 refine W.gt<|W.truth<|W.aw (λhD=>?_) λhD=>name g (I.d.base.mono (ar [_,_,_] [.le (.a (.a J U) (.k 2)) (.a (.a J u) (.k 1))] (.le (.a (.a J U) (.k 1)) (.a (.a J u) (.k 1))) B k1)) .refl I.d.iz;have hD:=of_decide_eq_true hD;refine W.take (ar [_,_] [.le (.a (.m 2 U) (.k 3)) (.a J (.k 2)),.aR (.k 0) (.c U)] (.le (.k 2) (.a J (.k 1))) B hn hD) I.d.base (ar [_,_,_] [.le (.a (.a (.a (.a J U) (.k 1)) (.k 1)) u) (.k 1000000)] (.lt (.a (.a J U) (.k 1)) (.k 1000000)) B kk) (by decide) λd c d1 s h=>?_;have e:Ext [4,k] g c:=h.mono λi q=>by simp at q⊢;exact .inl q
 have A:=h.get I.d.iz (g9 (ar [_] [.le (.k 10) J] (.n (.eq (.k 4) J)) B hk));refine W.jf<|W.truth<|W.aw (λhd=>?_) λhd=>name c (s.mono (ar [_,_,_] [.le (.a (.a J U) (.k 2)) (.a (.a J u) (.k 1))] (.le (.a (.a (.a J U) (.k 1)) (.k 1)) (.a (.a J u) (.k 1))) B k1)) e A;obtain⟨p,rfl⟩:∃d,p=d+1:=⟨p- 1,ar [_] [.aR (.k 0) (.c J)] (.eq J (.a (.s J (.k 1)) (.k 1))) B hD⟩;have e3:((p+1:Nat):Int)- 1=(p):=ar [_] [] (.cu (.s (.c (.a J (.k 1))) (.k 1)) (.c J)) B;refine W.c8 (f2 e)<|W.sub<|Y e3<|R p rfl (n+1) k y false c t _ L _ _ _ (ar [_,_] [.le (.a (.m 2 (.a J (.k 1))) (.k 3)) (.a U (.k 2))] (.le (.a (.m 2 J) (.k 4)) (.a U (.k 1))) B hn) s (ar [_,_,_] [.le (.a (.a (.a (.a J U) (.k 1)) (.k 1)) u) (.k 1000000)] (.le (.a (.a (.a (.a J U) (.k 1)) (.k 1)) u) (.k 1000000)) B kk) hk A (cp) λv r a2 aj P=>?_;have l:=e.trans P.d.ext;have l3:=eS (bR.mp (f2 e)).1 (aS _);exact W.append (f2 l) lx<|W.ret<|I.more (aX hk kl hf.symm) (b:=.inr r) (c7.mono P.is (λi o q=>q.low l3) λo0 o0 q=>bK.mono (λi o q=>q.low l3) q) l (P.d.base.mono (ar [_,_,_,_] [.le (.a (.a J U) (.k 2)) (.a (.a J D) (.k 1)),.le (.a (.a (.a (.a J U) (.k 1)) (.k 1)) (.s u (.k 1))) (.a (.a J D) (.k 1))] (.le (.s (.a (.a (.a (.a J U) (.k 1)) (.k 1)) u) (.k 1)) (.a (.a J D) (.k 1))) B k1 k3)) P.d.iz P.d.names P.d.aB;rintro a g ⟨xs,ts,y,I⟩;refine Y (I.a)<|W.eq (NY n _ _ _ _ _) (W.ret ?_);have qq:q<=2:=ar [_] [.aR (.c J) (.k 3)] (.le J (.k 2)) B q1;subst hf;exact hQ _ xs ts y _ ⟨⟨aS _,I.fo⟩,I.al.mono λo0 o0 q=>bK.mono (λi o q=>q.low (gS _)) q,I.n▸qq,I.d.base.mono (by have:=lG (kc p) qq;exact ar [_,_,_] [.le U (.m 2 u)] (.le (.a (.a J U) (.k 1)) (.a (.a J (.m 2 u)) (.k 1))) B this),I.d.ext,I.d.iz,I.d.names,aG I.d.aB (qD (lG (pc p) qq) _)⟩
theorem x4(x:Ext [4] H H'):Ext [4,k] H H':=x.mono λi q=>by rcases ca.mp q with rfl|q;exact .head _;rcases q
theorem xk(x:Ext [k] H H'):Ext [4,k] H H':=x.mono λi q=>.tail _ q
theorem Drawn.seq(a:Drawn k m q H c t C g d l)(b:Drawn k d h c e t i g f j):Drawn k m (q+h) H e t i g f (l++j):=⟨b.base,a.ext.trans b.ext,b.iz,a.names.app b.names,by have:=a.aB;have:=b.aB;exact cK [.le aA (U+u),.le J (aA+D)] (.le J (U+(u+D))) B (by assumption) this⟩
theorem Drawn.keep(a:Drawn k m q H d t C e c l)(f:Base b t g e)(x:Ext [4,k] d b)(s:b[k]? =some (.list (dB c))):Drawn k m q H b t g e c l:=⟨f,a.ext.trans x,s,a.names,a.aB⟩
theorem Drawn.name(a:Drawn k m q H d t C e b l)(f:Base c t g e)(x:Ext [4,k] d c)(s:c[k]? =some (.list (dB (b+1)))):Drawn k m (q+1) H c t g e (b+1) (l++[dp b]):=⟨f,a.ext.trans x,s,a.names.app .one,kq a.aB⟩
theorem Drawn.skip(a:Drawn k m q H d t C e c l)(f:Base b t g e)(x:Ext [4,k] d b)(s:b[k]? =some (.list (dB (c+1)))):Drawn k m (q+1) H b t g e (c+1) l:=⟨f,a.ext.trans x,s,a.names.up (gS _),kq a.aB⟩
theorem Drawn.mono(a:Drawn k m q H b t C d c l)(h:C<=e):Drawn k m q H b t e d c l:=⟨a.base.mono h,a.ext,a.iz,a.names,a.aB⟩
theorem zP:∀i,i<100->dp i≠"":=by decide+kernel
theorem Ur(hn:2<=n+1)(x:Base H t C A)(hk:10<=k)(s:H[k]? =some (.list (dB m)))(v:q<=2)(hm:m+2<=100)(h:∀o H',H.length<=o->H'[o]? =some (.list (((qA m q).map dp).map V.str))->Drawn k m q H H' t C A (m+q) ((qA m q).map dp)->W (f (.ref o)) H' Q):W ((M.cZ (.de (q:Int)) λai=>GG n (.ref k)).bd f) H Q:=by have kl:=(bR.mp s).1;refine W.cZ (λj H'=>Base H' t C A/\Ext [k] H H'/\H'[k]? =some (.list (dB (m+j)))) (λd j y=>y=.str (dp (m+j))) (pF (an [.le J 2] (.lt J 1000) B v)) (an [.le J 2] (.le J 1000) B v) (λd d d d=>oz) (aX (x.dk .new) .new (fE s)) (λj H' ys aj l e=>bN l λa b c=>⟨(aX (a.set (an [.le 50 J] (.le 10 J) B x.len) e (λd q=>(by injection q))) (b.eM (aS _)) (gK (ah [.lt U J] (.n (.eq J U)) B kl) c)),λd d h=>h⟩) (λj L ys hj l e=>bN l λa b c=>?_) λys H' w l e s=>bN l λa b c=>h _ _ (aS _) ?_ ⟨a,xk b,c,⟨aL [.le U 2,.eq u U] (.le J (J+U)) B v w,Y (og _ _)<|il _⟩,aS _⟩;exact W.fresh (an [.le 2 (J+1)] (.le 2 (J+1)) B hn) a hk c (aL [.le u 2,.le (J+2) 100,.lt U u] (.lt (J+U) 100) B v hm hj) λaf p g r=>W.ret (bA (g.get e (g9 (ah [.lt J U] (.n (.eq J U)) B kl))) (aX p (b.trans g) r) rfl (λd d h=>h));refine Y e ?_;congr 2;refine s8 λi=>?_;simp only[f_];by_cases hi:i<q;have:=s i ys[i] (bJ (aL [.eq U u,.lt J u] (.lt J U) B w hi));refine Y (bJ (by omega))<|Y this ?_;simp[hi];refine Y (ik (aL [.eq J u,.n (.lt U u)] (.le J U) B w hi))<|Y (ik (by simp;exact aL [.eq u J,.n (.lt U J)] (.le J U) B w hi)) ?_;rfl
noncomputable def bo(o:Bool):=if o then 1 else 0
theorem E2(P:yj p):zW p:=by
 intro n k m o H t C N β f Q hn c' hC hk hs hm hQ;obtain⟨n,rfl⟩:∃k,n=k+2:=⟨n- 2,ar [_,_] [.le (.a (.m 2 U) (.k 4)) J] (.eq J (.a (.s J (.k 2)) (.k 2))) B hn⟩;have hQ:∀v r m' H',B7 p k m o H t C N v r m' H'->(λa H'=>W (f a) H' Q) v H':=hQ;refine W.bd ?_;generalize (λa H'=>W (f a) H' Q)=Q at*;refine Y (MA _ _ _ _ _) ?_;have kl:=(bR.mp hs).1;have bl:=c'.len;have A:kc (p+1)=4*kc p+10:=rfl;have c6:ru o<=4:=by rcases o<;>decide
 refine P (n+1) k m H t C N _ _ _ (ar [_,_] [.le (.a (.m 2 J) (.k 4)) (.a U (.k 2))] (.le (.a (.m 2 J) (.k 3)) (.a U (.k 1))) B hn) c' (ar [_,_,_] [.le (.a J u) (.k 1000000),.eq u (.a (.m 4 U) (.k 10))] (.lt (.a (.a J (.m 2 U)) (.k 1)) (.k 1000000)) B hC A) hk hs (ar [_,_,_] [.le (.a (.a J (.m 4 U)) u) (.k 100),.le u (.k 4)] (.le (.a J (.m 2 U)) (.k 100)) B hm c6) λaf xs ts a4 a5 ai=>?_;have b0:∀(io)(y)(b aj)(s),y.length<=2->H.length<=io->s[io]? =some (.list (y.map V.str))->Drawn k m aj H s t (C+2*kc p+2) N b (ts.flatMap (aD (p+1))++y)->Ext [4,k] a5 s->aj+1+2*pc p+bo o<=4*pc p+ru o->W (zB n (.ref k) (.ref 4) (.int p) (.bool o) (.ref af) (.ref io)) s Q:=by
  intro io y b aj s ho L eo w x hq;have a6:=w.aB;refine W.fresh (ar [_,_] [.le (.a (.m 2 U) (.k 4)) (.a J (.k 2))] (.le (.k 2) (.a J (.k 1))) B hn) w.base hk w.iz (ar [_,_,_,_,_,_] [.le (.a (.a U (.m 4 u)) D) (.k 100),.le (.a (.a (.a aA (.k 1)) (.m 2 u)) bB) (.a (.m 4 u) D),.le J (.a U aA)] (.lt J (.k 100)) B hm hq a6) λap b1 av b'=>W.alloc ?_;have dn:∀{H':Hp}{C':Nat},Base H' t C' N->Ext [4,k] ap H'->H'[k]? =some (.list (dB (b+1)))->∀r:Option aa,(r=none\/r=some ("":aa)\/r=some (dp b))->Drawn k m (aj+1) H H' t C' N (b+1) (ts.flatMap (aD (p+1))++y++eY r):=λB' x' s' r hr=>by rcases hr with rfl|rfl|rfl;exact Y (rfl:eY none=[])<|Y (cV _)<|w.skip B' ((xk av).trans x') s';exact Y (rfl:eY (some (""))=[])<|Y (cV _)<|w.skip B' ((xk av).trans x') s';exact Y (show eY (some (dp b))=[dp b]from if_neg (zP b (ar [_,_,_,_,_,_] [.le (.a (.a U (.m 4 u)) D) (.k 100),.le (.a (.a (.a aA (.k 1)) (.m 2 u)) bB) (.a (.m 4 u) D),.le J (.a U aA)] (.lt J (.k 100)) B hm hq a6)))<|w.name B' ((xk av).trans x') s'
  refine W.take (ar [_,_] [.le (.a (.m 2 U) (.k 4)) (.a J (.k 2))] (.le (.k 2) (.a J (.k 1))) B hn) (b1.dk .new) (ar [_,_,_] [.le (.a J u) (.k 1000000),.eq u (.a (.m 4 U) (.k 10))] (.lt (.a (.a J (.m 2 U)) (.k 2)) (.k 1000000)) B hC A) (by decide) λd ax d1 b2 a7=>?_;have b3:=a7.get (fE b') (g9 (ar [_] [.le (.k 10) J] (.n (.eq (.k 4) J)) B hk));have bm:Ext [4,k] ap ax:=(Ext.new.trans (x4 a7));have a0:=a7.get gV (g9 (by have:=b1.len;exact ar [_] [.le (.k 50) J] (.n (.eq (.k 4) J)) B this));have tail:∀r:Option aa,(r=none\/r=some ("":aa)\/r=some (dp b))->W (C0 n (.ref 4) (.ref k) (.int p) (.bool o) (.ref af) (.ref io) (cS r)) ax Q:=by
   intro r hr;have a8:=dn b2 bm b3 r hr;have dc:=a8.aB;refine P (n+1) k (b+1) ax t (C+2*kc p+2+1) N _ _ _ (ar [_,_] [.le (.a (.m 2 J) (.k 4)) (.a U (.k 2))] (.le (.a (.m 2 J) (.k 3)) (.a U (.k 1))) B hn) b2 (ar [_,_,_] [.le (.a J u) (.k 1000000),.eq u (.a (.m 4 U) (.k 10))] (.lt (.a (.a (.a (.a (.a J (.m 2 U)) (.k 2)) (.k 1)) (.m 2 U)) (.k 1)) (.k 1000000)) B hC A) hk b3 (ar [_,_,_,_,_,_] [.le (.a (.a u (.m 4 U)) D) (.k 100),.le (.a (.a (.a aA (.k 1)) (.m 2 U)) bB) (.a (.m 4 U) D),.le J (.a u aA)] (.le (.a (.a J (.k 1)) (.m 2 U)) (.k 100)) B hm hq a6) λb4 ys us a9 a' g=>?_;have bb:=a8.seq g.d;have cd:=bb.aB;have b5:=(xk av).trans (bm.trans g.d.ext);have cf:=a8.ext.len;have b9:∀(bk)(bc)(c),Ext [4,k] a' c->Drawn k m (4*pc p+ru o) H c t (C+kc (p+1)- 1) N bc (ts.flatMap (aD (p+1))++y++eY r++us.flatMap (aD (p+1))++bk.toList)->Q (.tup [.ref af,.ref io,cS r,.ref b4,cS bk]) c:=by
    intro bk bc c e cl;have lt:∀j∈[4,k],j<H.length:=by simp;exact ar [_,_] [.lt U J,.le (.k 50) J] (.and (.lt (.k 4) J) (.lt U J)) B kl bl
    have s1:∀i o,St H.length a5 i o->St H.length c i o:=λi o q=>((q.ext x lt).ext b5 lt).ext e lt;have s5:∀i o,St ax.length a' i o->St H.length c i o:=λi o q=>(q.low cf).ext e lt;refine hQ _ ⟨ts,y,r,us,bk⟩ bc c ⟨⟨af,io,b4,xs,ys,rfl,s1 _ _ ai.st,⟨L,e.get (b5.get eo ?_) ?_⟩,s5 _ _ g.st,ai.al.mono λo0 o0=>bK.mono s1,g.al.mono λo0 o0=>bK.mono s5,ai.n,ho,g.n⟩,?_⟩;exact u_ (ar [_,_] [.le (.k 50) U,.le U J] (.le (.k 10) J) B bl L) (ar [_,_,_] [.lt J u,.le u U] (.n (.eq J U)) B kl L);exact u_ (ar [_,_] [.le (.k 50) U,.le U J] (.le (.k 10) J) B bl L) (ar [_,_,_] [.lt J u,.le u U] (.n (.eq J U)) B kl L);exact Y (by simp[ba,cr]:ba (aD (p+1)) ⟨ts,y,r,us,bk⟩=ts.flatMap (aD (p+1))++y++eY r++us.flatMap (aD (p+1))++bk.toList)<|cl
   have up:∀{H':Hp}{C':Nat}{m' q':Nat}{l:List aa},Drawn k m q' H H' t C' N m' l->C'<=C+kc (p+1)- 1->q'<=4*pc p+ru o->Drawn k m (4*pc p+ru o) H H' t (C+kc (p+1)- 1) N m' l:=λd hc hq=>⟨d.base.mono hc,d.ext,d.iz,d.names,aG d.aB (qD hq _)⟩;have bs:=λc e a1 a2=>b9 none a9 c e<|Y (Option.toList_none _)<|Y (cV _)<|up (bb.keep a1 e a2) (aS _) (ar [_,_,_,_] [.le (.a (.a (.a J (.k 1)) (.m 2 U)) D) (.a (.m 4 U) u)] (.le (.a (.a J (.k 1)) (.m 2 U)) (.a (.m 4 U) u)) B hq);refine W.truth<|W.aw (λho=>?_) λho=>W.ret (bs a' .refl (g.d.base.mono (ar [_,_,_] [.eq u (.a (.m 4 U) (.k 10))] (.le (.a (.a (.a (.a (.a J (.m 2 U)) (.k 2)) (.k 1)) (.m 2 U)) (.k 1)) (.s (.a J u) (.k 1))) B A)) g.d.iz);have a3:ru o=4:=Y ho ?_;rfl;have bx:bo o=1:=Y ho ?_;rfl;refine W.take (ar [_,_] [.le (.a (.m 2 U) (.k 4)) (.a J (.k 2))] (.le (.k 2) (.a J (.k 1))) B hn) g.d.base (ar [_,_,_] [.le (.a J u) (.k 1000000),.eq u (.a (.m 4 U) (.k 10))] (.lt (.a (.a (.a (.a (.a J (.m 2 U)) (.k 2)) (.k 1)) (.m 2 U)) (.k 1)) (.k 1000000)) B hC A) (by decide) λd c d1 a1 e=>?_;have a2:=e.get g.d.iz (g9 (ar [_] [.le (.k 10) J] (.n (.eq (.k 4) J)) B hk));refine W.jf<|W.truth<|W.aw (λhd=>?_) λhd=>W.ret (bs c (x4 e) (a1.mono (ar [_,_,_] [.eq u (.a (.m 4 U) (.k 10))] (.le (.a (.a (.a (.a (.a (.a J (.m 2 U)) (.k 2)) (.k 1)) (.m 2 U)) (.k 1)) (.k 1)) (.s (.a J u) (.k 1))) B A)) a2);refine W.fresh (ar [_,_] [.le (.a (.m 2 U) (.k 4)) (.a J (.k 2))] (.le (.k 2) (.a J (.k 1))) B hn) a1 hk a2 (ar [_,_,_,_,_,_] [.le (.a (.a U (.m 4 u)) D) (.k 100),.le (.a (.a (.a aA (.k 1)) (.m 2 u)) bB) (.a (.m 4 u) D),.le J (.a U (.a (.a aA (.k 1)) (.m 2 u))),.eq D (.k 4),.eq bB (.k 1)] (.lt J (.k 100)) B hm hq cd a3 bx) λcs ct cv cw=>W.ret ?_;have bv:=(x4 e).trans (xk cv);exact b9 (some (dp a9)) (a9+1) cs bv (up (bb.name ct bv cw) (ar [_,_,_] [.eq u (.a (.m 4 U) (.k 10))] (.le (.a (.a (.a (.a (.a (.a J (.m 2 U)) (.k 2)) (.k 1)) (.m 2 U)) (.k 1)) (.k 1)) (.s (.a J u) (.k 1))) B A) (ar [_,_,_,_] [.le (.a (.a (.a J (.k 1)) (.m 2 U)) D) (.a (.m 4 U) u),.eq u (.k 4),.eq D (.k 1)] (.le (.a (.a (.a J (.k 1)) (.m 2 U)) (.k 1)) (.a (.m 4 U) u)) B hq a3 bx))
  have d3:d=0\/d=1\/d=2\/d=3:=ar [_] [.aR (.c J) (.k 4)] (.or (.eq J (.k 0)) (.or (.eq J (.k 1)) (.or (.eq J (.k 2)) (.eq J (.k 3))))) B d1;rcases d3 with rfl|rfl|rfl|rfl;exact W.ek a0 rfl (by decide:(4)<=1000) (tail none (.inl rfl));exact W.ek a0 rfl (by decide:(4)<=1000) (tail none (.inl rfl));exact W.ek a0 rfl (by decide:(4)<=1000) (tail (some ("")) (.inr (.inl rfl)));exact W.ek a0 rfl (by decide:(4)<=1000) (tail (some (dp b)) (.inr (.inr rfl)))
 have h:=ai.d;have c3:=h.aB;refine W.truth<|W.aw (λho=>?_) λho=>?_;have a3:ru o=4:=Y ho ?_;rfl;have bx:bo o=1:=Y ho ?_;rfl;refine W.take (ar [_,_] [.le (.a (.m 2 U) (.k 4)) (.a J (.k 2))] (.le (.k 2) (.a J (.k 1))) B hn) h.base (ar [_,_,_] [.le (.a J u) (.k 1000000),.eq u (.a (.m 4 U) (.k 10))] (.lt (.a (.a J (.m 2 U)) (.k 1)) (.k 1000000)) B hC A) (by decide) λq s q1 b6 x=>W.range ?_;have b7:=x.get h.iz (g9 (ar [_] [.le (.k 10) J] (.n (.eq (.k 4) J)) B hk));have c4:=aG h.ext.len x.len;refine Ur (ar [_,_] [.le (.a (.m 2 U) (.k 4)) (.a J (.k 2))] (.le (.k 2) (.a J (.k 1))) B hn) b6 hk b7 (ar [_] [.aR (.c J) (.k 3)] (.le J (.k 2)) B q1) (ar [_,_,_,_] [.le (.a (.a U (.m 4 u)) D) (.k 100),.le J (.a U (.m 2 u)),.eq D (.k 4)] (.le (.a J (.k 2)) (.k 100)) B hm c3 a3) λio ap L eo b8=>b0 io ((qA a4 q).map dp) (a4+q) (2*pc p+q) ap (by simp;exact ar [_] [.aR (.c J) (.k 3)] (.le J (.k 2)) B q1) (ar [_,_,_] [.le J u,.le u U] (.le J U) B c4 L) eo ?_ ((x4 x).trans b8.ext) (ar [_,_,_,_] [.eq D (.k 4),.eq u (.k 1),.aR (.c U) (.k 3)] (.le (.a (.a (.a (.a (.m 2 J) U) (.k 1)) (.m 2 J)) u) (.a (.m 4 J) D)) B a3 bx q1);exact(h.keep b6 (x4 x) b7).seq b8;have c5:ru o=1:=Y ho ?_;rfl;have c9:bo o=0:=Y ho ?_;rfl;refine W.alloc<|b0 a5.length [] a4 (2*pc p) _ (lb B) h.ext.len (by simp) ?_ .new (ar [_,_,_] [.eq u (.k 1),.eq U (.k 0)] (.le (.a (.a (.a (.m 2 J) (.k 1)) (.m 2 J)) U) (.a (.m 4 J) u)) B c5 c9);exact Y (cV _)<|(h.keep (h.base.dk .new) .new (fE h.iz))|>.mono (ar [_,_] [] (.le (.a (.a J (.m 2 U)) (.k 1)) (.a (.a J (.m 2 U)) (.k 2))) B)
theorem LE:∀b,yj b:=by
 intro c;induction c with
 |zero=>exact BJ λf h=>(by injection h)
 |succ b e=>exact BJ λd h=>by injection h with a;subst a;exact E2 (e)
theorem Sb a:zW a:=E2 (LE a)
inductive Fs where
 |v (x:V)
 |d
 |l
def M.sets(a:V)(l:List (aa×Fs))(k:M γ):M γ:=l.rec k λp b c=>Fs.rec (λx=>(X.setAttr aC p.1 a x).bd λb=>c) ((M.alloc (.dict [])).bd λq=>(X.setAttr aC p.1 a q).bd λb=>c) ((M.alloc (.list [])).bd λq=>(X.setAttr aC p.1 a q).bd λb=>c) p.2
def ug(b:Nat)(l:List (aa×Fs)):=(l.rec (λc=>[]) λp c a b=>Fs.rec (λx=>(p.1,x)::a b) ((p.1,.ref b)::a (b+1)) ((p.1,.ref b)::a (b+1)) p.2:Nat->List (aa×V)) b
def v9(l:List (aa×Fs)):Hp:=l.rec [] λp b a=>Fs.rec (λb=>a) (.dict []::a) (.list []::a) p.2
theorem M.Iy:M.sets a ((n,.v x)::r) k=(X.setAttr aC n a x).bd λb=>M.sets a r k:=rfl
theorem M.RU:M.sets a ((n,.d)::r) k=(M.alloc (.dict [])).bd λq=>(X.setAttr aC n a q).bd λb=>M.sets a r k:=rfl
theorem M.KL:M.sets a ((n,.l)::r) k=(M.alloc (.list [])).bd λq=>(X.setAttr aC n a q).bd λb=>M.sets a r k:=rfl
theorem uL:∀{a},k∉a.map (·.1)->cc k x a=a++[(k,x)]:=by
 intro b;induction b with
 |nil=>exact λ_=>rfl
 |cons e r c=>intro h;rw[kn,ca,not_or]at h;exact Y wc<|Y (if_neg (ch h.1))<|Y (c h.2) rfl
theorem W.sets:∀{l}{a}{S:Hp},(∀p∈l,aC C p.1=true)->(a.map (·.1)++l.map (·.1)).Nodup->a.length+l.length<=1000->W k (H++.inst C (a++ug (H.length+1+S.length) l)::(S++v9 l)) Q->W (M.sets (.ref H.length) l k) (H++.inst C a::S) Q:=by
 intro i;induction i with
 |nil=>intro a S _ _ _ h;refine(?_);refine(?_);have h:W k (H++.inst C (a++[])::(S++[])) Q:=h;rw[cV,cV]at h;exact h
 |cons j r m=>
  intro a S ok d c h;obtain⟨n,f⟩:=j;have A:((a++[(n,V.none)]).map (·.1)++r.map (·.1)).Nodup:=by simpa using d
  have b:∀(S)(x),(H++.inst C a::S).set H.length (.inst C (cc n x a))=H++.inst C (a++[(n,x)])::S:=λS x=>Y (uL (λq=>(n0.mp d).2.2 n q n (.head _) rfl)) ?_;simp;have e:∀x,(a++[(n,x)]).length+r.length<=1000:=λx=>by simp at c⊢;exact ah [.le (J+(U+1)) 1000] (.le (J+1+U) 1000) B c
  have go:∀S(x),W k (H++.inst C (a++(n,x)::ug (H.length+1+S.length) r)::(S++v9 r)) Q->W ((X.setAttr aC n (.ref H.length) x).bd λs=>M.sets (.ref H.length) r k) (H++.inst C a::S) Q:=λS x h=>W.setAttr ((λS=>by simp) S) (ok _ (.head _)) (by simp at c;exact ah [.le (J+(U+1)) 1000] (.le J 1000) B c)<|Y (b _ _)<|m (λp t=>ok p (.tail _ t)) ((λx=>by simpa using d) x) (e x) (by simpa using h);have g:∀(o),W k (H++.inst C (a++(n,.ref (H.length+1+S.length))::ug (H.length+1+S.length+1) r)::(S++o::v9 r)) Q->W ((M.alloc o).bd λq=>(X.setAttr aC n (.ref H.length) q).bd λs=>M.sets (.ref H.length) r k) (H++.inst C a::S) Q:=λo h=>by
   refine W.alloc ?_;have v:(H++.inst C a::S).length=H.length+1+S.length:=by simp;exact ah [] (.eq (J+(U+1)) (J+1+U)) B
   have w:(H++.inst C a::S)++[o]=H++.inst C a::(S++[o]):=by simp
   refine Y v<|Y w<|go _ _ ?_;have y:H.length+1+(S++[o]).length=H.length+1+S.length+1:=by simp;exact ah [] (.eq (J+1+(U+1)) (J+1+U+1)) B
   refine Y y ?_;simpa using h
  rcases f with x|_|_;exact go S x h;exact g _ h;exact g _ h
theorem Ext.hU:Ext [] H (H++S):=⟨by simp,λi hi a=>Y (mH hi) rfl⟩
noncomputable def mX(a b:V):List (aa×Fs):=[("number",.v a),("owner",.v b),("fields",.d),("own",.v .none),("frozen",.v (.bool false)),("ident",.v .none)]
theorem cB(h:2<=n):∃k,n=k+2:=⟨n- 2,an [.le (.k 2) J] (.eq J (.a (.s J (.k 2)) (.k 2))) B h⟩
theorem jh(h:3<=n):∃k,n=k+1+2:=⟨n- 3,an [.le (.k 3) J] (.eq J (.a (.a (.s J (.k 3)) (.k 1)) (.k 2))) B h⟩
set_option tactic.hygienic true in
theorem W.mk{m:Nat->List V->M V}{a:V}(i:m n (.ref H.length::a::b::vs)=(nG (n- 1) [.ref H.length,a,b]).bd λd=>M.sets (.ref H.length) l (M.ret V.none))(j:3<=n)(ok:((mX a b++l).map (·.1)).all (aC C)=true)(o:o5 ((mX a b++l).map (·.1))=true)(q:(mX a b++l).length<=1000)(h:W (k (.ref H.length)) (H++.inst C (ug (H.length+1) (mX a b++l))::v9 (mX a b++l)) Q):W ((M.make C (m n) (a::b::vs)).bd k) H Q:=by
 refine W.make ?_;rw[i];obtain⟨n,rfl⟩:=jh j;show W ((nG (n+2) _).bd _) _ _;rw[Oe];have e:((BN n (.ref H.length) a b).bd λd=>M.sets (.ref H.length) l (M.ret V.none))=M.sets (.ref H.length) (mX a b++l) (M.ret V.none):=by
  show(M.bd (M.sets (.ref H.length) (mX a b) (M.ret V.none)) λd=>M.sets (.ref H.length) l (M.ret V.none))=_;have g:∀(c),(M.bd (M.sets (.ref H.length) c (M.ret V.none)) λd=>M.sets (.ref H.length) l (M.ret V.none))=M.sets (.ref H.length) (c++l) (M.ret V.none):=λc=>by induction c with
  |nil=>rfl
  |cons p r s=>obtain⟨n,f⟩:=p;rcases f<;>simp only[M.Iy,M.RU,M.KL,Xi,M.cR,s]
  exact g _
 rw[e];exact W.sets (λp t=>c0.mp ok _ (List.mem_map_of_mem t)) (by simpa using nF o) (by simpa using q) (W.ret ⟨rfl,by simpa using h⟩)
noncomputable def pB(a c:V)(b:Nat)(r:List (aa×V)):List (aa×V):=("number",a)::("owner",c)::("fields",.ref b)::("own",.none)::("frozen",.bool false)::("ident",.none)::r
theorem W.mkText(d:3<=n)(h:W (k (.ref H.length)) (H++[.inst 243 (pB a b (H.length+1) [("text",x)]),.dict []]) Q):W ((M.make 243 (zN n) [a,b,x]).bd k) H Q:=by refine W.mk (l:=[("text",.v x)]) ?_ d ?_ ?_ ?_ h;exact xE (jh d) λn c=>Y c<|R5 _ _ _ _ _;kernel_rfl;kernel_rfl;exact(by decide:(7)<=1000)
theorem W.KP(d:3<=n)(h:W (k (.ref H.length)) (H++[.inst 263 (pB a b (H.length+1) [("items",.ref j)]),.dict []]) Q):W ((M.make 263 (zm n) [a,b,.ref j]).bd k) H Q:=by refine W.mk (l:=[("items",.v (.ref j))]) ?_ d ?_ ?_ ?_ h;exact xE (jh d) λn c=>Y c<|Jl _ _ _ _ _;kernel_rfl;kernel_rfl;exact(by decide:(7)<=1000)
theorem W.mkError(d:3<=n)(h:W (k (.ref H.length)) (H++[.inst 362 (pB a b (H.length+1) [("message",x),("cause",.none)]),.dict []]) Q):W ((M.make 362 (zr n) [a,b,x]).bd k) H Q:=by refine W.mk (l:=[("message",.v x),("cause",.v .none)]) ?_ d ?_ ?_ ?_ h;exact xE (jh d) λn c=>Y c<|TA _ _ _ _ _;kernel_rfl;kernel_rfl;exact(by decide:(8)<=1000)
def nA a d name c b:=pB a d b [("name",name),("is_class",c),("parent",.none),("outer",.none),("methods",.ref (b+1)),("constants",.ref (b+1+1)),("mixed",.ref (b+1+1+1)),("ahead",.ref (b+1+1+1+1)),("attached",.none),("native",.none),("kept",.none)]
theorem W.Uq(e:3<=n)(h:W (k (.ref H.length)) (H++[.inst 409 (nA a b name c (H.length+1)),.dict [],.dict [],.dict [],.list [],.list []]) Q):W ((M.make 409 (Af n) [a,b,name,c]).bd k) H Q:=by refine W.mk (l:=[("name",.v name),("is_class",.v c),("parent",.v .none),("outer",.v .none),("methods",.d),("constants",.d),("mixed",.l),("ahead",.l),("attached",.v .none),("native",.v .none),("kept",.v .none)]) ?_ e ?_ ?_ ?_ h;exact xE (jh e) λn d=>Y d<|VG _ _ _ _ _ _;kernel_rfl;kernel_rfl;exact(by decide:(17)<=1000)
theorem W.mkNode(b:2<=n)(h:∀H',Ext [] H H'->W (k (.ref H.length)) H' Q):W ((M.make 166 (yW n) [.str "int",.tup [.int 7]]).bd k) H Q:=by refine xE (cB b) λn a=>Y a<|W.make<|Y (Lx _ _ _ _)<|(?_);exact W.sets (λp c=>c0.mp (by kernel_rfl:(([("kind",Fs.v (.str "int")),("parts",.v (.tup [.int 7])),("line",.v (.int 0)),("own",.v .none)]:List (aa×Fs))).all (λp=>aC 166 p.1)=true) p c) (nF (by kernel_rfl)) (lb B) (W.ret ⟨rfl,h _ .hU⟩)
theorem W.mkParams(l:2<=n)(m:H[p]? =some (.list xs))(t:H[v]? =some (.list ys))(w:H[x]? =some (.list j))(y:Sz xs)(A:Sz ys)(C:Sz j)(h:W (k (.ref H.length)) (H++[.inst 198 (oG (H.length+1) (H.length+2) (H.length+3) r b),.list xs,.list ys,.list j]) Q):W ((M.make 198 (xp n) [.ref p,.ref v,r,.ref x,b]).bd k) H Q:=by
 refine xE (cB l) λn g=>Y g<|W.make<|Y (TQ _ _ _ _ _ _ _) ?_;have c:∀{a:List (aa×V)}{S:Hp},(H++.inst 198 a::S)[H.length]? =some (.inst 198 a):=by simp
 have st:∀{a:List (aa×V)}{S:Hp}{o:O},(H++.inst 198 a::S).set H.length o=H++o::S:=by simp
 have L:∀{a:List (aa×V)}{S:Hp}{o:O},(H++.inst 198 a::S)++[o]=H++.inst 198 a::(S++[o]):=by simp
 have ln:∀{a:List (aa×V)}{S:Hp},(H++.inst 198 a::S).length=H.length+(S.length+1):=by simp
 have f:∀{a:List (aa×V)}{S:Hp}{i:Nat}{xs:List V}{d:aa}{k:M V}{Q:V->Hp->Prop},H[i]? =some (.list xs)->Sz xs->aC 198 d=true->a.length<=1000->W k (H++.inst 198 (cc d (.ref (H.length+(S.length+1))) a)::(S++[.list xs])) Q->W ((X.list (.ref i)).bd λq=>(X.setAttr aC d (.ref H.length) q).bd λo0=>k) (H++.inst 198 a::S) Q:=λ{a S i xs d k Q}e s ok le h=>W.rF ((fE) e) s<|Y L<|Y ln<|W.setAttr c ok le<|Y st<|h
 exact f m y (by rfl) (gj (by kernel_rfl))<|f t A (by rfl) (gj (by kernel_rfl))<|W.setAttr c (by rfl) (gj (by kernel_rfl))<|Y st<|f w C (by rfl) (gj (by kernel_rfl))<|W.setAttr c (by rfl) (gj (by kernel_rfl))<|Y st<|W.ret ⟨rfl,h⟩
theorem lC(h:k≠a):∀{b},bg k (cc a x b)=bg k b
 |[]=>if_neg (ch h)
 |e::r=>by refine(?_:bg k (if e.1=a then(a,x)::r else e::cc a x r)=(if e.1=k then some e.2 else bg k r));by_cases q:e.1=a;rw[if_pos q,if_neg (by rw[q];exact ch h)];exact if_neg (ch h);rw[if_neg q];refine(?_:(if e.1=k then some e.2 else bg k (cc a x r))=_);rw[lC h]
theorem GB:∀{a},bg k (cc k x a)=some x:=by
 intro b;induction b with
 |nil=>exact if_pos rfl
 |cons e r c=>refine(?_:bg k (if e.1=k then(k,x)::r else e::cc k x r)=_);by_cases q:e.1=k;exact Y (if_pos q)<|if_pos rfl;refine Y (if_neg q)<|(?_:(if e.1=k then some e.2 else bg k (cc k x r))=_);exact Y (if_neg q)<|Y c rfl
theorem CL:∀{a},(cc k x a).length<=a.length+1:=by
 intro b;induction b with
 |nil=>exact aS _
 |cons e r c=>refine(?_:(if e.1=k then(k,x)::r else e::cc k x r).length<=_);split;simp;simpa using c
theorem Base.N9(g:Base H t C x):Base (H.set 6 (.inst 895 (wf h))) t C h:=by refine bh λy j=>?_;obtain⟨d,⟨f,c,k,l,a⟩,m,⟨p,q,r,s⟩,v⟩:=g;have b:∀{i}{o w},6≠i->H[i]? =some o->(H.set 6 w)[i]? =some o:=λn e=>gK n e;exact j<|⟨(bA (b (by decide) d.1) (b (by decide) d.2.1) (b (by decide) d.2.2.1) (b (by decide) d.2.2.2)),(k8 f c k (b (by decide) l) a),eK m,(bn p (b (by decide) q) r (s.ext λi o hi e A=>b (an [.le 10 J] (.n (.eq 6 J)) B hi) e)),by simpa using v⟩
theorem W.number(d:2<=n)(a:Base H t C c)(h:∀H',Base H' t C (c+1)->Ext [6] H H'->W (k (.int (c+1))) H' Q):W ((pY n [.ref 6]).bd k) H Q:=xE (cB d) λn b=>Y b<|W.bd<|Y (K1 _ _)<|W.attr a.cP (by rfl) (by rfl) (by rfl)<|W.iadd<|W.setAttr a.cP (by rfl) (gj (by kernel_rfl))<|W.attr (eK a.cP) (by rfl) (by rfl) (by rfl)<|W.ret<|h _ a.N9 (.set (.head _))
theorem W.mY(e:H[i]? =some (.dict a))(h:W (k ()) H Q):W ((Internal.mY (.ref i)).bd k) H Q:=W.md e h
def fJ l c name:=∀(γ)(n)(H)(t)(C)(a)(k)(Q:γ->Hp->Prop),l<=n->Base H t C a->C+c<=1000000->(∀v H' b,Base H' t (C+c) b->a<=b->Ext [6,9] H H'->jS H' v name->W (k v) H' Q)->W ((j4 n [.ref 6,.str name]).bd k) H Q
theorem DN(p:2<=n)(c:Base H t C y)(s:∀v,jS H v name->f v H)(w:(∀b,H[9]? =some (.dict b)->bg name b=none)->W (zx (n- 1) [.ref 6,.str name]) H f)(hk:∀v H',f v H'->W (k v) H' Q):W ((j4 n [.ref 6,.str name]).bd k) H Q:=by refine xE (cB p) λn a=>?_;subst a;refine W.bd<|Y (LY _ _ _)<|c_ c.made λb e l m=>W.attr c.cP (by rfl) (by rfl) (by rfl)<|W.mY e<|W.get e ?_;rcases g:bg name b with _|v;exact W.is<|W.truth<|W.bj rfl<|W.bF c.cP (by rfl)<|W.bd ((w λx j=>by rw[e]at j;injection j with d;injection d with h;subst h;exact g).mono λv H' q=>W.ret (hk _ _ q));have o:=m.1 _ _ g;refine bZ (id o) λi A a r=>?_;subst a;exact W.is<|W.truth<|W.aQ rfl<|W.ret (hk _ _ (s _ o))
theorem Gp(h:name∈(["Object","BasicObject","Class","Module","Kernel"]:List aa)):fJ 2 0 name:=by refine λγ n H t C b k Q c a g hk=>DN c a (λv m=>⟨rfl,m⟩) (λq=>?_) λv H' d=>xA d λe m=>?_;refine c_ a.made λf e l m=>?_;have:=m.2 name h;rw[q f e]at this;exact ft this;subst e;exact hk v _ b a (mQ _) .refl m
theorem fJ.mono(h:fJ l c name)(b:l<=d)(a:c<=e):fJ d e name:=λγ n H t C f k Q g i j hk=>h γ n H t C f k Q (aL [.le J u,.le u U] (.le J U) B b g) i (aL [.le U u,.le (J+u) 1000000] (.le (J+U) 1000000) B a j) λv H' m o=>hk v H' m (o.mono (aL [.le U u] (.le (J+U) (J+u)) B a))
structure MF(H:Hp)(L len:Nat)name:Prop where
 is:∃fs,H[L]? =some (.inst 409 fs)/\fs.length<=len/\bg "name" fs=some (.str name)/\bg "outer" fs=some .none/\bg "attached" fs=some .none
theorem MF.mod(m:MF H L c name)(h:10<=L):jS H (.ref L) name:=c_ m.is λb e l a=>(kN L b rfl h e a)
theorem W.setM{c:Nat}{name:aa}(m:MF H L c name)(af:Base H t C N)(hL:10<=L)(hl:c<=900)(ok:aC 409 d=true)(s:("name":aa)≠d)(w:("outer":aa)≠d)(y:("attached":aa)≠d)(h:∀H',MF H' L (c+1) name->Base H' t C N->Ext [L] H H'->W (k ()) H' Q):W ((X.setAttr aC d (.ref L) x).bd k) H Q:=by refine cT m.is λfs e l a1 j=>xA j λa2 a3=>W.setAttr e ok (ah [.le U 900,.le J U] (.le J 1000) B hl l) (h _ ⟨_,eK e,aG CL (ah [.le J U] (.le (J+1) (U+1)) B l),Y (lC s)<|a1,Y (lC w)<|a2,Y (lC y)<|a3⟩ ?_ (.set (.head _)));obtain⟨h1,h2,h3,⟨es,h4,h5,A⟩,h7⟩:=af;have a:∀i,i<10->(H.set L (.inst 409 (cc d x fs)))[i]? =H[i]? :=λi hi=>qe (ah [.le 10 J,.lt U 10] (.n (.eq J U)) B hL hi);refine⟨Y (a 1 (lb B))<|Y (a 2 (lb B))<|Y (a 5 (lb B))<|Y (a 7 (lb B))<|h1,Y (a 4 (lb B))<|h2,Y (a 6 (lb B))<|h3,(dS es (Y (a 9 (lb B))<|h4) h5 (λq v g=>?_) A.2),by simpa using h7⟩;refine bZ (A.1 q v g) λi gs n o=>Y n<|bN o λhi f b=>?_;by_cases q':L=i;subst q';rw[e]at f;injection f with p;injection p with ai r;exact Y r<|(iu L _ rfl hi (eK e) (Y (lC s)<|b.1) ⟨Y (lC w)<|b.2.1,Y (lC y)<|b.2.2⟩);exact(kN i gs rfl hi (gK q' f) b)
theorem W.LF(d:2<=n)(b:Base H t C g)(f:name.length<=900)(h:W (k .none) H Q):W ((zM n [.ref 6,.str name]).bd k) H Q:=by
 refine xE (cB d) λn c=>Y c<|W.bd<|Y (Ka _ _ _) ?_;have dl:name.length+(qz ".").length<=1000:=by
  have:(qz ".").length=1:=by decide
  exact ah [.le J (.k 900),.eq U (.k 1)] (.le (.a J U) (.k 1000)) B f this
 have a:∀{i}{q}{k}{Q:V->Hp->Prop},H[i]? =some (.dict [])->W (k (.bool false)) H Q->W ((X.isIn i_ (.str q) (.ref i)).bd k) H Q:=λ{i q k Q}e h=>W.st ((cn (cn (j0 e))).trans rfl) h;exact W.fk dl<|W.attr b.cP (by rfl) (by rfl) (by rfl)<|a b.tb.2.2.1<|W.truth<|W.aQ rfl<|W.fk dl<|W.attr b.cP (by rfl) (by rfl) (by rfl)<|a b.tb.2.2.2<|W.truth<|W.aQ rfl<|W.ret h
theorem W.RX(a:i_ c q=some b)(h:W (k (.bool (!b))) H Q):W ((X.rR i_ (.str q) (.g c)).bd k) H Q:=W.st (by skip;exact(cn (by refine(?_:(match i_ c q with|some b=>M.ret b|none=>M.bad) H=_);refine Y a ?_;rfl)).trans rfl) h
theorem xO:M.eN (.tup xs) H=some (.ok (.tup xs,xs.length),H):=rfl
theorem Av(a:j<=xs.length):(It.tup xs).next j H=some (.ok (if j<xs.length then some (xs.getD j .none)else none),H):=by refine(?_:some (Rs.ok xs[j]?,H)=_);by_cases q:j<xs.length;exact Y (if_pos q)<|Y (lD q) rfl;exact Y (if_neg q)<|Y (ik (by exact ah [.le U J,.n (.lt U J)] (.le J U) B a q)) rfl
structure MS H t C N L len name H':Prop where
 mf:MF H' L len name
 base:∃N',Base H' t C N'/\N<=N'
 ext:Ext [6,9] H H'
 new:H.length<=L
theorem MS.le(s:MS H t C c L a name H')(h:C<=d):MS H t d c L a name H':=⟨s.mf,ad s.base λe b l=>(ak e (b.mono h) l),s.ext,s.new⟩
theorem MS.set(s:MS H t C f L c name H')(e:10<=H.length)(g:c<=900)(ok:aC 409 d=true)(j:("name":aa)≠d)(l:("outer":aa)≠d)(n:("attached":aa)≠d)(h:∀a,MS H t C f L (c+1) name a->W (k ()) a Q):W ((X.setAttr aC d (.ref L) x).bd k) H' Q:=by refine ad s.base λo b p=>?_;have:=s.new;exact W.setM s.mf b (ah [.le 10 U,.le U J] (.le 10 J) B e this) g ok j l n λa m b' x=>h a ⟨m,(ak o b' p),s.ext.trans' x λi q=>.inr (by rcases ca.mp q with rfl|q;exact s.new;rcases q),s.new⟩
theorem MS.rj{Q:γ->Hp->Prop}(j:fJ l c p)(o:l<=n)(q:C+c<=1000000)(s:MS H t C w L d name H')(f:10<=H.length)(h:∀v a,MS H t (C+c) w L d name a->W (k v) a Q):W ((j4 n [.ref 6,.str p]).bd k) H' Q:=by refine ad s.base λy b A=>j γ n H' t C y k Q o b q λv a g b' i x m=>h v a ⟨?_,(ak g b' (wO A i)),s.ext.trans x,s.new⟩;exact ad s.mf.is λfs e r=>⟨fs,x.get e (by have:=s.new;simp;exact ah [.le 10 U,.le U J] (.and (.n (.eq J 6)) (.n (.eq J 9))) B f this),r⟩
noncomputable def KV(ms:Option aa):List V:=match ms with
 |some m=>[.str m]
 |none=>[]
theorem nQ(h1:i_ (.ref 630) name=some (!cls))(h2:aZ (.ref 631) name=some (cS par))(h3:oV name=some (ms.map λm=>V.tup [.str m]))(hl:name.length<=900)(hp:∀p,par=some p->fJ l c p)(hm:∀m,ms=some m->fJ l c m):fJ (l+6) (2*c+1) name:=by
 refine λγ n H t C A k Q hn bk hC hk=>c_ bk.made λes e9 bs m9=>?_;have bl:=bk.len;refine DN (ar [_,_] [.le (.a U (.k 6)) J] (.le (.k 2) J) B hn) bk (λv m=>(dS A (bk.mono (ar [_,_] [] (.le J (.a J (.a (.m 2 U) (.k 1)))) B)) (mQ _) .refl m)) (λg=>?_) λv H' zz=>cT zz λN' b le x m=>hk v H' N' b le x m;have g:=g es e9;obtain⟨n,rfl⟩:∃m,n=m+3:=⟨n- 3,ar [_,_] [.le (.a U (.k 6)) J] (.eq J (.a (.s J (.k 3)) (.k 3))) B hn⟩;refine(?_);refine Y (UQ _ _ _) ?_;generalize hf:(λ(v)(H')=>∃N',Base H' t (C+(2*c+1)) N'/\A<=N'/\Ext [6,9] H H'/\jS H' v name)=f;refine W.RX h1<|Y (Bool.not_not _)<|W.bF bk.cP (by rfl)<|W.number (ar [_,_] [.le (.a U (.k 6)) (.a J (.k 3))] (.le (.k 2) (.a J (.k 1))) B hn) bk λd b0 aj=>W.Uq (ar [_,_] [.le (.a U (.k 6)) (.a J (.k 3))] (.le (.k 3) J) B hn) ?_;have l1:=aj.len;have a5:=b0.dk (.hU (S:=[.inst 409 (nA (.int (A+1)) .none (.str name) (.bool cls) (d.length+1)),.dict [],.dict [],.dict [],.list [],.list []]));have a6:Ext [6,9] H (d++[.inst 409 (nA (.int (A+1)) .none (.str name) (.bool cls) (d.length+1)),.dict [],.dict [],.dict [],.list [],.list []]):=(aj.mono λi q=>by rcases ca.mp q with rfl|q;exact .head _;rcases q).trans (Ext.hU.mono λy q=>(f4 q).elim);have eL:(d++[.inst 409 (nA (.int (A+1)) .none (.str name) (.bool cls) (d.length+1)),.dict [],.dict [],.dict [],.list [],.list []])[d.length]? =some (.inst 409 (nA (.int (A+1)) .none (.str name) (.bool cls) (d.length+1))):=by simp
 have e2:=fE (S:=[.inst 409 (nA (.int (A+1)) .none (.str name) (.bool cls) (d.length+1)),.dict [],.dict [],.dict [],.list [],.list []]) (aj.get e9 (by decide));generalize d++[.inst 409 (nA (.int (A+1)) .none (.str name) (.bool cls) (d.length+1)),.dict [],.dict [],.dict [],.list [],.list []]=ap at*;generalize d.length=L at*;refine W.attr a5.cP (by rfl) (by rfl) (by rfl)<|W.ux e2 (Y fA<|ar [_,_,_] [.le (.a U (.a (.m 2 u) (.k 1))) (.k 1000000),.le J U] (.le J (.k 16777216)) B hC bs) ?_;have b2:MS H t (C+1) A L 17 name (ap.set 9 (.dict (cc name (.ref L) es))):=by have ne:∀{i:Nat}{o:O},9≠i->ap[i]? =some o->(ap.set 9 (.dict (cc name (.ref L) es)))[i]? =some o:=λn e=>gK n e;refine⟨⟨_,ne (ar [_,_] [.le (.k 50) U,.le U J] (.n (.eq (.k 9) J)) B bl l1) eL,aS _,by rfl,by rfl,by rfl⟩,(ak (A+1) ?_ (by apply dj A;exact λa9 a'=>ar [a9,a'] [] (.bC (.s (.c J) (.c U)) (.a (.s (.c J) (.c U)) (.k 1))) B)),a6.trans (.set (.tail _ (.head _))),ar [_,_] [.le J U] (.le J U) B l1⟩;obtain⟨b1,⟨f',c',df,a1,a2,a3,a4⟩,b3,_,b7⟩:=a5;refine⟨(bA (ne (by decide) b1.1) (ne (by decide) b1.2.1) (ne (by decide) b1.2.2.1) (ne (by decide) b1.2.2.2)),(dK f' c' df (ne (by decide) a1) a2 ⟨a3.1,by(revert a3;apply dj c';exact λa9 a'=>λa3=>ar [a9,a',_] [.and (.bC (.k 0) (.s (.c J) (.c U))) (.bC (.s (.c J) (.c U)) (.c u))] (.bC (.s (.c J) (.c U)) (.c (.a u (.k 1)))) B a3)⟩ a4),ne (by decide) b3,(dS _ (eK e2) (aG CL (ar [_,_] [.le J U] (.le (.a J (.k 1)) (.a U (.k 1))) B bs)) (λq v hv=>?_) (λq hq=>?_)),by simpa using b7⟩;by_cases hq:q=name;subst hq;exact ae (ao (GB.symm.trans hv))<|(iu L _ rfl (ar [_,_] [.le (.k 50) U,.le U J] (.le (.k 10) J) B bl l1) (ne (ar [_,_] [.le (.k 50) U,.le U J] (.n (.eq (.k 9) J)) B bl l1) eL) (by rfl) ⟨by rfl,by rfl⟩);rw[lC hq]at hv;exact(m9.1 q v hv).ext λi o hi e y=>ne (ar [_] [.le (.k 10) J] (.n (.eq (.k 9) J)) B hi) (a6.get e (by simp;exact ar [_] [.le (.k 10) J] (.and (.n (.eq J (.k 6))) (.n (.eq J (.k 9)))) B hi));by_cases q':q=name;subst q';refine Y GB ?_;rfl;exact Y (lC q')<|m9.2 q hq
 refine b2.set (ar [_] [.le (.k 50) J] (.le (.k 10) J) B bl) (by decide) (by rfl) (by decide) (by decide) (by decide) λc4 av=>?_;have tail:∀h,MS H t (C+1+c) A L 19 name h->W (Eo n (.ref 6) (.bool cls) (.ref L) (.str name)) h f:=by
  refine λh w=>ad w.base λc5 b4 cv=>?_;have bv:∀q:aa,q∈(["Object","BasicObject","Class","Module","Kernel"]:List aa)->W (yw n (.ref 6) (.str q) (.ref L) (.str name)) h f:=λq hq=>by
   refine w.rj (Gp hq) (ar [_,_] [.le (.a U (.k 6)) (.a J (.k 3))] (.le (.k 2) (.a J (.k 1))) B hn) (by exact ar [_,_] [.le (.a J (.a (.m 2 U) (.k 1))) (.k 1000000)] (.le (.a (.a (.a J (.k 1)) U) (.k 0)) (.k 1000000)) B hC) (ar [_] [.le (.k 50) J] (.le (.k 10) J) B bl) λv a7 ax=>ax.set (ar [_] [.le (.k 50) J] (.le (.k 10) J) B bl) (by decide) (by rfl) (by decide) (by decide) (by decide) λa8 af=>ad af.base λc6 c9 cw=>?_;have b8:∀xs:List V,(∀x∈xs,∃m,x=.str m/\fJ l c m)->xs.length<=1->W ((M.cZ (.tup xs) λb9=>GW n (.ref 6) b9).bd λcd=>(X.setAttr aC "mixed" (.ref L) cd).bd λy=>Fg n (.ref 6) (.str name) (.ref L)) a8 f:=by
    intro xs hx bb;have dg:=af.new;have ll:=ad af.mf.is λfs e y=>(bR.mp e).1;have cf:∀{C' bx:Nat}{H':Hp}{o:O},MS H t C' A L bx name H'->MS H t C' A L bx name (H'++[o]):=λs=>by obtain⟨⟨fs,e,r⟩,⟨N',b,le⟩,x,nw⟩:=s;exact⟨⟨fs,fE e,r⟩,(ak N' (b.dk .new) le),x.trans .new,nw⟩
    refine W.cZ (λj=>MS H t (C+1+c+j*c) A L 20 name) (λy y y=>True) xO (ar [_] [.le J (.k 1)] (.le J (.k 1000)) B bb) (λj H' hj y=>Av hj) ?_ (λj H' ys di s e=>⟨?_,λy y y=>trivial⟩) (λj H' ys hj s e=>?_) λys H' hy s e y=>?_;exact Y (Hd _)<|cf af;obtain⟨⟨fs,e',r⟩,⟨N',b,le⟩,x,nw⟩:=s;exact⟨⟨fs,gK (ar [_,_] [.lt U J] (.n (.eq J U)) B ll) e',r⟩,(ak N' (b.set (ar [_,_,_] [.le (.k 50) U,.le U u,.lt u J] (.le (.k 10) J) B bl l1 ll) e λy q=>(by injection q)) le),x.eM (ar [_,_,_] [.le J u,.lt u U] (.le J U) B l1 ll),nw⟩;refine ad (hx _ (iT (lD hj))) λm em bm=>Y em ?_;have cl:j=0:=ar [_,_] [.le U (.k 1),.lt J U] (.eq J (.k 0)) B bb hj;subst cl;refine ad s.base λN' b le=>W.bF b.cP (by rfl)<|bm V (n+1) H' t _ N' _ _ (ar [_,_] [.le (.a J (.k 6)) (.a U (.k 3))] (.le J (.a U (.k 1))) B hn) b (ar [_,_] [.le (.a J (.a (.m 2 U) (.k 1))) (.k 1000000)] (.le (.a (.a (.a (.a J (.k 1)) U) (.m 0 U)) U) (.k 1000000)) B hC) λv dr cs b' ct x y=>W.ret (bA (x.get e (by simp;exact ar [_,_,_] [.le (.k 50) U,.le U u,.lt u J] (.and (.n (.eq J (.k 6))) (.n (.eq J (.k 9)))) B bl l1 ll)) ⟨?_,(ak cs (b'.mono (by omega)) (wO le ct)),s.ext.trans x,s.new⟩ trivial (λy y y=>trivial));exact ad s.mf.is λfs e' r=>⟨fs,x.get e' (by simp;exact ar [_,_] [.le (.k 50) U,.le U J] (.and (.n (.eq J (.k 6))) (.n (.eq J (.k 9)))) B bl l1),r⟩;refine s.set (ar [_] [.le (.k 50) J] (.le (.k 10) J) B bl) (by decide) (by rfl) (by decide) (by decide) (by decide) λdc a0=>ad a0.base λb5 ai bc=>W.attr ai.cP (by rfl) (by rfl) (by rfl)<|W.truth<|W.bj rfl<|W.bF ai.cP (by rfl)<|W.LF (ar [_,_] [.le (.a U (.k 6)) (.a J (.k 3))] (.le (.k 2) (.a J (.k 1))) B hn) ai hl<|W.ret<|ae hf<|(dS b5 (ai.mono ?_) bc a0.ext (a0.mf.mod (ar [_,_] [.le (.k 50) U,.le U J] (.le (.k 10) J) B bl l1)));have:=lG c bb;exact ar [_,_,_] [.le u (.m 1 U)] (.le (.a (.a (.a J (.k 1)) U) u) (.a J (.a (.m 2 U) (.k 1)))) B this
   refine W.st rfl<|W.st (a:=.tup (KV ms)) ?_ (b8 _ ?_ ?_);refine(?_:(match oV name with|some (some x)=>M.ret x|some none=>M.ret (.tup [])|none=>M.bad) a8=_);refine Y h3 ?_;rcases ms<;>rfl;intro x hx;rcases ms with _|m;rcases hx;exact Y (dW.mp hx)<|(ak m rfl (hm m rfl));rcases ms<;>exact gj rfl
  exact W.bF b4.cP (by rfl)<|W.truth<|W.aw (λy=>bv _ (by decide)) λy=>bv _ (by decide)
 refine W.TK h2 ?_;rcases par with _|p;exact W.is<|W.truth<|W.bj rfl<|av.set (ar [_] [.le (.k 50) J] (.le (.k 10) J) B bl) (by decide) (by rfl) (by decide) (by decide) (by decide) λh w=>tail h (w.le (ar [_,_] [] (.le (.a J (.k 1)) (.a (.a J (.k 1)) U)) B));exact ad av.base λdd b6 c3=>W.is<|W.truth<|W.aQ rfl<|W.bF b6.cP (by rfl)<|av.rj (hp p rfl) (ar [_,_] [.le (.a J (.k 6)) (.a U (.k 3))] (.le J (.a U (.k 1))) B hn) (by exact ar [_,_] [.le (.a J (.a (.m 2 U) (.k 1))) (.k 1000000)] (.le (.a (.a J (.k 1)) U) (.k 1000000)) B hC) (ar [_] [.le (.k 50) J] (.le (.k 10) J) B bl) λv h w=>w.set (ar [_] [.le (.k 50) J] (.le (.k 10) J) B bl) (by decide) (by rfl) (by decide) (by decide) (by decide) λa7 ax=>tail a7 ax
theorem IR:fJ 8 1 "Comparable":=nQ (par:=none) (ms:=none) (cls:=false) (c:=0) (by kernel_rfl) (by kernel_rfl) (by kernel_rfl) (lb B) (λa h=>(by injection h)) (λa h=>(by injection h))
theorem SP:fJ 8 1 "Enumerable":=nQ (cls:=false) (c:=0) (by kernel_rfl) (by kernel_rfl) (by kernel_rfl) (lb B) (λa h=>(ns h)) (λa h=>(ns h))
theorem zp:fJ 2 0 "Object":=Gp (by decide)
theorem LC:fJ 14 3 "String":=nQ (cls:=true) (c:=1) (by kernel_rfl) (by kernel_rfl) (by kernel_rfl) (lb B) (λa h=>ae (ao h)<|zp.mono (lb B) (lb B)) (λa h=>ae (ao h)<|IR)
theorem Jo:fJ 14 3 "Array":=nQ (cls:=true) (c:=1) (by kernel_rfl) (by kernel_rfl) (by kernel_rfl) (lb B) (λa h=>ae (ao h)<|zp.mono (lb B) (lb B)) (λa h=>ae (ao h)<|SP)
theorem Oy:fJ 8 1 "Exception":=nQ (cls:=true) (c:=0) (by kernel_rfl) (by kernel_rfl) (by kernel_rfl) (lb B) (λa h=>ae (ao h)<|zp) (λa h=>(ns h))
theorem VL:fJ 14 3 "StandardError":=nQ (cls:=true) (c:=1) (by kernel_rfl) (by kernel_rfl) (by kernel_rfl) (lb B) (λa h=>ae (ao h)<|Oy) (λa h=>(ns h))
theorem To:fJ 20 7 "ArgumentError":=nQ (cls:=true) (c:=3) (by kernel_rfl) (by kernel_rfl) (by kernel_rfl) (lb B) (λa h=>ae (ao h)<|VL) (λa h=>(ns h))
theorem W.text(g:18<=n)(s:Base H t C j)(L:C+3<=1000000)(h:∀i w o p H' y,Base H' t (C+3) y->j<=y->Ext [6,9] H H'->H.length<=i->H'[i]? =some (.inst 243 w)->w=pB (.int o) p (i+1) [("text",.str x)]->W (k (.ref i)) H' Q):W ((vd n [.ref 6,.str x]).bd k) H Q:=by refine xE (cB (n:=n) (an [.le (.k 18) J] (.le (.k 2) J) B g)) λn r=>?_;subst r;exact W.bd<|Y (J8 _ _ _)<|W.bF s.cP (by rfl)<|W.number (an [.le (.k 18) (.a J (.k 2))] (.le (.k 2) (.a J (.k 1))) B g) s λe a b=>W.bF a.cP (by rfl)<|LC _ (n+1) e t C _ _ _ (an [.le (.k 18) (.a J (.k 2))] (.le (.k 14) (.a J (.k 1))) B g) a L λv A c f l d m=>W.mkText (an [.le (.k 18) (.a J (.k 2))] (.le (.k 3) J) B g)<|W.ret<|h _ _ (j+1) v _ c (f.dk .hU) (by(revert l;apply dj j;intro af ai;apply dj c;exact λaj ap=>λl=>aU [.bC (.a (.s (.c J) (.c U)) (.k 1)) (.s (.c u) (.c D))] (.bC (.s (.c J) (.c U)) (.s (.c u) (.c D))) B l)) ((b.mono λi q=>by rcases ca.mp q with rfl|q;exact .head _;rcases q).trans (d.trans (Ext.hU.mono λo0 q=>(f4 q).elim))) (aG b.len d.len) (by simp) rfl
theorem W.listOf(p:18<=n)(x:Base H t C r)(hC:C+3<=1000000)(e:H[j]? =some (.list xs))(y:10<=j)(s:Sz xs)(h:∀v f H' A,Base H' t (C+3) A->r<f->f<=A->Ext [6,9] H H'->ListIs H.length H' v f xs->W (k v) H' Q):W ((rJ n [.ref 6,.ref j]).bd k) H Q:=by refine xE (cB (an [.le (.k 18) J] (.le (.k 2) J) B p)) λn w=>?_;subst w;refine W.bd<|Y (Ql _ _ _)<|W.bF x.cP (by rfl)<|W.number (an [.le (.k 18) (.a J (.k 2))] (.le (.k 2) (.a J (.k 1))) B p) x λg d a=>W.bF d.cP (by rfl)<|Jo _ (n+1) g t C _ _ _ (an [.le (.k 18) (.a J (.k 2))] (.le (.k 14) (.a J (.k 1))) B p) d hC λv b l o le c m=>W.rF (c.get (a.get e (by simp;exact an [.le (.k 10) J] (.n (.eq J (.k 6))) B y)) (by simp;exact an [.le (.k 10) J] (.and (.n (.eq J (.k 6))) (.n (.eq J (.k 9)))) B y)) s<|W.KP (an [.le (.k 18) (.a J (.k 2))] (.le (.k 3) J) B p)<|W.ret ?_;have L:=aG a.len c.len;exact h _ _ _ l ((o.dk .new).dk .hU) (by apply dj r;exact λaf ai=>ah [] (.aR (.s (.c J) (.c U)) (.a (.s (.c J) (.c U)) (.k 1))) B) le ((a.mono λi q=>by rcases ca.mp q with rfl|q;exact .head _;rcases q).trans (c.trans ((Ext.new).trans (Ext.hU.mono λo0 q=>(f4 q).elim)))) (dK _ (pB (.int (r+1)) v (b.length+1+1) [("items",.ref b.length)]) b.length rfl ⟨by simp;exact ah [.le J U] (.le J (.a U (.k 1))) B L,by simp⟩ (by rfl) (aX (by rfl) (ah [.le J U] (.le J U) B L) (fE gV)))
theorem m4(x:Ext [4] H H'):Ext eQ H H':=x.mono (by decide)
theorem xj(x:Ext [6,9] H H'):Ext eQ H H':=x.mono (by decide)
noncomputable def tk(d:Nat):Nat:=d.rec 6 λb a=>3*a+10
def yR d:=∀(γ)(n)(H)(t)(C)(a)(k)(Q:γ->Hp->Prop),20+d<=n->Base H t C a->C+tk d<1000000->(∀v H' b,dF H.length H' d v->Base H' t (C+tk d) b->a<=b->Ext eQ H H'->W (k v) H' Q)->W ((pA n [.ref 4,.ref 6,.int d]).bd k) H Q
theorem dF.atom(h:Atom b H v):dF b H d v:=by rcases d with _|d;exact h;exact .inl h
theorem P7(h:10<=i):i∉eQ:=by simp;exact an [.le (.k 10) J] (.and (.n (.eq J (.k 4))) (.and (.n (.eq J (.k 6))) (.n (.eq J (.k 9))))) B h
theorem DU(R:∀e,d=e+1->yR e):yR d:=by
 refine λγ n H t C N k Q hn bs hC hk=>xE (cB (n:=n) (ah [.le (20+U) J] (.le 2 J) B hn)) λn a4=>?_;subst a4;have hk:∀v H' s,dF H.length H' d v->Base H' t (C+tk d) s->N<=s->Ext eQ H H'->(λa H'=>W (k a) H' Q) v H':=hk;refine W.bd ?_;generalize (λa H'=>W (k a) H' Q)=Q at*;refine Y (Qe _ _ _ _) ?_;have bl:=bs.len;have t6:6<=tk d:=by rcases d;exact aS _;exact aG (lb B:6<=10) (qB 10 _)
 refine W.take (ah [.le (20+U) (J+2)] (.le 2 (J+1)) B hn) bs (ah [.lt (J+U) 1000000,.le 6 U] (.lt J 1000000) B hC t6) (by decide) λw a1 w7 o g=>?_;have af:W (yk n (.int w) (.ref 6) (.ref 4)) a1 Q:=by refine W.jf<|W.truth<|W.aw (λhw=>?_) (λhw=>?_);refine W.bF o.cP (by rfl)<|W.text (ah [.le (20+U) (J+2)] (.le 18 (J+1)) B hn) o (ah [.lt (J+U) 1000000,.le 6 U] (.le (J+1+3) 1000000) B hC t6) λi es ai bx f a2 l le m hi e a5=>W.ret ?_;subst a5;exact hk _ _ a2 (dF.atom (.inr (.inr (.inr (.inr (nu i _ ai rfl ⟨aG g.len hi,e⟩ (by rfl))))))) (l.mono (ah [.le 6 U] (.le (J+1+3) (J+U)) B t6)) le ((m4 g).trans (xj m));refine W.take (ah [.le (20+U) (J+2)] (.le 2 (J+1)) B hn) o (ah [.lt (J+U) 1000000,.le 6 U] (.lt (J+1) 1000000) B hC t6) (by decide) λc f c9 l m=>W.sub<|W.alloc<|W.fmod (by decide) ?_;have e:(f++[O.list [.int (c- 4),.none,.bool true,.str "sym"]])[f.length]? =some (.list [.int (c- 4),.none,.bool true,.str "sym"]):=gV;have aj:∀v,Atom H.length (f++[O.list [.int (c- 4),.none,.bool true,.str "sym"]]) v->Q v (f++[O.list [.int (c- 4),.none,.bool true,.str "sym"]]):=λv a=>hk v _ N (dF.atom a) ((l.dk .new).mono (ah [.le 6 U] (.le (J+1+1) (J+U)) B t6)) (mQ _) ((m4 g).trans ((m4 m).trans .new));have e4:((w:Int).fmod 4)=((w %4:Nat)):=Y (Int.fmod_eq_emod_of_nonneg _ (by decide)) ?_;omega;refine Y e4 ?_;have lt:=Nat.mod_lt w (by decide:0<4);generalize w %4=r at lt;have sz:=(by decide:(4)<=1000);have r4:r=0\/r=1\/r=2\/r=3:=an [.lt J 4] (.or (.eq J 0) (.or (.eq J 1) (.or (.eq J 2) (.eq J 3)))) B lt;rcases r4 with rfl|rfl|rfl|rfl;exact W.ek e rfl sz (W.ret (aj _ (.inr (.inr (.inl ⟨_,rfl⟩)))));exact W.ek e rfl sz (W.ret (aj _ (.inl rfl)));exact W.ek e rfl sz (W.ret (aj _ (.inr (.inl ⟨_,rfl⟩))));exact W.ek e rfl sz (W.ret (aj _ (.inr (.inr (.inr (.inl ⟨_,rfl⟩))))))
 refine W.gt<|W.truth<|W.aw (λhw=>?_) λhw=>af;refine W.gt<|W.truth<|W.aw (λhd=>?_) λhd=>af;have hd:=of_decide_eq_true hd;obtain⟨d,rfl⟩:∃e,d=e+1:=⟨d- 1,an [.aR 0 (.c J)] (.eq J (J-1+1)) B hd⟩;have ap:tk (d+1)=3*tk d+10:=rfl;refine W.bF o.cP (by rfl)<|W.take (ah [.le (20+(U+1)) (J+2)] (.le 2 (J+1)) B hn) o (aL [.lt (J+U) 1000000,.eq U ((.m 3 u)+10)] (.lt (J+1) 1000000) B hC ap) (by decide) λq f q4 l m=>W.range ?_;have a0:=m.len;have A:=l.len;refine W.cZ (λj H'=>∃s,Base H' t (C+1+1+j*tk d) s/\N<=s/\Ext eQ f H') (λH' p=>dF (f.length+1) H' d) (pF (an [.aR (.c J) 4] (.lt J 1000) B q4)) (an [.aR (.c J) 4] (.le J 1000) B q4) (λp p p p=>oz) (bn N (by simpa using l.dk .new) (mQ _) .new) (λj H' ys b0 zz e=>c_ zz λs b le x=>⟨(bn s (b.set (an [.le 50 J] (.le 10 J) B A) e (λp q=>(by injection q))) le (x.eM (aS _))),λp p h=>h.mono ((Ext.set (mu:=[f.length]) (.head _)).st (by simp))⟩) (λj H' ys hj zz e=>c_ zz λs b le x=>?_) λys H' hy zz e hs=>c_ zz λs b le x=>?_;have jk:j*tk d<=2*tk d:=lG _ (ah [.aR (.c U) 4,.lt J U] (.le J 2) B q4 hj);have e3:((d+1:Nat):Int)- 1=(d):=ar [_] [] (.cu (.s (.c (.a J (.k 1))) (.k 1)) (.c J)) B;refine W.sub<|Y e3<|R d rfl _ (n+1) H' t _ s _ _ (ah [.le (20+(J+1)) (U+2)] (.le (20+J) (U+1)) B hn) b (aU [.lt (J+D) 1000000,.eq D ((.m 3 u)+10),.le U (.m 2 u)] (.lt (J+1+1+U+u) 1000000) B hC ap jk) λv b1 a6 hv b' L x'=>W.ret (bA (x'.get e (P7 (an [.le 50 J] (.le 10 J) B A))) (bn a6 ?_ (wO le L) (x.trans x')) ?_ (λp p h=>h.mono (x'.st (λj hj=>by have:=qQ j hj;exact ah [.le 50 U,.lt J 10] (.lt J (U+1)) B A this))));exact Y (qC _ _)<|ae (lH _ _ _)<|b';exact hv.mono λp p q=>q.low (by have:=(bR.mp e).1;exact ah [.lt J U] (.le (J+1) U) B this);have jk:q*tk d<=3*tk d:=lG _ (ah [.aR (.c J) 4,.eq U J] (.le J 3) B q4 hy);refine W.listOf (ah [.le (20+(U+1)) (J+2)] (.le 18 (J+1)) B hn) b (aU [.lt (J+u) 1000000,.eq u ((.m 3 D)+10),.le U (.m 3 D)] (.le (J+1+1+U+3) 1000000) B hC ap jk) e (an [.le 50 J] (.le 10 J) B A) (ah [.aR (.c U) 4,.eq J U] (.le J 1000) B q4 hy) λv ai bv av a3 lt L ax li=>W.ret<|hk _ _ av (.inr (fU ai ys (li.mono (λp p q=>q.low (by have:=x.len;have:=g.len;exact aU [.le u D,.le D U,.le J u] (.le J U) B a0 (by assumption) this))) (ar [_,_] [.aR (.c U) (.k 4),.eq J U] (.le J (.k 10)) B q4 hy) (λy hy=>?_))) (a3.mono (ar [_,_,_,_] [.eq u (.a (.m 3 D) (.k 10)),.le U (.m 3 D)] (.le (.a (.a (.a (.a J (.k 1)) (.k 1)) U) (.k 3)) (.a J u)) B ap jk)) (by(revert le lt L;apply dj N;intro a7 a8;apply dj av;intro a9 a';apply dj s;intro bb bc;apply dj ai;exact λbk bm=>λle lt L=>ar [a7,a8,a9,a',bb,bc,bk,bm] [.bC (.s (.c J) (.c U)) (.s (.c aA) (.c bB)),.aR (.s (.c aA) (.c bB)) (.s (.c hN) (.c qW)),.bC (.s (.c hN) (.c qW)) (.s (.c u) (.c D))] (.bC (.s (.c J) (.c U)) (.s (.c u) (.c D))) B le lt L)) ((m4 g).trans ((m4 m).trans (x.trans (xj ax))));exact xE (Hk.mp hy) λi hi=>(hs i y hi).mono λp p q=>(q.ext (xj ax) (λj hj=>by have:=qQ j hj;exact ar [_,_] [.le (.k 50) U,.lt J (.k 10)] (.lt J (.a U (.k 1))) B A this)).low (by have:=g.len;exact ar [_,_,_] [.le u U,.le J u] (.le J (.a U (.k 1))) B a0 this)
theorem T7:∀d,yR d:=by
 intro b;induction b with
 |zero=>exact DU λf h=>(by injection h)
 |succ d c=>exact DU λe h=>by injection h with a;subst a;exact c
theorem Atom.cases(h:Atom b H v){P:V->Prop}(c:P .none)(d:∀x,P (.bool x))(e:∀x,P (.int x))(f:∀x,P (.str x))(j:∀i a m,St b H i (.inst 243 a)->bg "number" a=some (.int m)->P (.ref i)):P v:=by rcases h with rfl|⟨x,rfl⟩|⟨x,rfl⟩|⟨x,rfl⟩|⟨i,a,m,rfl,h,g⟩;exact c;exact d x;exact e x;exact f x;exact j i a m h g
theorem oH{v:V}(a:v.ty H=some t)(h:ci t c=some q):X.jc ci c (v.ty H)=some (.bool q):=by refine Y a<|(?_:(ci t c).map V.bool=_);refine Y h ?_;rfl
theorem vb{C:Nat}(e:H[i]? =some (.inst C b)):(V.ref i).ty H=some (.ref C):=congrArg (λa=>a.bind λo=>o.cls?.map gO) e
theorem dF.bu(h:dF b H d v):X.jc ci (.ref 263) (v.ty H)=some (.bool (cI H v)):=by have c:Atom b H v->X.jc ci (.ref 263) (v.ty H)=some (.bool (cI H v)):=λa=>a.cases (P:=λv=>X.jc ci (.ref 263) (v.ty H)=some (.bool (cI H v))) (by kernel_rfl) (λe=>by kernel_rfl) (λe=>by kernel_rfl) (λe=>by kernel_rfl) λi k m h g=>Y (kQ h.2)<|oH (vb h.2) (by kernel_rfl);rcases d with _|d;exact c h;rcases h with a|⟨m,xs,⟨i,k,j,rfl,f,_⟩,_⟩;exact c a;exact Y (kQ f.2)<|oH (vb f.2) (by kernel_rfl)
theorem dF.r9(h:dF b H d v)(r:∀i c j xs,v=.ref i->H[i]? =some (.inst 263 c)->bg "items" c=some (.ref j)->H[j]? =some (.list xs)->Sz xs->parts H v=xs->W l H Q)(s:parts H v=[v]->W n H Q):W (M.aw (cI H v) l n) H Q:=by have e:Atom b H v->W (M.aw (cI H v) l n) H Q:=λa=>Y (a.cases (P:=λv=>cI H v=false) rfl (λo=>rfl) (λo=>rfl) (λo=>rfl) λi c m h g=>kQ h.2)<|s a.parts;rcases d with _|d;exact e h;rcases h with a|⟨m,xs,p,t,_⟩;exact e a;refine fW (id p) λi c j f k=>?_;subst f;exact cW k λq y w x=>Y (kQ q.2)<|r i c j xs rfl q.2 w x.2 (an [.le J 10] (.le J 1000) B t) p.parts
theorem W.sF(f:2<=n)(c:dF b H d v)(h:W (k (.ref H.length)) (H++[.list (parts H v)]) Q):W ((oE n [v]).bd k) H Q:=by refine xE (cB f) λn a=>Y a<|W.bd<|Y (Ky _ _)<|W.bu c.bu<|W.truth<|c.r9 (λi q j xs g l m o s p=>?_) λe=>?_;refine Y g ?_;rw[p]at h;exact W.attr l m (by rfl) (by rfl)<|W.rF o s<|W.ret h;rw[e]at h;exact W.alloc<|W.ret h
theorem W.itemsOf(f:2<=n)(c:dF b H d v)(h:W (k (.ref H.length)) (H++[.list (parts H v)]) Q):W ((zX n [v]).bd k) H Q:=by refine xE (cB f) λn a=>Y a<|W.bd<|Y (PP _ _)<|W.bu c.bu<|W.truth<|c.r9 (λi q j xs g l m o s p=>?_) λe=>?_;refine Y g ?_;rw[p]at h;exact W.attr l m (by rfl) (by rfl)<|W.rF o s<|W.ret h;rw[e]at h;exact W.alloc<|W.ret h
def vz(t:ay):Option aa:=match ci t (.type "bool"),ci t (.type "int"),ci t (.type "str")with
 |some true,_,_=>some "bool"
 |some false,some true,_=>some "int"
 |some false,some false,some true=>some "sym"
 |some false,some false,some false=>some "thing"
 |_,_,_=>none
theorem W.Eg(g:2<=n)(b:v.ty H=some t)(i:v.isNone=false)(a:vz t=some s)(h:W (k (.str s)) H Q):W ((uD n [v]).bd k) H Q:=by refine xE (cB g) λn f=>Y f<|W.bd<|Y (xY _ _)<|W.is<|W.truth<|W.aQ i ?_;unfold vz at a;rcases c:ci t (.type "bool")with _|j;rw[c]at a;exact ns a;refine W.bu (oH b c)<|W.truth ?_;rw[c]at a;rcases j with _|_;refine W.aQ rfl ?_;rcases d:ci t (.type "int")with _|l;rw[d]at a;exact ns a;refine W.bu (oH b d)<|W.truth ?_;rw[d]at a;rcases l with _|_;refine W.aQ rfl ?_;rcases e:ci t (.type "str")with _|m;rw[e]at a;exact ns a;refine W.bu (oH b e)<|W.truth ?_;rw[e]at a;rcases m with _|_;exact Y (ao a)<|W.ret h;exact Y (ao a)<|W.ret h;exact Y (ao a)<|W.ret h;exact Y (ao a)<|W.ret h
theorem W.Np(h:W (k (.bool true)) H Q):W ((X.eq .none .none).bd k) H Q:=h
theorem W.IF(h:W (k (.bool (x==y))) H Q):W ((X.eq (.bool x) (.bool y)).bd k) H Q:=h
theorem W.same(q:3<=n)(l:dF b H d v)(h:W (k (.bool true)) H Q):W ((uY n [v,v]).bd k) H Q:=by
 obtain⟨n,rfl⟩:=jh q;have c:∀{x},x=true->(λa H'=>W (k a) H' Q) (.bool x) H:=λe=>by subst e;exact h
 refine W.bd ?_;generalize (λa H'=>W (k a) H' Q)=Q at*;refine Y (Kj _ _ _) ?_;have go:∀{t}{s},v.ty H=some t->v.isNone=false->vz t=some s->W (GM (n+1) (.str s) v v) H Q->W (tY (n+1) v v) H Q:=λr w o h=>W.Eg (an [.le 3 (J+1+2)] (.le 2 (J+1+1)) B q) r w o<|W.Eg (an [.le 3 (J+1+2)] (.le 2 (J+1+1)) B q) r w o<|W.kM<|W.truth<|W.aQ (by simp) h;have y:∀{C}{i}{p}{m},H[i]? =some (.inst C p)->bg "number" p=some (.int m)->aC C "number"=true->v=.ref i->vz (.ref C)=some ("thing":aa)->W (tY (n+1) v v) H Q:=λe g ok l o=>by subst l;exact go (vb e) rfl o<|W.iM<|W.truth<|W.bj (by rfl)<|W.attr e g ok (by rfl)<|W.attr e g ok (by rfl)<|W.jf<|W.ret (c (by simp))
 have f:Atom b H v->W (tY (n+1) v v) H Q:=λa=>by rcases a with rfl|⟨x,rfl⟩|⟨x,rfl⟩|⟨x,rfl⟩|⟨i,p,m,rfl,h,g⟩;exact W.bd<|Y (xY _ _)<|W.is<|W.truth<|W.bj rfl<|W.ret<|W.bd<|Y (xY _ _)<|W.is<|W.truth<|W.bj rfl<|W.ret<|W.kM<|W.truth<|W.aQ (by rfl)<|W.iM<|W.truth<|W.aQ (by rfl)<|W.Np<|W.ret (c rfl);exact go (s:="bool") rfl rfl (by kernel_rfl)<|W.iM<|W.truth<|W.aQ (by rfl)<|W.IF<|W.ret (c (by simp));exact go (s:="int") rfl rfl (by kernel_rfl)<|W.iM<|W.truth<|W.aQ (by rfl)<|W.jf<|W.ret (c (by simp));exact go (s:="sym") rfl rfl (by kernel_rfl)<|W.iM<|W.truth<|W.aQ (by rfl)<|W.iM<|W.ret (c (by simp));exact y h.2 g (by rfl) rfl (by kernel_rfl)
 rcases d with _|d;exact f l;rcases l with a|⟨m,xs,⟨i,p,j,e,A,L,_⟩,_⟩;exact f a;exact y A.2 L (by rfl) e (by kernel_rfl)
theorem xP:∀{ys:List aa},jD (xs.map .str) (ys.map .str)=true↔xs=ys:=by induction xs with
 |nil=>intro ys;rcases ys with _|⟨y,ys⟩<;>simp[jD]
 |cons x xs a=>intro ys;rcases ys with _|⟨y,ys⟩<;>simp[jD,wz,a]
theorem oO:∀{xs:List aa},(∀x∈xs,iW x=true)->ed (xs.map V.str)=some (xs.map .str):=by
 intro a
 induction a with
 |nil=>
 exact λ_
 =>rfl
 |cons x xs b=>
 refine λh
 =>(?_:((V.dat (.str x)).bind λd=>(ed (xs.map V.str)).map (d::·))=_)
 refine Y (show V.dat (.str x)=some (.str x)from if_pos (h x (.head _)))<|Y (b λy c=>h y (.tail _ c)) ?_;rfl
theorem Ex(a:ed xs=some b)(c:ed ys=some d):X.qM xs ys H=some (.ok (jD b d),H):=M.gD (Y a<|Y c rfl)
theorem DL(a:H[i]? =some (.list xs))(b:H[j]? =some (.list ys))(c:ed xs=some d)(e:ed ys=some f):X.eqB (.ref i) (.ref j) H=some (.ok (jD d f),H):=(cn (gf a)).trans ((cn (gf b)).trans (Ex c e))
theorem W.GR(a:H[i]? =some (.list xs))(b:H[j]? =some (.list ys))(c:ed xs=some d)(e:ed ys=some f)(h:W (k (.bool (jD d f))) H Q):W ((X.eq (.ref i) (.ref j)).bd k) H Q:=W.st ((cn (DL a b c e)).trans rfl) h
theorem W.DV(a:H[i]? =some (.list xs))(b:H[j]? =some (.list ys))(c:ed xs=some d)(e:ed ys=some f)(h:W (k (.bool (!jD d f))) H Q):W ((X.ne (.ref i) (.ref j)).bd k) H Q:=W.st ((cn (DL a b c e)).trans rfl) h
theorem W.eqT(a:ed xs=some b)(c:ed ys=some d)(h:W (k (.bool (jD b d))) H Q):W ((X.eq (.tup xs) (.tup ys)).bd k) H Q:=W.st ((cn (Ex a c)).trans rfl) h
theorem W.ny{K:It}{m:Nat}{f:Nat->V}(c:Nat->Hp->Prop)(hi:M.eN v H=some (.ok (K,m),H))(g:∀j H,j<=m->c j H->K.next j H=some (.ok (if j<m then some (f j)else none),H))(n:c 0 (H++[.list []]))(dX:∀j a,j<m->c j a->W (l (f j)) a λb H'=>b=false/\c (j+1) H')(d:∀H',c m H'->W (k (.ref H.length)) H' Q):W ((M.ny v l el).bd k) H Q:=by
 have o:∀q j a,j+q=m->c j a->W (M.compLoop K (λv=>(l v).bd λt=>match t with|true=>(el v).bd λy=>X.append (.ref H.length) y|false=>M.ret .none) (.ref H.length) (q+1) j) a λp H'=>c m H':=by
  intro q;induction q with
  |zero=>
   intro j a e i;have e:j=m:=ah [.eq (J+0) U] (.eq J U) B e
   subst e;refine W.bd (bQ _ _ (g j a (aS _) i) ?_);exact Y (if_neg (p_ _))<|W.ret i
  |succ q r=>refine λj a e i=>W.bd (bQ _ _ (g j a (aL [.eq (J+(u+1)) U] (.le J U) B e) i) ?_);refine Y (if_pos (by exact aL [.eq (J+(u+1)) U] (.lt J U) B e))<|W.bd (W.fI (W.bd ((dX j a (aL [.eq (J+(u+1)) U] (.lt J U) B e) i).mono λb H' h=>?_)));obtain⟨rfl,h⟩:=h;exact W.ret (r (j+1) H' (aL [.eq (J+(U+1)) u] (.eq (J+1+U) u) B e) h)
 exact W.bd (W.bd (bQ _ _ hi (W.bM rfl (W.bd (bQ _ _ rfl (W.bd ((o m 0 _ (an [] (.eq (0+J) J) B) n).mono λp H' q=>W.ret (d H' q))))))))
theorem W.alike(g:5<=n)(c:H[i]? =some (.list xs))(l:H[j]? =some (.list xs))(s:xs.length<1000)(r:∀x∈xs,∃d,dF b H d x)(h:∀H',Ext [] H H'->W (k (.bool true)) H' Q):W ((vZ n [.ref i,.ref j]).bd k) H Q:=by refine xE (cB (an [.le 5 J] (.le 2 J) B g)) λn f=>?_;subst f;have s':=dU s;refine W.bd<|Y (Kq _ _ _)<|W.len c s'<|W.len l s'<|W.jf<|W.truth<|W.bj (by simp)<|W.len c s'<|W.range<|W.ny (λj H'=>H'=H++[.list []]) (pF s) (λa a a a=>oz) rfl (λj p m e=>?_) λH' e=>?_;subst e;have o:=bJ m;exact W.ek (fE c) o s'<|W.ek (fE l) o s'<|W.same (an [.le 5 (J+2)] (.le 3 (J+1)) B g) ((r _ (Bt m)).choose_spec.mono λa a q=>⟨q.1,fE q.2⟩)<|W.truth<|W.ret ⟨rfl,rfl⟩;subst e;exact W.alloc<|W.GR (fE gV) gV rfl rfl<|W.ret (h _ (Ext.new.trans .new))
theorem Ext.g(x:Ext [] H H'){i:Nat}(e:H[i]? =some o):H'[i]? =some o:=x.get e λq=>(f4 q).elim
abbrev gA(H:Hp)(o:O)(i:Nat)(H':Hp):Prop:=Ext [] H H'/\H.length<=i/\i<H'.length/\H'[i]? =some o
theorem gA.mk:gA H o H.length (H++[o]):=⟨.new,aS _,by simp,gV⟩
theorem W.gx(h:∀i H',gA H o i H'->W (k (.ref i)) H' Q):W ((M.alloc o).bd k) H Q:=W.alloc (h _ _ .mk)
theorem W.jX(e:H[i]? =some (.list xs))(a:H[j]? =some (.list ys))(l:Sz xs)(b:Sz ys)(h:∀i H',gA H (.list (xs++ys)) i H'->W (k (.ref i)) H' Q):W ((X.add (.ref i) (.ref j)).bd k) H Q:=W.oC e a l b (h _ _ .mk)
theorem W.oy(e:H[i]? =some (.list xs))(l:Sz xs)(h:∀i H',gA H (.list xs) i H'->W (k (.ref i)) H' Q):W ((X.list (.ref i)).bd k) H Q:=W.rF e l (h _ _ .mk)
theorem W.ub{lo:V}(c:lo.part=some a)(d:hi.part=some b)(e:H[i]? =some (.list xs))(l:Sz xs)(h:∀i H',gA H (.list (kU xs a b)) i H'->W (k (.ref i)) H' Q):W ((X.slice (.ref i) lo hi).bd k) H Q:=W.slice c d e l (h _ _ .mk)
noncomputable def bq(r:Row A):=r.front.length+r.behind.length
def b_(r:Row A):=if r.rest.isNone then some (bq r+r.opt.length)else none
theorem BV(a:(!r.rest.isNone)=true):b_ r=none:=if_neg (by rcases b:r.rest<;>simp[b]at a⊢)
noncomputable def dI(o:Option Nat):V:=match o with
 |some m=>.int (m)
 |none=>.none
theorem jq:(cS o).isNone=o.isNone:=by rcases o<;>rfl
noncomputable def fP(i:Nat):=qz (jE (i:Int))
theorem lA(h:i<100):(fP i).length<=10:=Er i h
theorem Sw(a b c:aa):(a++b)++c=a++(b++c):=by rcases a;rcases b;rcases c;exact congrArg Str.mk (Array.append_assoc ..)
theorem IQ a:a++AS=a:=by rcases a;exact congrArg Str.mk (Array.append_empty ..)
theorem fM(a b:aa):(a++b).length=a.length+b.length:=by rcases a;rcases b;exact wP ..
def cnt(l:Nat)(m:Option Nat):=match m with
 |none=>fP l++"+"
 |some m=>if l=m then fP l else fP l++(".."++fP m)
theorem Du(b:l<100)(c:∀x,m=some x->x<100):(cnt l m).length<=30:=by
 have a:=lA b;have d:("+":aa).length=1:=by decide
 have e:("..":aa).length=2:=by decide
 rcases m with _|x;refine(?_);exact Y (fM _ _)<|ah [.le J 10,.eq U 1] (.le (J+U) 30) B a d;refine(?_:(if l=x then fP l else fP l++(".."++fP x)).length<=30);split;exact an [.le J 10] (.le J 30) B a;exact Y (fM _ _)<|Y (fM _ _)<|aL [.le J 10,.eq U 2,.le u 10] (.le (J+(U+u)) 30) B a e (lA (c x rfl))
theorem W.zA(l:2<=n)(m:c7 b H C v r)(h:W (k (.tup [.int (bq r:Nat),dI (b_ r)])) H Q):W ((qR n [v]).bd k) H Q:=by refine xE (cB l) λn c=>?_;subst c;refine W.bd<|Y (KM _ _) ?_;obtain⟨i,o,j,f,g,rfl,p,q,s,d,e,t,w,x⟩:=m;have y:Sz f:=(by exact Y d.1<|an [.le J 2] (.le J 1000) B t:_<=1000);have A:Sz g:=(by exact Y e.1<|an [.le J 2] (.le J 1000) B x:_<=1000);refine W.iG<|W.len p.2 y<|W.len s.2 A<|W.add ?_;have el:(V.int ((f.length)+g.length))=.int (bq r):=Y d.1<|Y e.1 ?_;rfl;refine Y el<|W.bV<|W.truth<|W.aw (λa=>?_) (λa=>?_);rw[jq]at a;rw[BV a]at h;exact W.ret h;rw[jq]at a;rw[show b_ r=some (bq r+r.opt.length)from if_pos (by simpa using a)]at h;exact W.len q.2 (by exact Y (bD _)<|an [.le J 2] (.le J 1000) B w:_<=1000)<|W.add<|W.ret<|Y (bD _)<|h
theorem W.Ac{m : Option Nat} (e : 2 <= n) (f : l < 100) (g : ∀ x, m = some x -> l <= x /\ x < 100) (h : W (k (.str (cnt l m))) H Q) : W ((qU n [.int (l : Int), dI m]).bd k) H Q := by
  refine xE (cB e) λn b =>Y b ?_
  have a := lA f
  have i : ("+").length = 1 := by decide
  have c : ("..").length = 2 := by decide
  refine W.bd<|Y (Qp _ _ _) ?_
  rcases m with _ | m
  · exact W.is <| W.truth <| W.bj rfl <| W.str (kI (dU (by assumption)) rfl) <| W.fk (ah [.le J 10,.eq U 1] (.le (J+U) 1000) B a i) <| W.ret h
  · refine xA (g m rfl) λj o => ?_
    have d := lA o
    refine W.is <| W.truth <| W.aQ rfl <| W.str (kI (dU (by assumption)) rfl) <| W.str (kI (dU (by assumption)) rfl) <| W.fk (ah [.eq J 2,.le U 10] (.le (J+U) 1000) B c d) <| W.gt <| W.tS ?_
    by_cases q : l = m
    · subst q
      rw [show cnt l (some l) = fP l from if_pos rfl] at h
      refine W.st (by refine Y (by simp : decide ((l : Int) < l) = false) ?_; rfl)<|W.fk (Y (by decide : AS.length = 0)<|an [.le J 10] (.le (J+0) 1000) B a) <| W.ret<|Y (IQ _)<|h
    · rw [show cnt l (some m) = fP l ++ (".." ++ fP m) from if_neg q] at h
      refine W.st (by refine Y (by simp; exact ah [.le J U,.n (.eq J U)] (.lt J U) B j q : decide ((l : Int) < m) = true) ?_; rfl)<|W.fk (Y (fM _ _)<|aL [.le J 10,.eq U 2,.le u 10] (.le (J+(U+u)) 1000) B a c d) <| W.ret h
theorem W.C7{l:Nat}(d:2<=n)(f:l<100)(g:∀x,m=some x->l<=x/\x<100)(h:W (k (.str (cnt l m))) H Q):W ((vl n [.int (l:Int),dI m]).bd k) H Q:=by
 refine xE (cB d) λn b=>Y b ?_;have a:=lA f;have i:("+").length=1:=by decide
 have c:("..").length=2:=by decide
 refine W.bd<|Y (Oq _ _ _) ?_;rcases m with _|m;exact W.is<|W.truth<|W.bj rfl<|W.str (kI (dU (by assumption)) rfl)<|W.fk (ah [.le J 10,.eq U 1] (.le (J+U) 1000) B a i)<|W.ret h;refine xA (g m rfl) λo j=>W.is<|W.truth<|W.aQ rfl<|W.jf<|W.truth<|W.aw (λq=>?_) (λq=>?_);have q:=s4 (bI q);rw[show cnt l (some m)=fP l from if_pos q]at h;exact W.str (kI (dU (by assumption)) rfl)<|W.ret h;have q:l≠m:=λe=>by rw[e]at q;simp at q
 rw[show cnt l (some m)=fP l++(".."++fP m)from if_neg q,<-Sw]at h;exact W.str (kI (dU (by assumption)) rfl)<|W.fk (ah [.le J 10,.eq U 2] (.le (J+U) 1000) B a c)<|W.str (kI (dU (by assumption)) rfl)<|W.fk (Y (fM _ _)<|aL [.le J 10,.eq U 2,.le u 10] (.le (J+U+u) 1000) B a c (lA j))<|W.ret h
theorem W.nz(e:2<=n)(j:cH b H q v r)(h:W (k (.int (bq r:Nat))) H Q):W ((mD n [v]).bd k) H Q:=by obtain⟨n,rfl⟩:=cB e;refine W.bd<|Y (IC _ _) ?_;obtain⟨i,s,t,w,f,g,os,rfl,a,l,x,m,c,d,y,o,A,p⟩:=j;exact W.attr a.2 (by rfl) (by rfl) (by rfl)<|W.len l.2 (by exact Y c.1<|an [.le J 2] (.le J 1000) B o:_<=1000)<|W.attr a.2 (by rfl) (by rfl) (by rfl)<|W.len m.2 (by exact Y d.1<|an [.le J 2] (.le J 1000) B p:_<=1000)<|W.add<|W.ret<|Y c.1<|Y d.1<|h
theorem qN:(cS o).rH=false:=by rcases o<;>rfl
theorem cH.opts(e:cH b H l v r):∃i a os c,v=.ref i/\H[i]? =some (.inst 198 c)/\bg "optional" c=some (.ref a)/\bg "rest" c=some (cS r.rest)/\H[a]? =some (.list os)/\os.length=r.opt.length/\Sz os:=by obtain⟨i,m,a,n,f,g,os,rfl,h,o,j,p,q,s,d,t,k,w⟩:=e;exact(pK i a os _ rfl (mW h.2 (by rfl) (by rfl) j.2 ⟨d.1,show _<=1000 by exact Y d.1<|an [.le J 2] (.le J 1000) B k⟩))
theorem W.rq(f:3<=n)(g:cH b H q v r)(h:W (k (dI (b_ r))) H Q):W ((pC n [v]).bd k) H Q:=by refine xE (jh f) λn a=>?_;subst a;refine W.bd<|Y (QT _ _)<|eZ g.opts λi s os t a d=>?_;subst a;refine hZ d λj l m o e=>xA e λlo p=>W.attr j m (by rfl) qN<|W.bV<|W.truth<|W.aw (λc=>?_) (λc=>?_);rw[jq]at c;rw[BV c]at h;exact W.ret h;rw[jq]at c;rw[show b_ r=some (bq r+r.opt.length)from if_pos (by simpa using c)]at h;exact W.nz (an [.le 3 (J+1+2)] (.le 2 (J+1+1)) B f) g<|W.attr j l (by rfl) (by rfl)<|W.len o p<|W.add<|W.ret<|Y lo<|h
def gh(r:Row A):=bq r+r.opt.length+(if r.rest.isNone then 0 else 1)
theorem W.V4(e:3<=n)(f:cH b H q v r)(h:W (k (.int (gh r:Nat))) H Q):W ((zI n [v]).bd k) H Q:=by refine xE (jh e) λn a=>?_;subst a;refine W.bd<|Y (JQ _ _)<|eZ f.opts λi s os t a c=>?_;subst a;refine hZ c λg l m o d=>xA d λlo p=>W.nz (an [.le 3 (J+1+2)] (.le 2 (J+1+1)) B e) f<|W.attr g l (by rfl) (by rfl)<|W.len o p<|W.add<|W.attr g m (by rfl) qN<|W.bV<|W.tS<|W.add<|W.ret<|Y lo<|Y jq ?_;unfold gh at h;rcases j:r.rest.isNone with _|_;rw[j]at h;simpa using h;rw[j]at h;simpa using h
theorem rQ(e:cH b H h v r):bq r<100/\∀x,b_ r=some x->bq r<=x/\x<100:=by refine bh λi f=>?_;obtain⟨c,g,d⟩:=e.sm;refine f ?_;delta b_ bq;refine⟨ah [.le J 2,.le U 2] (.lt (J+U) 100) B c d,λx a=>?_⟩;split at a;exact ae (ao a)<|aL [.le J 2,.le u 2,.le U 2] (.and (.le (J+U) (J+U+u)) (.lt (J+U+u) 100)) B c g d;exact ns a
theorem W.expected(a:4<=n)(c:cH b H e v r)(h:W (k (.str (cnt (bq r) (b_ r)))) H Q):W ((xe n [v]).bd k) H Q:=by refine xE (cB (n:=n) (an [.le 4 J] (.le 2 J) B a)) λn d=>?_;subst d;exact W.bd<|Y (Tv _ _)<|W.nz (an [.le 4 (J+2)] (.le 2 (J+1)) B a) c<|W.rq (an [.le 4 (J+2)] (.le 3 (J+1)) B a) c<|W.C7 (an [.le 4 (J+2)] (.le 2 (J+1)) B a) (rQ c).1 (rQ c).2<|W.ret h
def jp(r : Row A) (s : Bool) : Int := if (b_ r).isNone || (s && decide (b_ r ≠ some (bq r))) then -(bq r) - 1 else bq r
theorem W.arity(d : 4 <= n) (e : cH b H m v r) (h : W (k (.int (jp r s))) H Q) : W ((uq n [v, .bool s]).bd k) H Q := by
  refine xE (cB (n := n) (an [.le 4 J] (.le 2 J) B d)) λn j => ?_; subst j
  skip
  refine W.bd<|Y (Jn _ _ _)<|W.nz (an [.le 4 (J+2)] (.le 2 (J+1)) B d) e <| W.rq (an [.le 4 (J+2)] (.le 3 (J+1)) B d) e ?_
  skip
  have c : ∀ o, o = ((b_ r).isNone || (s && decide (b_ r ≠ some (bq r)))) -> W (v8 n (.bool o) (.int (bq r))) H λa H' => W (k a) H' Q := λo l => by
    unfold jp at h
    rw [<- l] at h
    refine W.truth <| W.aw (λf => ?_) (λf => ?_)
    · rw [f] at h; exact W.neg <| W.sub <| W.ret h
    · rw [f] at h; exact W.ret h
  refine W.is <| W.truth ?_
  rcases g : b_ r with _ | x
  · exact W.bj rfl <| c _ (by refine Y g ?_; rfl)
  · rw [g] at c
    skip
    refine W.aQ rfl ?_
    skip
    refine W.truth <| W.aw (λi => ?_) (λi => ?_)
    · refine W.gt <| c _<|Y i<|(?_)
      by_cases q : x = bq r
      · simp [q]
      · simp [q]; exact ah [.and (.le J U) (.lt U 100),.n (.eq U J)] (.lt J U) B (((rQ e).2) x g) q
    · exact c _ (by refine Y i ?_; rfl)
def VN(l:List aa):=∀s∈l,∃i,i<100/\s=dp i
theorem bf(x:Ext [] H H'):∀i o,St b H i o->St b H' i o:=λa a q=>q.ext x λa q=>(f4 q).elim
theorem W.LD(ev:v=.tup [a,b,c,d,e])(h:W (f a b c d e) H Q):W (M.iG v f) H Q:=Y ev<|W.iG h
theorem VN.ne(h:VN l)(b:s∈l):s≠"":=ad (h s b) λi hi a=>Y a<|zP i hi
inductive pu d(x:V)ns H b:Prop
 |none (e1:x=.none) (e2:ns=[])
 |nil (e1:x=.str "") (e2:ns=[])
 |name (s) (e1:x=.str s) (hs:s≠"") (e2:ns=[s])
 |row (e) (r) (hd:d=e+1) (hr:c7 b H (bK b H e) x r) (hv:VN (ba (aD e) r)) (e2:ns=ba (aD e) r)
def uu d:=∀(γ)(n b)(H)(v)(r)(k)(Q:γ->Hp->Prop),d+3<=n->c7 b H (bK b H d) v r->VN (ba (aD d) r)->(ba (aD d) r).length<=100->(∀i H',Ext [] H H'->H.length<=i->H'[i]? =some (.list ((ba (aD d) r).map V.str))->W (k (.ref i)) H' Q)->W ((u4 n [v]).bd k) H Q
theorem F7{a:Type}:∀(l:List (List a))j,(l.take j).flatten.length<=l.flatten.length:=λl j=>by
 have e:l.flatten=(l.take j).flatten++(l.drop j).flatten:=ae Ic<|Y (qE _ _) rfl
 exact Y e<|Y bE<|eC _ _
theorem VN.sub(h:VN m)(s:∀x∈l,x∈m):VN l:=λx a=>h x (s x a)
theorem N3(h:a∈r.front):∀x∈f a,x∈ba f r:=λx b=>mG _ (lI.mpr (ak a h b))
theorem Qi(h:a∈r.behind):∀x∈f a,x∈ba f r:=λx b=>j9 _ (j9 _ (j9 _ (mG _ (lI.mpr (ak a h b)))))
theorem Rn(h:bK b H d x t)(a:VN (aD d t)):pu d x (aD d t) H b:=by rcases d with _|e;exact wL t;rcases t with s|r;obtain⟨rfl,i,hi,rfl⟩:=h;exact .name _ rfl (zP i hi) rfl;exact .row e r rfl h a rfl
def II(r:Row (T d))f g:=f++r.opt.map V.str++[cS r.rest]++g++[cS r.block]
def rN(r:Row (T d)):=r.front.map (aD d)++r.opt.map (λs=>[s])++[eY r.rest]++r.behind.map (aD d)++[r.block.toList]
theorem DF(g:VN (ba (aD d) r))(a:Al (bK b H d) xs e)(m:∀t∈e,∀x∈aD d t,x∈ba (aD d) r):Al (λx ns=>pu d x ns H b) xs (e.map (aD d)):=⟨a.1.trans (bD _).symm,λj x ns i c=>by rw[f_]at c;refine ad (a.at_ i) λt f h=>?_;rw[f]at c;exact ao c▸Rn h (g.sub (m t (iT f)))⟩
theorem Tq:pu d (cS o) (eY o) H b:=by rcases o with _|s;exact .none rfl rfl;by_cases q:s="";exact .nil (congrArg V.str q) (if_pos q);exact .name s rfl q (if_neg q)
theorem Vg(e:Al (bK b H d) f r.front)(h:Al (bK b H d) g r.behind)(a:VN (ba (aD d) r)):Al (λx ns=>pu d x ns H b) (II r f g) (rN r):=by
 refine((((DF a e λt c=>N3 c).app (Al.map λs i=>?_)).app (.one Tq)).app (DF a h λt c=>Qi c)).app (.one ?_);exact .name s rfl (a.ne (j9 _ (mG _ i))) rfl
 ·cases j:r.block with
 |none=>exact .none rfl rfl
 |some s=>exact .name s rfl (a.ne (by delta ba;refine Y j ?_;simp)) rfl
theorem Vc{r:Row (T d)}:(rN r).flatten=ba (aD d) r:=by
 have e:(r.opt.map λs=>[s]).flatten=r.opt:=by induction r.opt with
 |nil=>rfl
 |cons a l b=>simp[b]
 simp only[rN,Ic,e,ba,wQ,cr,wy,List.flatten_nil,cV]
inductive v0 H S xs(lf:V->Loc)(ns:List aa)a H':Prop
 |mk (fi) (ha:a=lf (.ref fi)) (h1:H.length<=fi) (h2:fi≠S) (h3:H'[fi]? =some (.list (ns.map V.str))) (h4:H'[S]? =some (.list xs)) (h5:Ext [] H H')
theorem MN(R:∀e,d=e+1->uu e)(hn:d+3<=n+3){ns:List aa}(kk:pu d x ns H b)(I:v0 H S xs (js l m o p r t) c a H')(v:(c++ns).length<=100):W (yl (n+1) a x) H' (fT (v0 H S xs (js l m o p r t) (c++ns)) λw w=>False):=by obtain⟨A,rfl,C,L,h,k,g⟩:=I;refine W.eq (Q1 (n+1) _ _ _ _ _ _ _ _) ?_;rw[bE]at v;have s3:Sz (c.map V.str):=(by exact Y (bD _)<|ah [.le (J+U) 100] (.le J 1000) B v:_<=1000);have gr:ns=[]->v0 H S xs (js l m o p r t) (c++ns) (js l m o p r t (.ref A)) H':=λe=>⟨A,rfl,C,L,Y e<|Y (cV _)<|h,k,g⟩;rcases kk with⟨rfl,f⟩|⟨rfl,f⟩|⟨s,rfl,hs,rfl⟩|⟨e,r',hd,j,af,rfl⟩;exact W.bu (by kernel_rfl)<|W.truth<|W.aQ rfl<|W.bV<|W.truth<|W.aQ rfl<|W.ret (gr f);exact W.bu (by kernel_rfl)<|W.truth<|W.aQ rfl<|W.bV<|W.truth<|W.bj rfl<|W.kM<|W.truth<|W.aQ (by simp)<|W.ret (gr f);refine W.bu (by kernel_rfl)<|W.truth<|W.aQ rfl<|W.bV<|W.truth<|W.bj rfl<|W.kM<|W.truth<|W.bj (by simpa using hs)<|W.c8 h<|W.append h s3<|W.ret ⟨A,rfl,C,L,?_,gK L k,g.eM C⟩;exact Y eF<|eK h;refine W.bu (by obtain⟨i',o',j',f',g',Q,_⟩:=j;subst Q;kernel_rfl)<|W.truth<|W.bj rfl ?_;have l2:=aG (qB _ _) v;refine R e hd (γ:=_) (n+2) b H' x r' _ _ (aL [.le (u+3) (U+3),.eq u (J+1)] (.le (J+3) (U+2)) B hn hd) (c7.mono j (bf g) λw w=>bK.mono (bf g)) af l2 λi' ai i aj Q=>W.jX (i.g h) Q s3 (by exact Y (bD _)<|an [.le J 100] (.le J 1000) B l2:_<=1000) λq Hq y=>W.ret ⟨q,rfl,?_,?_,?_,y.1.g (i.g k),(g.trans i).trans y.1⟩;exact aG g.len (aG i.len y.2.1);exact ch (gN (eS (bR.mp (i.g k)).1 y.2.1));exact Y eF<|y.2.2.2
theorem Cp(R:∀e,d=e+1->uu e):uu d:=by refine λγ n b H v r k Q hn hr hv hl hk=>xE (jh (ah [.le (.a U (.k 3)) J] (.le (.k 3) J) B hn)) λn af=>?_;subst af;refine W.bd<|Y (TF _ _) ?_;obtain⟨i,o,j,f,g,ev,e1,e2,e3,a1,a2,s1,s2,s3⟩:=hr;have zf:=a1.1▸s1;have zg:=a2.1▸s3;have C:=(bD V.str).symm▸s2;have p:Al (λx ns=>pu d x ns H b) (f++r.opt.map V.str++[cS r.rest]++g++[cS r.block]) (rN r):=Vg a1 a2 hv;have fl:=Vc (r:=r);generalize rN r=c at p fl;have cj:∀{xs},xs.length<=8->Sz xs:=λh=>aG h (lb B);refine W.LD ev ?_;generalize r.opt.map V.str=os at C e2 p⊢;refine W.gx λL ai l=>W.jX (l.1.g e1.2) (l.1.g e2.2) (cj (aG zf (lb B))) (cj (aG C (lb B))) λi2 aj t=>W.gx λi3 ap q=>?_;have z2:(f++os).length<=4:=Y bE<|sZ zf C;refine W.jX (q.1.g t.2.2.2) q.2.2.2 (cj (aG z2 (lb B))) (cj (by decide:1<=8)) λi4 av w=>?_;have z3:(f++os++[cS r.rest]).length<=5:=Y bE<|sZ z2 (aS 1);have x4:=((l.1.trans t.1).trans q.1).trans w.1;refine W.jX w.2.2.2 (x4.g e3.2) (cj (aG z3 (lb B))) (cj (aG zg (lb B))) λi5 ax y5=>W.gx λi6 a0 y=>?_;have z4:(f++os++[cS r.rest]++g).length<=7:=Y bE<|sZ z3 zg;refine W.jX (y.1.g y5.2.2.2) y.2.2.2 (cj (aG z4 (lb B))) (cj (by decide:1<=8)) λS a3 A=>?_;generalize f++os++[cS r.rest]++g++[cS r.block]=xs at A p;have s:=(y5.1.trans y.1).trans A.1;refine W.forL (λm=>v0 H S xs (js v (.ref i) (.ref o) (cS r.rest) (.ref j) (cS r.block)) (c.take m).flatten) (λm a H' h=>by obtain⟨_,_,_,_,_,h,_⟩:=h;exact h) ⟨L,rfl,l.2.1,(gN (eS (bR.mp (((t.1.trans q.1).trans (w.1.trans (y5.1.trans y.1))).g l.2.2.2)).1 A.2.1)),((t.1.trans q.1).trans (w.1.trans s)).g l.2.2.2,A.2.2.2,x4.trans s⟩ (λm x a H' ex I=>?_) λa H' I=>?_;refine ad (p.at_ ex) λns en kk=>?_;have tk:(c.take (m+1)).flatten=(c.take m).flatten++ns:=Y tI<|Y en<|Y Ic ?_;simp;exact Y tk<|MN R hn kk I (tk▸aG (F7 c (m+1)) (fl▸hl));obtain⟨fi,rfl,h1,h2,h3,h4,h5⟩:=I;refine W.eq (Om (n+1) _ _ _ _ _ _ _) (W.ret (hk fi H' h5 h1 ?_));exact Y h3<|Y p.1<|Y mR<|Y fl rfl
theorem UA:∀d,uu d:=by
 intro b;induction b with
 |zero=>exact Cp λf h=>(by injection h)
 |succ d c=>exact Cp λe h=>by injection h with a;subst a;exact c
def rM d:=∀(γ)(n b)(H)(v)(r)(k)(Q:γ->Hp->Prop),2*d+4<=n->cH b H (bL b H d) v r->VN (ba (aD d) r)->(ba (aD d) r).length<=100->(∀i H',Ext [] H H'->H.length<=i->H'[i]? =some (.list ((ba (aD d) r).map V.str))->W (k (.ref i)) H' Q)->W ((vg n [v]).bd k) H Q
theorem BM:X.jc ci (.ref 198) ((V.str s).ty H)=some (.bool false):=by kernel_rfl
theorem BP(e:H[i]? =some (.inst 198 a)):X.jc ci (.ref 198) ((V.ref i).ty H)=some (.bool true):=oH (vb e) (by kernel_rfl)
theorem P3(R:∀e,d=e+1->rM e)(f:2*d+3<=n)(h:bL b H d x t)(g:VN (aD d t))(j:(aD d t).length<=100)(hk:∀i H',Ext [] H H'->H.length<=i->H'[i]? =some (.list ((aD d t).map V.str))->W (k (.ref i)) H' Q):W ((rm n [x]).bd k) H Q:=by refine xE (cB (ah [.le (.a (.m 2 U) (.k 3)) J] (.le (.k 2) J) B f)) λn a=>?_;subst a;refine W.bd<|Y (K_ _ _) ?_;rcases d with _|e;exact wL t;rcases t with s|r;refine xA h λa l=>?_;subst a;exact W.bu BM<|W.truth<|W.aQ rfl<|W.gx λi H' y=>W.ret (hk i H' y.1 y.2.1 y.2.2.2);have h:=h;refine eZ h.opts λi p os q a c=>?_;subst a;exact xA c λm l=>W.bu (BP m)<|W.truth<|W.bj rfl<|R e rfl _ (n+1) b H _ r _ _ (ah [.le (.a (.m 2 (.a J (.k 1))) (.k 3)) (.a U (.k 2))] (.le (.a (.m 2 J) (.k 4)) (.a U (.k 1))) B f) h g j λi H' x y o=>W.ret (hk i H' x y o)
theorem Cm(R:∀e,d=e+1->rM e)(C:2*d+2<=n)(hL:∀p f q,Lf (g8 p f) q=(Internal.c8 f).bd λo0=>(rm (n+1) [q]).bd λq3=>(X.extend f q3).bd λq4=>M.ret (.go (g8 p f)))(e:H₀[i]? =some (.list xs))(w:Al (bL b H₀ d) xs c)(hv:VN (c.flatMap (aD d)))(x:Ext [] H₀ H)(l:H₀.length<=L)(eL:H[L]? =some (.list (pre.map V.str)))(k:(pre++c.flatMap (aD d)).length<=100)(h:∀H',Ext [] H₀ H'->H'[L]? =some (.list ((pre++c.flatMap (aD d)).map V.str))->W (Rf (g8 p (.ref L))) H' Q):W ((M.eO (.ref i) (g8 p (.ref L)) Lf).bd (M.cg M.ret Rf)) H Q:=by
 refine W.forL (λj a H'=>a=(g8 p (.ref L))/\Ext [] H₀ H'/\H'[L]? =some (.list ((pre++(c.take j).flatMap (aD d)).map V.str))) (λj a H' h=>h.2.1.g e) (aX rfl x (by simpa using eL)) (λj y a H' ey o=>bN o λr m f=>?_) λa H' o=>bN o λr m f=>?_;refine Y r<|ad (w.at_ ey) λt A hp=>?_;have tk:(c.take (j+1)).flatMap (aD d)=(c.take j).flatMap (aD d)++aD d t:=Y tI<|Y A<|Y jI ?_;simp;have g:(pre++(c.take (j+1)).flatMap (aD d)).length<=100:=by have:=F7 (c.map (aD d)) (j+1);rw[<-Xj,<-wQ,<-wQ]at this;simp only[bE]at k⊢;exact aL [.le U u,.le (J+u) 100] (.le (J+U) 100) B this k
 rw[tk]at g;have v:(aD d t).length<=100:=by simp only[bE]at g;exact aL [.le (U+(u+J)) 100] (.le J 100) B g
 refine Y (hL _ _ _)<|W.c8 f<|P3 R (ah [.le ((.m 2 J)+2) U] (.le ((.m 2 J)+3) (U+1)) B C) (bL.mono (bf m) hp) (hv.sub λs hs=>lI.mpr (ak t (iT A) hs)) v λi' af y hi e'=>W.extend (y.g f) e' (by simp only[bE,bD]at g⊢;exact aL [.le u 100,.le (J+(U+u)) 100] (.le (J+U) 1000) B v g:_<=1000) (by exact Y (bD _)<|an [.le J 100] (.le J 1000) B v:_<=1000)<|W.ret (aX rfl ((m.trans y).eM l) ?_);exact(eK (y.g f)).trans<|Y tk<|ae (cr _ _ _)<|ae eF rfl;exact Y r<|h H' m<|Y f<|Y w.1<|Y mR rfl
theorem Ua:r_ [a,c] H=some (.ok a,H):=by kernel_rfl
theorem W.rB{os:List V}(e:H[i]? =some (.list os))(g:Al (λv s=>∃p,v=.tup [.str s,p]) os l)(s:os.length<=1000)(h:∀j H',gA H (.list (l.map V.str)) j H'->W (k (.ref j)) H' Q):W ((M.rB 2 (.ref i) r_).bd k) H Q:=by have hi:=(bR.mp e).1;have t:=W.compLoop (L:=H.length) (el:=λv=>(M.cM 2 v).bd r_) (λj H'=>H'[i]? =some (.list os)/\Ext [] H H') (λd j y=>∀s,l[j]? =some s->y=.str s) (λj H' c h=>pn h.1 c) s (λj H' ys af m e=>xA m λa b=>⟨⟨gK (ah [.lt U J] (.n (.eq J U)) B hi) a,b.eM (aS _)⟩,λd d h=>h⟩) (λj H' ys c m w=>xA m λa b=>by refine ad (g.at_ (lD c)) λst f n=>xE n λp x=>Y x<|(iu (.str st) H' Ua w ⟨a,b⟩ (λs' o=>?_) (λd d h=>h));refine Y (ao (f.symm.trans o)) ?_;rfl) os.length 0 (H++[.list []]) [] (an [] (.eq (0+J) J) B) ⟨fE e,.new⟩ (by simp) rfl (λk y e=>(ns e));refine W.bd (W.bd (bQ _ _ (pG e) (W.bM rfl (W.bd (bQ _ _ rfl (W.bd ?_))))));refine(?_:W (M.compLoop (It.list i) (λv=>(M.cM 2 v).bd λxs=>(r_ xs).bd λy=>X.append (.ref H.length) y) (.ref H.length) (os.length+1) 0) _ _);refine Y (funext λv=>M.cR.symm)<|t.mono λ_ H' ⟨ys,⟨q1,A⟩,q,r,C⟩=>W.ret (h H.length H' (bA A (aS _) ((bR.mp q).1) ?_));refine Y q ?_;congr 2;refine s8 λj=>?_;by_cases c:j<ys.length;have f:j<l.length:=ae g.1<|ae r<|c;refine Y (f_)<|Y (bJ f)<|Y (bJ c)<|Y (C j _ (bJ c) _ (bJ f)) ?_;rfl;exact Y (ik (ah [.n (.lt U J)] (.le J U) B c))<|Y (ik (Y (bD _)<|ae g.1<|ae r<|ah [.n (.lt U J)] (.le J U) B c)) rfl
theorem DY(R:∀e,d=e+1->rM e):rM d:=by
 refine λγ n b H v r k Q hn w hv hl hk=>xE (cB (n:=n) (ah [.le (.a (.m 2 U) (.k 4)) J] (.le (.k 2) J) B hn)) λn af=>?_;subst af;have hk:∀i H',Ext [] H H'->H.length<=i->H'[i]? =some (.list ((ba (aD d) r).map V.str))->(λa H'=>W (k a) H' Q) (.ref i) H':=hk;refine W.bd ?_;generalize (λa H'=>W (k a) H' Q)=Q at*;refine Y (N1 _ _) ?_;obtain⟨i,l1,l2,l3,f,g,os,rfl,o,e1,e2,e3,a1,a3,a2,s1,A,s3⟩:=w;replace o:=o.2;have x:(r.front.flatMap (aD d)).length+(r.opt.length+((eY r.rest).length+((r.behind.flatMap (aD d)).length+r.block.toList.length)))<=100:=by simpa[ba]using hl
 refine W.gx λL ai C=>?_;have t:=C.2.1;refine W.attr (C.1.g o) (by rfl) (by rfl) (by rfl)<|Cm (pre:=[]) R (by exact ah [.le (.a (.m 2 J) (.k 4)) (.a U (.k 2))] (.le (.a (.m 2 J) (.k 2)) U) B hn) (Tn n) e1.2 a1 (hv.sub λs hs=>mG _ hs) C.1 t C.2.2.2 (by simp only[bE,bD,oh,jJ];exact cK [.le U 2,.le (J+(U+(u+(D+aA)))) 100] (.le (0+J) 100) B A x) λaj x2 f2=>W.eq (OG n _ _)<|W.c8 f2<|W.attr (x2.g o) (by rfl) (by rfl) (by rfl)<|W.rB (x2.g e2.2) a2 (Y a2.1<|an [.le J 2] (.le J 1000) B A) λj l y3=>W.extend (y3.1.g f2) y3.2.2.2 (show _<=1000 by simp only[bE,bD,oh,jJ];exact cK [.le U 2,.le (J+(U+(u+(D+aA)))) 100] (.le (0+J) 1000) B A x) (show _<=1000 by simp only[bE,bD,oh,jJ];exact an [.le J 2] (.le J 1000) B A) ?_;have f3:(l.set L (.list ((([]++r.front.flatMap (aD d)).map V.str)++r.opt.map V.str)))[L]? =some (.list ((r.front.flatMap (aD d)++r.opt).map V.str)):=(eK (y3.1.g f2)).trans<|ae eF<|Y (wR _) rfl;have x3:Ext [] H (l.set L (.list ((([]++r.front.flatMap (aD d)).map V.str)++r.opt.map V.str))):=(x2.trans y3.1).eM t;generalize l.set L (.list ((([]++r.front.flatMap (aD d)).map V.str)++r.opt.map V.str))=p at*;have tail:∀c,Ext [] H c->c[L]? =some (.list ((r.front.flatMap (aD d)++(r.opt++eY r.rest)).map V.str))->W (sI n (.ref i) (.ref L)) c Q:=λc x5 f5=>W.attr (x5.g o) (by rfl) (by rfl) (by rfl)<|Cm R (by exact ah [.le (.a (.m 2 J) (.k 4)) (.a U (.k 2))] (.le (.a (.m 2 J) (.k 2)) U) B hn) (VD n) e3.2 a3 (hv.sub λs hs=>j9 _ (j9 _ (j9 _ (mG _ hs)))) x5 t f5 (by simp only[bE,bD,oh,jJ];exact cK [.le (J+(U+(u+(D+aA)))) 100] (.le (J+(U+u)+D) 100) B x) λy x6 f6=>W.eq (UX n _ _)<|W.attr (x6.g o) (by rfl) (by rfl) qN<|W.bV<|W.truth<|Y jq ?_;rcases hb:r.block with _|s;refine W.aQ rfl<|W.ret (hk L y x6 t ?_);refine Y f6 ?_;rw[ba];refine Y hb ?_;simp[cr];refine W.bj rfl ?_;have h:=x6.g o;rw[hb]at h;refine W.c8 f6<|W.attr h (by rfl) (by rfl) (by rfl)<|W.append f6 (show _<=1000 by simp only[bE,bD,oh,jJ];exact cK [.le (J+(U+(u+(D+aA)))) 100] (.le (J+(U+u)+D) 1000) B x)<|W.ret (hk L _ (x6.eM t) t ?_);rw[ba];refine Y hb<|(eK f6).trans ?_;simp[cS]
 have m:eY r.rest=[]->W (sI n (.ref i) (.ref L)) p Q:=λe=>tail p x3 (Y e<|Y (cV _)<|f3);refine W.attr (x3.g o) (by rfl) (by rfl) qN<|W.bV<|W.truth<|Y jq ?_;rcases w:r.rest with _|s;exact W.aQ rfl (m (by refine Y w ?_;rfl));refine W.bj rfl ?_;have h:=x3.g o;rw[w]at h;refine W.attr h (by rfl) (by rfl) (by rfl)<|W.kM<|W.truth<|W.aw (λq=>?_) λq=>m (Y w<|if_pos (by simpa using q));refine W.c8 f3<|W.attr h (by rfl) (by rfl) (by rfl)<|W.append f3 (show _<=1000 by simp only[bE,bD,oh,jJ];exact cK [.le (J+(U+(u+(D+aA)))) 100] (.le (J+U) 1000) B x) (tail _ (x3.eM t) ?_);refine(eK f3).trans<|Y w<|Y (show eY (some s)=[s]from if_neg (by simpa using q)) ?_;simp[cS]
theorem RT:∀d,rM d:=by
 intro b;induction b with
 |zero=>exact DY λf h=>(by injection h)
 |succ d c=>exact DY λe h=>by injection h with a;subst a;exact c
def tV d:=∀(γ)(n b)(H)(v)(r)(k)(Q:γ->Hp->Prop),d+6<=n->c7 b H (bK b H d) v r->(∀a H',Ext [] H H'->cH H.length H' (bL H.length H' d) a r->W (k a) H' Q)->W ((mm n [v]).bd k) H Q
theorem jv(h:L<b):∀i a,St b H i a->St b (H.set L o) i a:=(Ext.set (mu:=[L]) (.head _)).st (by intro j c;rcases ca.mp c with rfl|q;exact h;rcases q)
theorem Gc(R:∀e,d=e+1->tV e)(hn:d+4<=n)(e:H[i]? =some (.list xs))(al:Al (bK b H d) xs m)(s:xs.length<=100)(h:∀j ys H',Ext [] H H'->St H.length H' j (.list ys)->Al (bL H.length H' d) ys m->W (k (.ref j)) H' Q):W ((M.cZ (.ref i) λq7=>CV n q7).bd k) H Q:=by have hi:=(bR.mp e).1;refine W.cZ (λj H'=>Ext [] H H') (λH' j y=>∀t,m[j]? =some t->bL (H.length+1) H' d y t) (pG e) (an [.le J 100] (.le J 1000) B s) (λj H' A x=>pn (x.g e) A) .new (λj H' ys ap x g=>⟨x.eM (aS _),λC C h t l=>bL.mono (jv (f9 _)) (h t l)⟩) (λj H' ys A x g=>?_) λys H' hy x g L=>h _ ys H' x ⟨aS _,g⟩ ⟨Y hy<|Y al.1 rfl,λj a t ha l=>bL.mono (λi o q=>q.low (gS _)) (L j a ha t l)⟩;refine ad (al.at_ (lD A)) λt l f=>?_;have f:=bK.mono (bf x) f;have w:∀y c,Ext [] H' c->bL (H.length+1) c d y t->c[H.length]? =some (.list ys)/\Ext [] H c/\(∀t,m[j]? =some t->bL (H.length+1) c d y t)/\∀(k:Nat)(af),(∀t,m[k]? =some t->bL (H.length+1) H' d af t)->∀t,m[k]? =some t->bL (H.length+1) c d af t:=λy c v p=>(bA (v.g g) (x.trans v) (λt' ai=>ae (ao (l.symm.trans ai))<|p) (λk af h t l=>bL.mono (bf v) (h t l)));generalize xs.getD j V.none=x at f;rcases d with _|d;exact wL t;rcases t with s|r;exact xA f λaj L=>Y aj<|W.bu (by kernel_rfl)<|W.truth<|W.aQ rfl<|W.ret (w _ _ .refl ⟨rfl,L⟩);have f:=f;have le:=(bR.mp g).1;refine W.bu (by obtain⟨i',o',j',f',g',g,_⟩:=f;subst g;kernel_rfl)<|W.truth<|W.bj rfl<|R d rfl _ (n+1) b H' x r _ _ (ah [.le (J+1+4) U] (.le (J+6) (U+1)) B hn) f λv' c v p=>W.ret (w _ _ v ?_);exact cH.mono p (λi o q=>q.low le) λC C=>bL.mono λi o q=>q.low le
theorem IZ(r:2<=n)(e:H[i]? =some (.list (b.map V.str)))(s:b.length<=100)(h:∀j ys H',Ext [] H H'->St H.length H' j (.list ys)->Al (λv s=>∃d,v=.tup [.str s,d]) ys b->W (k (.ref j)) H' Q):W ((M.cZ (.ref i) λm=>Gl n m).bd k) H Q:=by have hi:=(bR.mp e).1;have o:(b.map V.str).length=b.length:=bD _;refine W.cZ (λj H'=>Ext [] H H') (λH' j y=>∀s,b[j]? =some s->∃d,y=.tup [.str s,d]) (pG e) (ah [.le U 100,.eq J U] (.le J 1000) B s o) (λj H' f x=>pn (x.g e) f) .new (λj H' ys af x c=>⟨x.eM (aS _),λg g h=>h⟩) (λj H' ys f x c=>?_) λys H' w x c l=>h _ ys H' x ⟨aS _,c⟩ ⟨Y w<|Y o rfl,λj a t A C=>l j a A t C⟩;have p:=lD f;rw[f_]at p;refine ad (ij.mp p) λs' L h2=>ae h2<|W.mkNode r λai q=>W.ret (bA (q.g c) (x.trans q) (λs l=>?_) (λg g h=>h));exact Y (ao (L.symm.trans l))<|⟨_,rfl⟩
noncomputable def xt(r:Row A)j:=if j=0 then r.front else r.behind
inductive nR b H d(y:V)ts:Prop
 |mk (m) (ys) (ey:y=.ref m) (st:St b H m (.list ys)) (al:Al (bL b H d) ys ts)
theorem nR.mono(h:nR b H d y a)(s:∀i o,St b H i o->St b' H' i o):nR b' H' d y a:=by obtain⟨m,ys,c,st,e⟩:=h;exact⟨m,ys,c,s _ _ st,e.mono λf f=>bL.mono s⟩
theorem F4(x:Ext [] H H')(f:H'[H.length]? =some (.list ys))m b a(c:Ext [] H' a)(st:St H'.length a m (.list b))(h:Al (bL H'.length a d) b j):a[H.length]? =some (.list ys)/\Ext [] H a/\nR (H.length+1) a d (.ref m) j/\∀k e,nR (H.length+1) H' d e (xt r k)->nR (H.length+1) a d e (xt r k):=by have g:=(bR.mp f).1;exact(bA (c.g f) (x.trans c) ⟨m,b,rfl,st.low g,h.mono λl l=>bL.mono λi o q=>q.low g⟩ λk e q=>q.mono (bf c))
theorem Gj(R:∀e,d=e+1->tV e):tV d:=by refine λγ n b H v r k Q A hr hk=>xE (jh (n:=n) (ah [.le (U+6) J] (.le 3 J) B A)) λn af=>?_;subst af;have hk:∀v' H',Ext [] H H'->cH H.length H' (bL H.length H' d) v' r->(λa H'=>W (k a) H' Q) v' H':=hk;refine W.bd ?_;generalize (λa H'=>W (k a) H' Q)=Q at*;refine Y (Tx _ _)<|bh λR' k'=>?_;obtain⟨i,o,j,f,g,rfl,e1,e2,e3,a1,a2,s1,s2,s3⟩:=hr;refine k'<|W.iG<|W.cZ (n:=2) (λl H'=>Ext [] H H') (λH' w y=>nR (H.length+1) H' d y (xt r w)) xO (by decide) (λw H' hj l=>Av hj) .new (λw H' ys ai x e'=>⟨x.eM (aS _),λl l q=>q.mono (jv (f9 _))⟩) (λw H' ys hj x e'=>?_) λys C hy p eL hs=>?_;have j2:w=0\/w=1:=an [.lt J 2] (.or (.eq J 0) (.eq J 1)) B hj;rcases j2 with rfl|rfl;exact Gc R (ah [.le (J+6) (U+1+2)] (.le (J+4) (U+1)) B A) (x.g e1.2) (a1.mono λl l=>bK.mono (bf x)) (Y a1.1<|an [.le J 2] (.le J 100) B s1) λm zs t x' st al=>W.ret (F4 x e' m zs t x' st al);exact Gc R (ah [.le (J+6) (U+1+2)] (.le (J+4) (U+1)) B A) (x.g e3.2) (a2.mono λl l=>bK.mono (bf x)) (Y a2.1<|an [.le J 2] (.le J 100) B s3) λm zs t x' st al=>W.ret (F4 x e' m zs t x' st al);refine VA hy λy0 y1 ey=>?_;subst ey;refine bh λR' k'=>?_;obtain⟨m0,z0,rfl,t0,l0⟩:=hs 0 _ rfl;obtain⟨m1,z1,rfl,t1,l1⟩:=hs 1 _ rfl;have sz:=(by decide:(2)<=1000);refine k'<|W.ek eL rfl sz<|IZ (ah [.le (U+6) (J+1+2)] (.le 2 (J+1)) B A) (p.g e2.2) (an [.le J 2] (.le J 100) B s2) λm2 z2 c h t2 l2=>W.ek (h.g eL) rfl sz<|W.mkParams (ah [.le (U+6) (J+1+2)] (.le 2 (J+1)) B A) (h.g t0.2) t2.2 (h.g t1.2) (by exact Y l0.1<|aG s1 (by decide):_<=1000) (by exact Y l2.1<|an [.le J 2] (.le J 1000) B s2:_<=1000) (by exact Y l1.1<|aG s3 (by decide):_<=1000)<|W.ret (hk _ _ ((p.trans h).trans .hU) ?_);have up:∀i o,St (H.length+1) C i o->St H.length (c++[.inst 198 (oG (c.length+1) (c.length+2) (c.length+3) (cS r.rest) (cS r.block)),.list z0,.list z2,.list z1]) i o:=λi o q=>(bf .hU _ _ (bf h _ _ q)).low (gS _);have L:=aG p.len h.len;have s:∀(S)(q)(o),S[q]? =some o->(c++S)[c.length+q]? =some o:=λS q o e=>Y (mI (by exact ah [] (.le J (J+U)) B))<|Y (og _ _)<|e;exact⟨_,_,_,_,z0,z1,z2,rfl,⟨L,s _ 0 _ rfl⟩,⟨ah [.le J U] (.le J (U+1)) B L,s _ 1 _ rfl⟩,⟨ah [.le J U] (.le J (U+2)) B L,s _ 2 _ rfl⟩,⟨ah [.le J U] (.le J (U+3)) B L,s _ 3 _ rfl⟩,l0.mono λl l=>bL.mono up,l1.mono λl l=>bL.mono up,l2,s1,s2,s3⟩
theorem zG:∀d,tV d:=by
 intro b;induction b with
 |zero=>exact Gj λf h=>(by injection h)
 |succ d c=>exact Gj λe h=>by injection h with a;subst a;exact c
def VO b H v:=∃d,dF b H d v
theorem VO.mono(s:∀i o,St b H i o->St b' H' i o)(h:VO b H v):VO b' H' v:=xE h λd h=>⟨d,h.mono s⟩
theorem VO.none:VO b H .none:=⟨0,.inl rfl⟩
theorem VO.parts(h:VO b H v):(parts H v).length<=10/\∀x∈parts H v,VO b H x:=by refine xE h λd h=>?_;have c:Atom b H v->(Internal.parts H v).length<=10/\∀x∈Internal.parts H v,VO b H x:=λa=>Y a.parts<|⟨by simp,λx e=>Y (dW.mp e)<|⟨0,a⟩⟩;rcases d with _|d;exact c h;rcases h with a|⟨n,xs,f,l,e⟩;exact c a;exact Y f.parts<|⟨l,λx q=>⟨d,e x q⟩⟩
theorem VO.k6(h:VO b H v)(s:∀i o,St b H i o->St b' H' i o):Internal.parts H' v=Internal.parts H v:=by refine xE h λd h=>?_;rcases d with _|d;have a:=h;exact Y a.parts<|Y ((a.mono s).parts) rfl;rcases h with a|⟨n,xs,c,l,e⟩;exact Y a.parts<|Y ((a.mono s).parts) rfl;exact Y c.parts<|Y ((c.mono s).parts) rfl
def e_(b:Nat)(H:Hp)(c:Int)(e:aa×V)(f:aa×Bd):=e.1=f.1/\match f.2 with
 | .one x=>e.2=x
 | .rest d=>∃a,ListIs b H e.2 a d/\c<a
theorem e_.mono(s:∀i o,St b H i o->St b' H' i o)(h:e_ b H c e f):e_ b' H' c e f:=by obtain⟨k,x⟩:=f;rcases x with x|d;exact h;exact sP h λa n l o=>(fh a n (l.mono s) o)
structure Vs H₀ vi old t C H(fs:List (aa×Bd)):Prop where
 ext:Ext [6,9] H₀ H
 new:H₀.length<=vi
 base:∃N,Base H t (C+3*fs.length) N/\old<=N
 at_:∃es,H[vi]? =some (.dict es)/\Al (e_ (vi+1) H old) es fs
theorem Vs.keys{H₀ H:Hp}{t:Int}{C:Nat}(b:Al (e_ (g+1) H f) c e):c.map (·.1)=e.map (·.1):=by refine s8 λj=>?_;rw[f_,f_];by_cases a:j<c.length;have d:=b.1▸a;rw[bJ a,bJ d];exact congrArg some (b.2 j _ _ (bJ a) (bJ d)).1;rw[ik (by exact ah [.n (.lt U J)] (.le J U) B a),ik (by rw[<-b.1];exact ah [.n (.lt U J)] (.le J U) B a)];rfl
theorem Vs.step(s:Vs H₀ d c t C H f)(x:Ext [] H H'):Vs H₀ d c t C H' f:=by refine bh λn g=>?_;obtain⟨a,b,⟨h,i,l⟩,j,e,k⟩:=s;exact g<|⟨a.trans x.any,b,⟨h,i.dk x,l⟩,j,x.g e,k.mono λm m=>e_.mono (bf x)⟩
theorem Vs.put(j:10<=H₀.length)(s:Vs H₀ d c t C H f)(m:f.length<=100)(n:q∉f.map (·.1))(o:e_ (d+1) H c (q,v) (q,bd))(h:∀H',Vs H₀ d c t C H' (f++[(q,bd)])->Ext [d] H H'->W (k ()) H' Q):W ((X.setItem (.ref d) (.str q) v).bd k) H Q:=by refine bh λx p=>?_;obtain⟨a,b,⟨r,w,l⟩,y,e,g⟩:=s;refine p<|W.ux e (by rw[fA,g.1];exact an [.le J (.k 100)] (.le J (.k 16777216)) B m) (h _ ⟨a.eM b,b,⟨r,?_,l⟩,_,eK e,?_⟩ (.set (.head _)));exact(w.set (by exact ah [.le 10 U,.le U J] (.le 10 J) B j b) e λi q=>(by injection q)).mono (by simp only[bE,jJ,oh];exact ah [] (.le (.a J (.m 3 U)) (.a J (.m 3 (.a U (.a (.k 0) (.k 1)))))) B);rw[uL (by rw[(Vs.keys (H₀:=H₀) (t:=t) (C:=C) g)];exact n)];exact(g.mono λi i=>e_.mono (jv (f9 _))).app (.one (e_.mono (jv (f9 _)) o))
theorem r6{A:Type}{r:Row A}{xs:List V}:r.front.length+r.behind.length<=(bW r xs).length:=by unfold bW;dsimp only;split;exact Y jK<|Y bE<|Y iZ<|aU [] (.le (J+U) (.mn (J+U+u) (D+(J+U-D)))) B;exact Y bE<|Y iZ<|aL [] (.le (J+U) (u+(J+U-u))) B
theorem l6{P : V -> Prop} (c : P .none) (h : ∀ x ∈ xs, P x) : ∀ x ∈ bW r xs, P x := by
  have b : ∀ x ∈ xs ++ dq (r.front.length + r.behind.length - xs.length) V.none, P x := λx a => by
    rcases iQ.mp a with q | q
    · exact h x q
    ·exact Y (List.eq_of_mem_replicate q)<|c
  intro x a
  unfold bW at a
  dsimp only at a
  split at a
  · exact b x (wS a)
  · exact b x a
theorem fit_le{A:Type}{r:Row A}{xs:List V}(a:r.front.length<=2/\r.opt.length<=2/\r.behind.length<=2)(h:xs.length<=10):(bW r xs).length<=10:=by unfold bW;dsimp only;split;exact Y jK<|Y bE<|Y iZ<|aU [.and (.le J 2) (.and (.le u 2) (.le U 2)),.le D 10] (.le (.mn (J+U+u) (D+(J+U-D))) 10) B a h;exact Y bE<|Y iZ<|aU [.and (.le U 2) (.and (.le D 2) (.le u 2)),.le J 10] (.le (J+(U+u-J)) 10) B a h
theorem w'{m:Nat}:jF n (m:Int)=fZ m n:=by unfold jF;refine Y (if_neg (by exact an [] (.n (.aR (.c J) 0)) B)) ?_;rcases AM m n with h|h;refine Y (qc h)<|Y (Int.min_eq_left (p9.mpr h))<|Y (Xk (tv _)) ?_;rfl;refine Y (AL h)<|Y (Int.min_eq_right (p9.mpr h))<|Y (Xk (tv _)) ?_;rfl
theorem Ot{xs:List V}:xs.take (fZ m xs.length)=xs.take m:=by rcases AM m xs.length with h|h;exact Y (qc h) rfl;exact Y (AL h)<|Y mR<|Y (qF h) rfl
theorem xq{m:Nat}:kU xs none (some (m:Int))=xs.take m:=by refine(?_:(xs.drop 0).take (jF xs.length (m)- 0)=_);exact Y List.drop_zero<|Y (Nat.sub_zero _)<|Y w'<|Y Ot rfl
theorem O_{a c:Nat}(b:a<=xs.length)(d:c<=xs.length):kU xs (some (a:Int)) (some (c:Int))=(xs.take c).drop a:=by refine(?_:(xs.drop (jF xs.length (a))).take (jF xs.length (c)- jF xs.length (a))=_);exact Y w'<|Y w'<|Y (qc b)<|Y (qc d)<|Y Xl rfl
theorem W.mulL(e:H[i]? =some (.list [x]))(h:m<1000/\ -1000<m)(hk:∀j H',gA H (.list (dq m.toNat x)) j H'->W (k (.ref j)) H' Q):W ((X.mul (.ref i) (.int m)).bd k) H Q:=by
 refine W.st ((cn (gf e)).trans ?_) (hk _ _ .mk);refine Y (uU ⟨h.1,h.2,rfl⟩) ?_;have:(dq m.toNat [x]).flatten=dq m.toNat x:=by induction m.toNat with
 |zero=>rfl
 |succ q a=>refine Y qm<|Y wy<|Y a ?_;rfl
 refine Y this<|rW (by refine Y iZ<|Y fA ?_;(revert h;apply dj m;exact λb c=>λh=>aL [.and (.aR (.s (.c J) (.c U)) (.k 1000)) (.aR (.g (.k 1000)) (.s (.c J) (.c U))),.or (.cu (.c u) (.s (.c J) (.c U))) (.and (.eq u (.k 0)) (.bC (.s (.c J) (.c U)) (.k 0)))] (.le u (.k 16777216)) B h kL))
theorem W.Dc{r:Row A}(p:4<=n)(q:cH b H AI v r)(e:H[i]? =some (.list xs))(l:xs.length<=10)(h:∀j H',Ext [] H H'->H'[j]? =some (.list (bW r xs))->(j=i\/H.length<=j)->W (k (.ref j)) H' Q):W ((uR n [.ref i,v]).bd k) H Q:=by
 refine xE (cB (n:=n) (an [.le (.k 4) J] (.le (.k 2) J) B p)) λn x=>?_;subst x;have s:Sz xs:=aG l (lb B);have d:=q.sm;refine W.bd ?_;rw[L8];refine W.rq (an [.le (.k 4) (.a J (.k 2))] (.le (.k 3) (.a J (.k 1))) B p) q<|W.nz (an [.le (.k 4) (.a J (.k 2))] (.le (.k 2) (.a J (.k 1))) B p) q<|W.len e s<|W.sub<|W.gt<|W.truth<|W.aw (λa=>?_) (λa=>?_);have a:xs.length<bq r:=by have:=of_decide_eq_true a;exact ah [.aR (.k 0) (.s (.c U) (.c J))] (.lt J U) B this
 have tn:((bq r:Int)- xs.length).toNat=bq r- xs.length:=aL [.lt U J,.or (.cu (.c u) (.s (.c J) (.c U))) (.and (.eq u (.k 0)) (.bC (.s (.c J) (.c U)) (.k 0)))] (.eq u (.s J U)) B a kL;have f:bW r xs=xs++dq (bq r- xs.length) .none:=by unfold bW bq at*;split;rw[qF];simp;exact aU [.and (.le U (.k 2)) (.and (.le D (.k 2)) (.le u (.k 2))),.lt J (.a U u)] (.le (.a J (.s (.a U u) J)) (.a (.a U u) D)) B d a;rfl
 rw[f]at h;exact W.gx λj c y=>W.mulL y.2.2.2 (by have:=d.1;have:=d.2.2;skip;exact aU [.le u (.k 10),.and (.le J (.k 2)) (.and (.le D (.k 2)) (.le U (.k 2)))] (.and (.aR (.s (.c (.a J U)) (.c u)) (.k 1000)) (.aR (.g (.k 1000)) (.s (.c (.a J U)) (.c u)))) B l d) λj2 L m=>W.jX (m.1.g (y.1.g e)) m.2.2.2 s (by rw[iZ];have:=d.1;have:=d.2.2;skip;exact cK [.le u (.k 10),.and (.le J (.k 2)) (.and (.le aA (.k 2)) (.le U (.k 2))),.or (.cu (.c D) (.s (.c (.a J U)) (.c u))) (.and (.eq D (.k 0)) (.bC (.s (.c (.a J U)) (.c u)) (.k 0)))] (.le D (.k 1000)) B l d kL:_<=1000) λj3 g t=>W.ret (h j3 g ((y.1.trans m.1).trans t.1) (by rw[t.2.2.2,tn]) (.inr (by have:=t.2.1;have:=y.1.len;have:=m.1.len;exact aU [.le u U,.le J D,.le D u] (.le J U) B (by assumption) (by assumption) this)));have a:bq r<=xs.length:=by have:=of_decide_eq_false a;exact ah [.n (.aR (.k 0) (.s (.c J) (.c U)))] (.le J U) B this
 have C:r.front.length+r.behind.length- xs.length=0:=by unfold bq at a;exact aL [.le (.a J U) u] (.eq (.s (.a J U) u) (.k 0)) B a
 refine W.is<|W.truth ?_;rcases o:r.rest with _|s';have w:b_ r=some (bq r+r.opt.length):=by unfold b_;rw[o];rfl
 have f:bW r xs=xs.take (bq r+r.opt.length):=by unfold bW bq;dsimp only;rw[C,if_pos o];simp
 rw[f]at h;rw[w];exact W.aQ rfl<|W.ub rfl rfl e s λj c y=>W.ret (h j c y.1 (by rw[y.2.2.2,xq]) (.inr y.2.1));have w:b_ r=none:=by unfold b_;rw[o];rfl
 have f:bW r xs=xs:=by unfold bW;dsimp only;rw[C,if_neg (by rw[o];simp)];simp
 rw[f]at h;rw[w];exact W.bj rfl<|W.ret (h i H .refl e (.inl rfl))
theorem rf{A:Type}{f:A->V->List (aa×Bd)}{c:A->List aa}(h:∀a v,((f a v).map (·.1)).Sublist (c a)):∀(b:List A)xs,(((b.zip xs).flatMap λp=>f p.1 p.2).map (·.1)).Sublist (b.flatMap c):=by
 intro b;induction b with
 |nil=>exact λe=>wN _
 |cons a b d=>intro xs;rcases xs with _|⟨x,xs⟩;exact wN _;exact Y qt<|Y fC<|Y fC<|Y eF<|(h a x).append (d xs)
theorem zJ:∀(a:List aa)xs,(((a.zip xs).map λp=>(p.1,Bd.one p.2)).map (·.1)).Sublist a:=by
 intro a;induction a with
 |nil=>exact λc=>wN _
 |cons s a b=>intro xs;rcases xs with _|⟨x,xs⟩;exact wN _;exact(b xs).cons_cons s
theorem Dt:(eX o a).map (·.1)=eY o:=by delta eX eY;rcases o with _|s;rfl;dsimp only;split<;>rfl
theorem v_{b:A->List aa}(h:∀a v,((f a v).map (·.1)).Sublist (b a))r xs:((cY false f r xs).map (·.1)).Sublist (ba b r):=by delta cY ba;simp only[eF,if_false,ko,cV,Dt];exact(rf h _ _).append (((zJ _ _).trans (wT _ _)).append ((il _).append ((rf h _ _).trans (tJ _ _))))
theorem lX d b v:((bT H false d b v).map (·.1)).Sublist (aD d b):=pd (λa a a=>il _) (λa r c a=>v_ c r _) d b v
noncomputable abbrev ja(a:Nat):List Nat:=[6,9,a]
def sr d:=∀(γ)(n b)(H₀)(c)(a t)(C)(H)(e)(x)(f)(g)(k)(Q:γ->Hp->Prop),2*d+24<=n->10<=b->10<=H₀.length->bL b H₀ d x f->VO b H₀ g->Vs H₀ c a t C H e->(e.map (·.1)++aD d f).Nodup->e.length+(aD d f).length<=100->C+400<=1000000->(∀H',Vs H₀ c a t C H' (e++bT H₀ false d f g)->Ext (ja c) H H'->W (k .none) H' Q)->W ((r5 n [.ref 6,x,g,.ref c]).bd k) H Q
def y_ d:=∀(γ)(n b)(H₀)(c)(a t)(C)(H)(e)(x)(r)(f)(ys)(k)(Q:γ->Hp->Prop),2*d+25<=n->10<=b->10<=H₀.length->cH b H₀ (bL b H₀ d) x r->(∀y∈ys,VO b H₀ y)->H[f]? =some (.list ys)->10<=f->r.front.length+r.behind.length<=ys.length->ys.length<=10->Vs H₀ c a t C H e->(e.map (·.1)++ba (aD d) r).Nodup->e.length+(ba (aD d) r).length<=100->C+400<=1000000->(∀H',Vs H₀ c a t C H' (e++cY false (bT H₀ false d) r ys)->Ext (ja c) H H'->W (k (.int (taken r ys.length))) H' Q)->W ((uw n [.ref 6,x,.ref f,.ref c]).bd k) H Q
theorem Vs.st(s:Vs H₀ e d t C H f)(c:10<=b):∀i o,St b H₀ i o->St b H i o:=s.ext.st (by intro j a;simp at a;exact ah [.le 10 U,.or (.eq J 6) (.eq J 9)] (.lt J U) B c a)
theorem ER(R:∀e,d=e+1->y_ e):sr d:=by
 refine λγ n b H₀ vi A t C H fs x tt ai k Q m a v c w s nd le hC hk=>xE (cB (ah [.le (.a (.m 2 U) (.k 24)) J] (.le (.k 2) J) B m)) λn f=>?_;subst f;refine W.bd<|Y (Qc _ _ _ _ _) ?_;rcases d with _|e;exact wL tt;rcases tt with q|r;refine xA c λf g=>?_;subst f;refine W.bu BM<|W.truth<|W.aQ rfl<|s.put v (ah [.le (.a J U) (.k 100)] (.le J (.k 100)) B le) (λh=>(n0.mp nd).2.2 q h q (.head _) rfl) ⟨rfl,rfl⟩ λH' s' p=>W.ret (hk H' s' (p.mono λi q=>by refine Y (dW.mp q) ?_;simp));have c:=c;refine xA w.parts λpl pv=>eZ (cH.mono c (s.st a) λg g=>bL.mono (s.st a)).opts λi l2 os es ex L=>xA L λe0 g=>W.bu (Y ex<|BP e0)<|W.truth<|W.bj rfl<|xE (id (w.mono (s.st a))) λdd l=>W.itemsOf (ah [.le (.a (.m 2 (.a U (.k 1))) (.k 24)) (.a J (.k 2))] (.le (.k 2) (.a J (.k 1))) B m) l<|Y (w.k6 (s.st a)) ?_;have y:=s.step (Ext.new (o:=.list (parts H₀ ai)));refine W.Dc (ah [.le ((.m 2 (U+1))+24) (J+2)] (.le 4 (J+1)) B m) (cH.mono c (y.st a) λg g=>bL.mono (y.st a)) gV pl λj H' p ej hj=>?_;have hl:10<=H.length:=by have:=s.ext.len;exact ah [.le 10 U,.le U J] (.le 10 J) B v this
 exact R e rfl _ (n+1) b H₀ vi A t C H' fs x r j (bW r (parts H₀ ai)) _ _ (ah [.le ((.m 2 (J+1))+24) (U+2)] (.le ((.m 2 J)+25) (U+1)) B m) a v c (l6 VO.none pv) ej (by rcases hj with rfl|h;exact hl;exact aG (by simp;exact an [.le 10 J] (.le 9 J) B hl) h) r6 (fit_le c.sm pl) (y.step p) nd le hC λaf s3 x3=>W.ret (hk af s3 ((Ext.new).any.trans (p.any.trans x3)))
theorem EG{l:List (T d×V)}(R:sr d)(hn:2*d+23<=n)(hb:10<=b)(h0:10<=H₀.length)(o:l.length=m)(y:m<=100)(hs:∀(j:Nat)tt r H' P,l[j]? =some (tt,r)->Ext (ja f) H H'->(∃A,Vs H₀ f c t C H' A)->(∀x,bL b H₀ d x tt->VO b H₀ r->W ((r5 (n+1) [.ref 6,x,r,.ref f]).bd λo0=>M.ret (.go loc)) H' P)->W (Lf loc (.int j)) H' P)(s:Vs H₀ f c t C H i)(nd:(i.map (·.1)++l.flatMap λp=>aD d p.1).Nodup)(le:i.length+(l.flatMap λp=>aD d p.1).length<=100)(hC:C+400<=1000000)(h:∀H',Vs H₀ f c t C H' (i++l.flatMap λp=>bT H₀ false d p.1 p.2)->Ext (ja f) H H'->W (Rf loc) H' Q):W ((M.eO (.de (m:Int)) loc Lf).bd (M.cg M.ret Rf)) H Q:=by
 refine W.forR (λj a H'=>a=loc/\Vs H₀ f c t C H' (i++(l.take j).flatMap λp=>bT H₀ false d p.1 p.2)/\Ext (ja f) H H') (ah [.eq U J,.le J 100] (.lt J 1000) B o y) (aX rfl (by simpa using s) .refl) (λj a H' hj v=>bN v λw s' k=>?_) λa H' v=>bN v λw s' k=>?_;refine Y w ?_;have g:j<l.length:=aL [.eq U u,.lt J u] (.lt J U) B o hj;have ej:=bJ g;refine hs j l[j].1 l[j].2 H' _ ej k ⟨_,s'⟩ λx px vu=>?_;have dr:l=l.take j++(l[j]::l.drop (j+1)):=Y (Id _)<|Y (qE _ _) rfl;have tk:l.take (j+1)=l.take j++[l[j]]:=Y tI<|Y ej ?_;rfl;have ks:(((l.take j).flatMap λp=>bT H₀ false d p.1 p.2).map (·.1)).Sublist ((l.take j).flatMap λp=>aD d p.1):=by induction l.take j with
 |nil=>simp
 |cons p q ih=>exact Y fC<|Y fC<|Y eF<|(lX d p.1 p.2).append ih
 have L:(i.map (·.1)++(((l.take j).flatMap λp=>aD d p.1)++(aD d l[j].1++(l.drop (j+1)).flatMap λp=>aD d p.1))).Nodup:=by rw[dr,jI,fC]at nd;simpa using nd
 have af:i.length+(((l.take j).flatMap λp=>aD d p.1).length+((aD d l[j].1).length+((l.drop (j+1)).flatMap λp=>aD d p.1).length))<=100:=by
  have e:(l.flatMap λp=>aD d p.1).length=((l.take j).flatMap λp=>aD d p.1).length+((aD d l[j].1).length+((l.drop (j+1)).flatMap λp=>aD d p.1).length):=by conv=>lhs;rw[dr,jI,fC,bE,bE]
  exact ae e<|le
 have kl:=ks.length_le;rw[bD]at kl;refine R _ (n+1) b H₀ f c t C H' _ x l[j].1 l[j].2 _ _ (aU [.le ((.m 2 J)+23) U,.lt u D] (.le ((.m 2 J)+24) (U+1)) B hn g) hb h0 px vu s' ?_ ?_ hC λap ai aj=>W.ret (aX rfl ?_ (k.trans aj));refine qG ?_ L;exact Y eF<|Y (cr _ _ _)<|(il _).append (ks.append (tJ _ _));exact Y bE<|CS [.lt D aA,.le (J+(bB+(u+hN))) 100,.le U bB] (.le (J+U+u) 100) B g af kl;exact Y tk<|Y jI<|Y fC<|Y Ie<|Y (cV _)<|ae (cr _ _ _)<|ai;refine Y w ?_;rw[<-o,mR]at s';exact h H' s' k
theorem uf{c d:Type}{e:List c}{f:List d}{j:Nat}{a:c}{b:d}(h:(e.zip f)[j]? =some (a,b)):e[j]? =some a/\f[j]? =some b:=HY.mp h
theorem Cg{A:Type}{c:A->List aa}:∀(b:List A)(xs:List V),b.length<=xs.length->((b.zip xs).flatMap λp=>c p.1)=b.flatMap c:=by
 intro b;induction b with
 |nil=>intro _ _;kernel_rfl
 |cons a b d=>intro xs h;rcases xs with _|⟨x,xs⟩;exact absurd h (Nat.not_succ_le_zero _);exact Y qt<|Y fC<|Y fC<|Y (d xs (Nat.le_of_succ_le_succ h)) rfl
theorem Do{A:Type}{r:Row A}{n:Nat}:taken r n<=n-(r.front.length+r.behind.length):=tK _ _
theorem yc{A:Type}{r:Row A}{n:Nat}:taken r n<=r.opt.length:=tE _ _
theorem Kh{y f o g:Nat}(l:r.front.length+r.behind.length<=y)(a:f=r.front.length)(b:o=r.opt.length)(c:g=r.behind.length):(if((y:Int)- f- g)<o then((y:Int)- f- g)else(o:Int))=(taken r y:Nat):=by refine Y a<|Y b<|Y c ?_;delta taken;by_cases q:((y:Int)- r.front.length- r.behind.length)<r.opt.length;exact Y (if_pos q)<|aU [.le (U+u) J,.aR ((.c J)-(.c U)-(.c u)) (.c D)] (.cu ((.c J)-(.c U)-(.c u)) (.c (.mn D (J-(U+u))))) B l q;exact Y (if_neg q)<|aU [.le (U+u) J,.n (.aR ((.c J)-(.c U)-(.c u)) (.c D))] (.cu (.c D) (.c (.mn D (J-(U+u))))) B l q
inductive LH H₀ vi old t C H lc fs(a:Loc)H':Prop
 |mk (ha:a=lc) (s:Vs H₀ vi old t C H' fs) (x:Ext (ja vi) H H')
def nK(H₀:Hp)(r:Row (T d))ys:=(r.front.zip ys).flatMap λp=>bT H₀ false d p.1 p.2
def dJ(r:Row (T d))(ys:List V):=(r.opt.take (taken r ys.length)).zip (ys.drop r.front.length)
noncomputable def ga(l:List (aa×V)):=l.map λp=>(p.1,Bd.one p.2)
noncomputable def mq(r:Row (T d))(ys:List V):=r.behind.zip (ys.drop (ys.length- r.behind.length))
def pp(H₀:Hp)(r:Row (T d))ys:=(mq r ys).flatMap λp=>bT H₀ false d p.1 p.2
def fG(r:Row (T d))(ys:List V):=(ys.take (ys.length- r.behind.length)).drop (r.front.length+taken r ys.length)
theorem VY:cY false (bT H₀ false d) r ys=nK H₀ r ys++(ga (dJ r ys)++(eX r.rest (fG r ys)++pp H₀ r ys)):=by simp[cY,nK,ga,dJ,pp,mq,fG]
theorem RA(b:(a.map (·.1)++ba (aD d) r).Nodup)(c:a.length+(ba (aD d) r).length<=100):((a++cY false (bT H₀ false d) r ys).map (·.1)).Nodup/\(a++cY false (bT H₀ false d) r ys).length<=100:=by have k:=v_ (lX (H:=H₀) d) r ys;refine⟨qG (Y eF<|(il _).append k) b,?_⟩;have:=k.length_le;rw[bD]at this;exact Y bE<|aG (qD this _) c
theorem D6{q:aa}{bd:Bd}(h:((P++((q,bd)::R)).map (·.1)).Nodup/\(P++((q,bd)::R)).length<=100):q∉P.map (·.1)/\P.length<=100:=by rw[eF,bE]at h;exact⟨λa=>(n0.mp h.1).2.2 q a q (.head _) rfl,aG (eC _ _) h.2⟩
theorem RN{ys:List V}{a:List (aa×Bd)}(l:r.front.length<=ys.length)(b:(a.map (·.1)++ba (aD d) r).Nodup)(c:a.length+(ba (aD d) r).length<=100):(a.map (·.1)++(r.front.zip ys).flatMap λp=>aD d p.1).Nodup/\a.length+((r.front.zip ys).flatMap λp=>aD d p.1).length<=100:=by refine Y (Cg _ _ l) ?_;have k:(r.front.flatMap (aD d)).Sublist (ba (aD d) r):=tJ _ _;exact⟨qG ((il _).append k) b,aG (qD k.length_le _) c⟩
theorem Sy(l:r.behind.length<=(ys.drop (ys.length- r.behind.length)).length)(c:(a.map (·.1)++ba (aD d) r).Nodup)(e:a.length+(ba (aD d) r).length<=100)(f:P=a++(nK H₀ r ys++(ga (dJ r ys)++eX r.rest (fG r ys)))):(P.map (·.1)++(mq r ys).flatMap λp=>aD d p.1).Nodup/\P.length+((mq r ys).flatMap λp=>aD d p.1).length<=100:=by refine Y f ?_;delta mq;refine Y (Cg _ _ l) ?_;have k:((nK H₀ r ys++(ga (dJ r ys)++eX r.rest (fG r ys))).map (·.1)).Sublist (r.front.flatMap (aD d)++(r.opt++eY r.rest)):=Y eF<|Y eF<|Y Dt<|(rf (lX d) _ _).append (((zJ _ _).trans (wT _ _)).append (.refl _));have b:((nK H₀ r ys++(ga (dJ r ys)++eX r.rest (fG r ys))).map (·.1)++r.behind.flatMap (aD d)).Sublist (ba (aD d) r):=(k.append (tJ _ r.block.toList)).trans<|Y (by simp only[ba,cr]:ba (aD d) r=(r.front.flatMap (aD d)++(r.opt++eY r.rest))++(r.behind.flatMap (aD d)++r.block.toList))<|il _;refine⟨qG ?_ c,?_⟩;exact Y eF<|Y (cr _ _ _)<|(il _).append b;have:=b.length_le;rw[bE,bD]at this;exact Y bE<|aU [.le (J+U) 100,.le (u+D) U] (.le (J+u+D) 100) B e this
theorem NM{ys os:List V}(s:Vs H₀ b c t C H P)(l:H[i]? =some (.inst 198 (oG p1 o p3 w5 w6)))(p:H[o]? =some (.list os))(q:H[f]? =some (.list ys))(r:ys[m+j]? =some v)(w:os[j]? =some (.tup [.str g,x]))(y:Sz os)(A:Sz ys)(L:10<=H₀.length)(k:g∉P.map (·.1)/\P.length<=100)(h:∀a,Vs H₀ b c t C a (P++[(g,.one v)])->Ext [b] H a->Q (.go (jx (.ref 6) (.ref i) (.ref f) (.ref b) (.int (m:Nat)) w1 w2)) a):W (Ao n (jx (.ref 6) (.ref i) (.ref f) (.ref b) (.int (m:Nat)) w1 w2) (.int (j:Nat))) H Q:=W.eq (NI n _ _ _ _ _ _ _ _)<|W.add<|W.ek q r A<|W.attr l (by rfl) (by rfl) (by rfl)<|W.ek p w y<|W.jb (by rfl) rfl (by decide:(2)<=1000)<|s.put L k.2 k.1 ⟨rfl,rfl⟩ λa d e=>W.ret (h a d e)
theorem IX(R:sr d)(s:2*d+25<=n+2)(e:10<=b)(v:10<=H₀.length)(w:C+400<=1000000)(x:St b H₀ i (.inst 198 (oG p1 p2 A w5 w6)))(L:St b H₀ A (.list g))(l:Al (bL b H₀ d) g r.behind)(hy:∀y∈ys,VO b H₀ y)(ea:∀{H'},Ext (ja c) H H'->H'[ai]? =some (.list ys))(zg:Sz g)(sy:Sz ys)(s3:r.behind.length<=2)(lm:r.behind.length<=ys.length)(v3:Vs H₀ c k t C H P)(m:(P.map (·.1)++(mq r ys).flatMap λp=>aD d p.1).Nodup/\P.length+((mq r ys).flatMap λp=>aD d p.1).length<=100)(h:∀a,Vs H₀ c k t C a (P++pp H₀ r ys)->Ext (ja c) H a->Q w2 a):W (rD n (.int r.behind.length) (.ref 6) (.ref i) (.ref ai) (.ref c) w1 w2 (.int (ys.length- r.behind.length:Nat))) H Q:=by refine W.range<|EG R (ah [.le (.a (.m 2 J) (.k 25)) (.a U (.k 2))] (.le (.a (.m 2 J) (.k 23)) U) B s) e v (by delta mq;exact Y jG<|Y lQ<|ah [.le J U] (.eq (.mn J (.s U (.s U J))) J) B lm) (aG s3 (lb B)) (λj tt af H' P' ej x' hV hx=>?_) v3 m.1 m.2 w λa v4 x4=>?_;refine xE hV λaj s'=>xA (uf ej) λo f=>?_;rw[Xm]at f;have hj:=l.1▸(bR.mp o).1;have q:=bJ hj;exact W.eq (U4 n _ _ _ _ _ _ _ _ _)<|W.attr (s'.st e _ _ x).2 (by rfl) (by rfl) (by rfl)<|W.ek (s'.st e _ _ L).2 q zg<|W.add<|W.ek (ea x') f sy<|hx _ (l.2 j _ _ q o) (hy af (iT f));exact W.eq (Jr n _ _ _ _ _ _ _ _)<|W.ret (h a v4 x4)
theorem RM{C:Nat}{r:Row (T d)}(hn:2*d+25<=n+2)(hb:10<=b)(h0:10<=H₀.length)(k:10<=c)(hC:C+400<=1000000)(e0:St b H₀ i (.inst 198 (oG p1 p2 p3 (.str q) w6)))(ea:H[ai]? =some (.list ys))(sy:Sz ys)(l1:r.front.length+r.behind.length<=ys.length)(l:Vs H₀ c af t C H P)(y:q∉P.map (·.1)/\P.length<=100)(h:∀H',Vs H₀ c af t C H' (P++[(q,.rest (fG r ys))])->Ext (ja c) H H'->W (rD n w3 (.ref 6) (.ref i) (.ref ai) (.ref c) (.int (r.front.length:Nat)) (.int (taken r ys.length:Nat)) (.int (ys.length- r.behind.length:Nat))) H' Q):W (Ei n (.ref 6) (.int (r.front.length:Nat)) (.int (taken r ys.length:Nat)) (.ref ai) (.int (ys.length- r.behind.length:Nat)) (.ref i) (.ref c) w3) H Q:=by refine ad l.base λN2 B2 o2=>W.bF B2.cP (by rfl)<|W.add<|W.ub (a:=some ((r.front.length+taken r ys.length:Nat))) rfl rfl ea sy λj p g=>?_;have ez:=g.2.2.2;have tl:= @Do (T d) r ys.length;rw[O_ (by exact aU [.le (.a J U) u,.le D (.s u (.a J U))] (.le (.a J D) u) B l1 tl) (oi _ _)]at ez;have sz:Sz (fG r ys):=(by delta fG;rw[lQ,jK];exact aG (oi _ _) (aG (tK _ _) sy):_<=1000);have l3:=g.1.len;have lv:=ad l.at_ λes e m=>(bR.mp e).1;have aj:=y.2;refine W.listOf (ah [.le (.a (.m 2 U) (.k 25)) (.a J (.k 2))] (.le (.k 18) (.a J (.k 1))) B hn) (B2.dk g.1) (ah [.le (.a J (.k 400)) (.k 1000000),.le U (.k 100)] (.le (.a (.a J (.m 3 U)) (.k 3)) (.k 1000000)) B hC aj) ez (aG k (aG (dU lv) g.2.1)) sz λv ap s w x lt av x4 li=>?_;have A:=l.step g.1;have ax:=(A.st hb _ _ e0).2;refine ad A.at_ λa1 a0 f=>?_;have im:∀i o,St (c+1) p i o->St (c+1) s i o:=x4.st (by intro j hj;simp at hj;exact ah [.le (.k 10) U,.or (.eq J (.k 6)) (.eq J (.k 9))] (.lt J (.a U (.k 1))) B k hj);have L:=x4.get a0 (by simp;exact an [.le (.k 10) J] (.and (.n (.eq J (.k 6))) (.n (.eq J (.k 9)))) B k);have hi:=aG hb e0.1;refine W.attr (x4.get ax (by simp;exact an [.le (.k 10) J] (.and (.n (.eq J (.k 6))) (.n (.eq J (.k 9)))) B hi)) (by rfl) (by rfl) (by rfl) ?_;have ks:=Vs.keys (H₀:=H₀) (t:=t) (C:=C) f;refine W.ux L (by rw[fA,f.1];exact aG y.2 (lb B)) ?_;rw[uL (by rw[ks];exact y.1)];refine h _ ⟨(A.ext.trans x4).eM l.new,l.new,⟨w,?_,wO o2 (wO (Int.le_of_lt lt) av)⟩,_,eK L,?_⟩ ?_;refine(x.set k L λm q=>(by injection q)).mono ?_;rw[bE,jJ,oh];exact ah [] (.le (.a (.a J (.m 3 U)) (.k 3)) (.a J (.m 3 (.a U (.a (.k 0) (.k 1)))))) B;exact(f.mono λm m h=>e_.mono (jv (f9 _)) (e_.mono im h)).app (.one (fh rfl ap ((li.mono λm m q=>q.low (aG (Nat.succ_le_of_lt lv) l3)).mono (jv (f9 _))) (Int.lt_of_le_of_lt o2 lt)));exact(g.1.any.trans (x4.mono λi q=>by simp at q⊢;exact ah [.le (.k 10) U,.or (.eq J (.k 6)) (.eq J (.k 9))] (.or (.eq J (.k 6)) (.or (.eq J (.k 9)) (.eq J U))) B k q)).trans (.set (by simp))
theorem CZ(R:sr d):y_ d:=by
 refine λγ n b H₀ p v t C H L x r ai ys k Q hn hb h0 hp hy ea a0 l1 l2 s nd le hC hk=>xE (cB (n:=n) (ah [.le (.a (.m 2 U) (.k 25)) J] (.le (.k 2) J) B hn)) λn a4=>?_;subst a4;refine W.bd<|Y (TS _ _ _ _ _) ?_;obtain⟨i,p1,p2,p3,f,g,os,rfl,m,e1,e2,e3,a1,a3,a2,s1,s2,s3⟩:=hp;have hl:=aG h0 s.new;have av:ai≠p:=λq=>by refine ad s.at_ λes ev o0=>?_;rw[q,ev]at ea;have a5:=ao ea;injection a5
 have sy:Sz ys:=aG l2 (by decide);have l:∀{H'}{af},Vs H₀ p v t C H' af->∀{q}{o},St b H₀ q o->H'[q]? =some o:=λs' q o h=>(s'.st hb _ _ h).2;have ua:∀{H'},Ext (ja p) H H'->H'[ai]? =some (.list ys):=λx=>x.get ea (by simp;exact ah [.le (.k 10) J,.n (.eq J U)] (.and (.n (.eq J (.k 6))) (.and (.n (.eq J (.k 9))) (.n (.eq J U)))) B a0 av);have zf:Sz f:=aG (a1.1▸s1) (by decide);have zg:Sz g:=aG (a3.1▸s3) (by decide);have zo:Sz os:=aG (a2.1▸s2) (by decide);have lf:=aG (eC _ _) l1;have lb:=aG (qB _ _) l1;refine W.attr (l s m) (by rfl) (by rfl) (by rfl)<|W.len (l s e1) zf<|W.attr (l s m) (by rfl) (by rfl) (by rfl)<|W.len (l s e3) zg<|W.attr (l s m) (by rfl) (by rfl) (by rfl)<|W.len (l s e2) zo<|W.len ea sy<|W.sub<|W.sub<|W.min<|Y (Kh l1 a1.1 a2.1 a3.1)<|Y a1.1<|Y a3.1 ?_;have k1:=RN lf nd le;have kk:=RA (H₀:=H₀) (ys:=ys) nd le;rw[VY]at kk hk;refine W.range<|EG (n:=n) R (ah [.le (.a (.m 2 J) (.k 25)) (.a U (.k 2))] (.le (.a (.m 2 J) (.k 23)) U) B hn) hb h0 (Y jG<|qc lf) (aG s1 (by decide)) (λj tt a9 H' P ej x' hV hx=>?_) s k1.1 k1.2 hC λap v1 x1=>?_;refine xE hV λaf s'=>xA (uf ej) λq1 q2=>?_;have hj:=a1.1▸(bR.mp q1).1;have q3:=bJ hj;exact W.eq (U1 n _ _ _ _ _ _ _ _)<|W.attr (l s' m) (by rfl) (by rfl) (by rfl)<|W.ek (l s' e1) q3 zf<|W.ek (ua x') q2 sy<|hx _ (a1.2 j _ _ q3 q1) (hy a9 (iT q2));have v1:Vs H₀ p v t C ap (L++nK H₀ r ys):=v1;have A:=Sy (H₀:=H₀) (Y lQ<|ah [.le J U] (.le J (U-(U-J))) B lb) nd le rfl;generalize nK H₀ r ys=A1 at kk hk v1 A;refine W.eq (Jf n _ _ _ _ _ _ _)<|W.range ?_;have ol:(dJ r ys).length=taken r ys.length:=by have tl:= @Do (T d) r ys.length;have to:= @yc (T d) r ys.length;delta dJ;exact Y jG<|Y jK<|Y lQ<|cK [.le (D+aA) u,.le J (u-(D+aA)),.le J U] (.eq (.mn (.mn J U) (u-D)) J) B l1 tl to
 refine W.forR (λj a H'=>LH H₀ p v t C H (jx (.ref 6) (.ref i) (.ref ai) (.ref p) (.int (r.front.length)) (.int (r.behind.length)) (.int (taken r ys.length))) (L++(A1++ga ((dJ r ys).take j))) a H') (iR (@yc (T d) r ys.length) (iR s2 (by decide))) ⟨rfl,Y (rfl:ga ((dJ r ys).take 0)=[])<|Y (cV _)<|v1,x1⟩ (λj a H' hj I=>?_) λa w I=>?_;obtain⟨rfl,s',x'⟩:=I;have a6:=ol▸hj;have ep:=bJ a6;rcases hp:(dJ r ys)[j]with⟨ps,pv⟩;rw[hp]at ep;refine xA (uf ep) λq1 q2=>?_;rw[List.getElem?_take_of_lt hj]at q1;rw[Xm]at q2;have aj:=eS hj (a2.1▸@yc (T d) r ys.length);refine xE (a2.2 j _ _ (bJ aj) q1) λx ex=>?_;have ey:=bJ aj;rw[ex]at ey;have tk:(dJ r ys).take (j+1)=(dJ r ys).take j++[(ps,pv)]:=Y tI<|Y ep rfl;have dr:dJ r ys=(dJ r ys).take j++((ps,pv)::(dJ r ys).drop (j+1)):=ae hp<|Y (Id _)<|Y (qE _ _) rfl;refine NM s' (l s' m) (l s' e2) (ua x') q2 ey zo sy h0 (D6 (R:=ga ((dJ r ys).drop (j+1))++(eX r.rest (fG r ys)++pp H₀ r ys)) (bd:=.one pv) ?_) λa' a7 a8=>⟨rfl,?_,x'.trans (a8.mono λi q=>by refine Y (dW.mp q) ?_;simp)⟩;have e:L++(A1++ga ((dJ r ys).take j))++((ps,Bd.one pv)::(ga ((dJ r ys).drop (j+1))++(eX r.rest (fG r ys)++pp H₀ r ys)))=L++(A1++(ga (dJ r ys)++(eX r.rest (fG r ys)++pp H₀ r ys))):=by
  conv=>rhs;rw[dr]
  simp[ga]
 exact Y e<|kk;exact Y tk<|Y (show ga ((dJ r ys).take j++[(ps,pv)])=ga ((dJ r ys).take j)++[(ps,.one pv)]from eF)<|ae (cr _ _ _)<|ae (cr _ _ _)<|Y (cr L _ _)<|a7;obtain⟨rfl,y,x2⟩:=I;rw[qF (kA ol)]at y;generalize ga (dJ r ys)=A2 at kk hk y A;refine W.eq (JO n _ _ _ _ _ _ _)<|W.len (ua x2) sy<|W.sub<|Y (by exact ah [.le U J] (.cu ((.c J)-(.c U)) (.c (J-U))) B lb:((ys.length)- r.behind.length)=((ys.length- r.behind.length:Nat):Int)) ?_;have tail:∀c P,P=L++(A1++(A2++eX r.rest (fG r ys)))->Vs H₀ p v t C c P->Ext (ja p) H c->W (rD n (.int r.behind.length) (.ref 6) (.ref i) (.ref ai) (.ref p) (.int (r.front.length)) (.int (taken r ys.length)) (.int (ys.length- r.behind.length:Nat))) c (λa H'=>W (k a) H' Q):=λc P eP v3 x3=>IX R hn hb h0 hC m e3 a3 hy (λx=>ua (x3.trans x)) zg sy s3 lb v3 (eP▸A) λax v4 x4=>hk ax (by rw[eP]at v4;simpa[cr]using v4) (x3.trans x4);refine W.attr (l y m) (by rfl) (by rfl) qN<|W.bV<|W.truth<|Y jq ?_;rcases hr:r.rest with _|q;rw[hr]at tail;exact W.aQ rfl (tail w _ (Y (rfl:eX none (fG r ys)=[])<|Y (cV _) rfl) y x2);rw[hr]at m tail kk;refine W.bj rfl<|W.attr (l y m) (by rfl) (by rfl) (by rfl)<|W.kM<|W.truth<|W.aw (λhq=>?_) λhq=>tail w _ (Y (show eX (some q) (fG r ys)=[]from if_pos (by simpa using hq))<|Y (cV _) rfl) y x2;have hq:q≠"":=by simpa using hq
 rw[show eX (some q) (fG r ys)=[(q,.rest (fG r ys))]from if_neg hq]at tail kk;exact RM hn hb h0 hl hC m (ua x2) sy l1 y (D6 (bd:=.rest (fG r ys)) (by simpa[cr]using kk)) λH' v3 x3=>tail H' _ (by simp[cr]) v3 (x2.trans x3)
theorem Qq:∀d,sr d:=by
 intro b;induction b with
 |zero=>exact ER λf h=>(by injection h)
 |succ d c=>exact ER λe h=>by injection h with a;subst a;exact CZ (c)
theorem VB d:y_ d:=CZ (Qq d)
theorem vA{b c:Type}{f g:b->List c}(h:∀a,(f a).Perm (g a)):∀l:List b,(l.flatMap f).Perm (l.flatMap g):=by
 intro l
 induction l with
 |nil=>exact .refl _
 |cons a l d=>(refine Y fC<|Y fC ?_);exact(h a).append d
theorem BY{A:Type}{f g:A->V->List (aa×Bd)}(h:∀a v,(f a v).Perm (g a v))r xs:(cY true f r xs).Perm (cY false g r xs):=by
 delta cY
 skip
 simp only[if_true,if_false,ko,wR,cV]
 exact(vA (f:=λp:A×V=>f p.1 p.2) (g:=λp=>g p.1 p.2) (λp=>h p.1 p.2) _).append ((Bu _).append (Ig.trans ((Bu _).append (vA (f:=λp:A×V=>f p.1 p.2) (g:=λp=>g p.1 p.2) (λp=>h p.1 p.2) _))))
theorem D'{H:Hp}d a v:(bT H true d a v).Perm (bT H false d a v):=
 pd (P:=λd a=>∀v,(bT H true d a v).Perm (bT H false d a v)) (λb b b=>.refl _) (λb r c b=>BY c r _) d a v
theorem yD{d e:Type}(b c:List d)(ys:List e):(b++c).zip ys=b.zip ys++c.zip (ys.drop b.length):=by
 induction b generalizing ys with
 |nil=>rfl
 |cons a b f=>
 rcases ys with _|⟨y,ys⟩
 ·exact Hm.symm
 ·exact congrArg ((a,y)::·) (f ys)
inductive Sp d where
 |star
 |place (t:T d)
 |name (s:aa)
noncomputable def uI(b:Nat)(H:Hp)d(v:V)(s:Sp d):Prop:=match s with
 | .star=>v=.str "*"
 | .place t=>bK b H d v t
 | .name s=>v=.str s
noncomputable def dD(H:Hp)(late:Bool){d:Nat}(p:Sp d×V):List (aa×Bd):=match p.1 with
 | .star=>[]
 | .place t=>bT H late d t p.2
 | .name s=>[(s,.one p.2)]
noncomputable def fS{d:Nat}(p:Sp d×V):List V:=match p.1 with
 | .star=>[p.2]
 |_=>[]
noncomputable def d_{d:Nat}(s:Sp d):=match s with
 | .star=>[]
 | .place t=>aD d t
 | .name s=>[s]
noncomputable def dL{d:Nat}(r:Row (T d))(n:Nat):List (Sp d):=r.front.map .place++((r.opt.take (taken r n)).map .name++(dq (n-(r.front.length+r.behind.length)- taken r n) .star++r.behind.map .place))
theorem yr{A:Type}{r:Row A}{n:Nat}:taken r n<=r.opt.length/\taken r n<=n-(r.front.length+r.behind.length):=⟨tE _ _,tK _ _⟩
theorem ND{d:Nat}{r:Row (T d)}{n:Nat}(h:r.front.length+r.behind.length<=n):(dL r n).length=n:=by
 have:= @yr (T d) r n
 simp only[dL,bE,bD,iZ,jK]
 exact cK [.le (.a J aA) D,.and (.le U u) (.le U (.s D (.a J aA)))] (.eq (.a J (.a (.mn U u) (.a (.s (.s D (.a J aA)) U) aA))) D) B h this
theorem zY{H:Hp}{late:Bool}{d:Nat}{r:Row (T d)}{ys:List V}(h:r.front.length+r.behind.length<=ys.length):((dL r ys.length).zip ys).flatMap (dD H late)=(r.front.zip ys).flatMap (λp=>bT H late d p.1 p.2)++(((r.opt.take (taken r ys.length)).zip (ys.drop r.front.length)).map (λp=>(p.1,Bd.one p.2))++(r.behind.zip (ys.drop (ys.length- r.behind.length))).flatMap (λp=>bT H late d p.1 p.2))/\((dL r ys.length).zip ys).flatMap fS=(ys.take (ys.length- r.behind.length)).drop (r.front.length+taken r ys.length):=by
 have j:= @yr (T d) r ys.length;generalize k:taken r ys.length=f at*;have n:∀(c:List (T d))b,((c.map Sp.place).zip b).flatMap (dD H late)=(c.zip b).flatMap λp=>bT H late d p.1 p.2:=λc=>by induction c with
  |nil=>intro b;simp
  |cons a c e=>intro b;cases b with
  |nil=>simp
  |cons g b=>simp[e,dD]
 have o:∀(c:List (T d))(b:List V),((c.map Sp.place).zip b).flatMap fS=[]:=λc=>by induction c with
  |nil=>intro b;simp
  |cons a c e=>intro b;cases b with
  |nil=>simp
  |cons g b=>simp[e,fS]
 have q:∀(c:List aa)(b:List V),((c.map (Sp.name (d:=d))).zip b).flatMap (dD H late)=(c.zip b).map λp=>(p.1,Bd.one p.2):=λc=>by induction c with
  |nil=>intro b;simp
  |cons a c e=>intro b;cases b with
  |nil=>simp
  |cons g b=>simp[e,dD]
 have s:∀(c:List aa)(b:List V),((c.map (Sp.name (d:=d))).zip b).flatMap fS=[]:=λc=>by induction c with
  |nil=>intro b;simp
  |cons a c e=>intro b;cases b with
  |nil=>simp
  |cons g b=>simp[e,fS]
 have l:∀(m:Nat)(b:List V),((dq m (Sp.star (d:=d))).zip b).flatMap (dD H late)=[]/\((dq m (Sp.star (d:=d))).zip b).flatMap fS=b.take m:=λm=>by induction m with
  |zero=>intro b;simp
  |succ m e=>intro b;cases b with
  |nil=>simp
  |cons g b=>simp[qm,e,dD,fS]
 have i:((r.opt.take f).map (Sp.name (d:=d))).length=f:=by(refine Y (bD _) ?_;refine Y jK ?_);exact cK [.and (.le J U) (.le J (u-(D+aA)))] (.eq (.mn J U) J) B j
 unfold dL;(refine Y k ?_;refine Y (yD _ _ _) ?_;refine Y (yD _ _ _) ?_;refine Y (yD _ _ _) ?_;refine Y i ?_;refine Y (bD _) ?_;refine Y iZ ?_;refine Y Ih ?_;refine Y Ih ?_);simp only[jI,n,o,q,s,(l _ _).1,(l _ _).2,wR,cV];refine⟨?_,?_⟩;refine Y (by exact CS [.le (J+D) u,.eq aA U,.and (.le U bB) (.le U (u-(J+D))),.eq hN U] (.eq (J+U+(u-(J+D)-U)) (u-D)) B h k j i:r.front.length+f+(ys.length-(r.front.length+r.behind.length)- f)=ys.length- r.behind.length) rfl;(refine Y Xl ?_;refine Y (by exact cK [.eq aA D] (.eq (J-(U+u)-D) (J-u-(U+D))) B i:ys.length-(r.front.length+r.behind.length)- f=ys.length- r.behind.length-(r.front.length+f)) rfl)
theorem W.lS{γ:Type}{H:Hp}{k:V->M γ}{Q:γ->Hp->Prop}{i j:Nat}{xs ys:List V}(b:H[i]? =some (.list xs))(c:H[j]? =some (.list ys))(s:Sz xs)(h:∀q H',gA H (.list ((xs.zip ys).map λp=>V.tup [p.1,p.2])) q H'->W (k (.ref q)) H' Q):W ((X.lS (.ref i) (.ref j)).bd k) H Q:=
 W.st (H':=H++[.list ((xs.zip ys).map λp=>V.tup [p.1,p.2])]) (a:=.ref H.length) ((cn (gf b)).trans ((cn (gf c)).trans (Y (if_pos s.ok)<|rW (by(refine Y (bD _)<|Y jG ?_);exact aG (tE _ _) s.ok)))) (h _ _ .mk)
theorem W.laid{γ:Type}{n b d:Nat}{H:Hp}{k:V->M γ}{Q:γ->Hp->Prop}{v:V}{r:Row (T d)}{ai:Nat}{xs:List V}(hn:2<=n)(hr:c7 b H (bK b H d) v r)(ea:H[ai]? =some (.list xs))(l:xs.length<=10)(h:∀pi ps H',Ext [] H H'->H.length<=pi->H'[pi]? =some (.list ((ps.zip (bW r xs)).map λp=>V.tup [p.1,p.2]))->Al (uI b H d) ps (dL r (bW r xs).length)->W (k (.tup [.ref pi,.int (taken r (bW r xs).length:Nat)])) H' Q):W ((yQ n [v,.ref ai]).bd k) H Q:=by
 (refine xE (cB hn) λn y=>?_;refine Y y ?_);refine W.bd ?_;refine Y (NW _ _ _) ?_;have fl:= @r6 (T d) r xs;have fe:= @fit_le (T d) r xs hr.sm l;skip;obtain⟨i,o,j,f,g,rfl,e1,e2,e3,a1,a2,s1,C,s3⟩:=hr;have cj:∀{xs:List V},xs.length<=100->Sz xs:=λh=>aG h (lb B);have zf:f.length<=2:=by refine Y a1.1 ?_;exact s1
 have zg:g.length<=2:=by refine Y a2.1 ?_;exact s3
 have zo:(r.opt.map V.str).length<=2:=by refine Y (bD _) ?_;exact C
 skip;refine W.iG ?_;skip;refine W.len e1.2 (cj (by exact ar [_] [.le J (.k 2)] (.le J (.k 100)) B zf))<|W.len e3.2 (cj (by exact ar [_] [.le J (.k 2)] (.le J (.k 100)) B zg))<|W.add ?_;(refine Y a1.1 ?_;refine Y a2.1 ?_);skip;refine W.gx λi1 aj y1=>W.len (y1.1.g ea) (cj (by exact ar [_] [.le J (.k 10)] (.le J (.k 100)) B l))<|W.sub<|W.mulL y1.2.2.2 (by exact ar [_,_,_,_] [.le u (.k 10),.le (.a J U) D,.le D (.k 10),.le J (.k 2),.le U (.k 2)] (.and (.aR (.s (.a (.c J) (.c U)) (.c u)) (.k 1000)) (.aR (.g (.k 1000)) (.s (.a (.c J) (.c U)) (.c u)))) B l fl fe s1 s3) λi2 ap y2=>W.jX (y2.1.g (y1.1.g ea)) y2.2.2.2 (cj (by exact ar [_] [.le J (.k 10)] (.le J (.k 100)) B l)) (cj (by refine Y iZ ?_;exact ar [_,_,_,_,_] [.le u (.k 10),.le (.a J U) aA,.le aA (.k 10),.or (.cu (.c D) (.s (.a (.c J) (.c U)) (.c u))) (.and (.eq D (.k 0)) (.bC (.s (.a (.c J) (.c U)) (.c u)) (.k 0)))] (.le D (.k 100)) B l fl fe kL)) λi3 af y3=>?_;have x3:=(y1.1.trans y2.1).trans y3.1;have A:=y3.2.2.2;rw[show((r.front.length:Int)+r.behind.length- xs.length).toNat=r.front.length+r.behind.length- xs.length by exact ar [_,_,_,_] [.or (.cu (.c D) (.s (.a (.c J) (.c U)) (.c u))) (.and (.eq D (.k 0)) (.bC (.s (.a (.c J) (.c U)) (.c u)) (.k 0)))] (.eq D (.s (.a J U) u)) B kL]at A;have tail:∀q c,Ext [] H c->c[q]? =some (.list (bW r xs))->W (yV n (.ref q) (.int ((r.front.length:Int)+r.behind.length)) (.ref o) (.ref i) (.ref j)) c λa H'=>W (k a) H' Q:=by
  intro q c x4 e4;generalize hY:bW r xs=ys at*;have w:= @yr (T d) r ys.length;skip;refine W.len e4 (cj (by exact ar [_] [.le J (.k 10)] (.le J (.k 100)) B fe))<|W.sub ?_;skip;have e:((ys.length:Int)-((r.front.length:Int)+r.behind.length))=((ys.length-(r.front.length+r.behind.length):Nat):Int):=by exact ar [_,_,_] [.le (.a U u) J] (.cu (.s (.c J) (.a (.c U) (.c u))) (.c (.s J (.a U u)))) B fl
  refine Y e ?_;refine W.ub (a:=none) (b:=some ((ys.length-(r.front.length+r.behind.length):Nat):Int)) rfl rfl (x4.g e2.2) (cj (by exact ar [_] [.le J (.k 2)] (.le J (.k 100)) B zo)) λq5 av y5=>?_;have e5:=y5.2.2.2;rw[xq,<-Xj]at e5;have et:r.opt.take (ys.length-(r.front.length+r.behind.length))=r.opt.take (taken r ys.length):=by delta taken;rcases AM r.opt.length (ys.length-(r.front.length+r.behind.length))with q|q;(refine Y (qc q) ?_;refine Y (qF q) ?_;refine Y mR rfl);refine Y (AL q) rfl
  rw[et]at e5;have m:((r.opt.take (taken r ys.length)).map V.str).length=taken r ys.length:=by(refine Y (bD _) ?_;refine Y jK ?_);exact ar [_,_,_,_,_] [.and (.le J U) (.le J (.s u (.a D aA)))] (.eq (.mn J U) J) B w
  skip;refine W.jX ((x4.trans y5.1).g e1.2) e5 (cj (by exact ar [_] [.le J (.k 2)] (.le J (.k 100)) B zf)) (cj (by exact ar [_,_,_,_,_,_] [.le U (.k 2),.and (.le u U) (.le u (.s D (.a aA bB))),.eq J u] (.le J (.k 100)) B C w m)) λq6 ax y6=>W.gx λq7 a0 L=>W.len ((y6.1.trans L.1).g e5) (cj (by exact ar [_,_,_,_,_,_] [.le U (.k 2),.and (.le u U) (.le u (.s D (.a aA bB))),.eq J u] (.le J (.k 100)) B C w m))<|W.sub ?_;(refine Y m ?_;refine Y (by exact ar [_,_,_,_,_,_] [.and (.le D aA) (.le D (.s J (.a U u))),.cu (.s (.c J) (.a (.c U) (.c u))) (.c (.s J (.a U u))),.eq bB D] (.cu (.s (.c (.s J (.a U u))) (.c D)) (.c (.s (.s J (.a U u)) D))) B w e m:((ys.length-(r.front.length+r.behind.length):Nat):Int)-(taken r ys.length:Nat)=((ys.length-(r.front.length+r.behind.length)- taken r ys.length:Nat):Int)) ?_);refine W.mulL L.2.2.2 (by exact ar [_,_,_,_,_,_] [.le U (.k 2),.le aA (.k 2),.le u (.k 2),.le J (.k 10),.and (.le D aA) (.le D (.s J (.a U u))),.cu (.s (.c J) (.a (.c U) (.c u))) (.c (.s J (.a U u))),.eq bB D] (.and (.aR (.c (.s (.s J (.a U u)) D)) (.k 1000)) (.aR (.g (.k 1000)) (.c (.s (.s J (.a U u)) D)))) B s1 C s3 fe w e m) λq8 a3 y8=>W.jX ((L.1.trans y8.1).g y6.2.2.2) y8.2.2.2 (cj (by simp only[bE];exact ar [_,_,_,_,_,_,_] [.le u (.k 2),.le J (.k 2),.and (.le D u) (.le D (.s aA (.a bB hN))),.eq U D] (.le (.a J U) (.k 100)) B C zf w m)) (cj (by refine Y iZ ?_;exact ar [_,_,_,_] [.le J (.k 10)] (.le (.s (.s J (.a U u)) D) (.k 100)) B fe)) λq9 a4 y9=>?_;rw[WT]at y9;have x9:=(((x4.trans y5.1).trans y6.1).trans L.1).trans (y8.1.trans y9.1);refine W.jX y9.2.2.2 (x9.g e3.2) (cj (by simp only[bE,iZ];exact ar [_,_,_,_,_,_,_] [.le D (.k 2),.le aA (.k 2),.le J (.k 2),.le u (.k 10),.and (.le bB hN) (.le bB (.s u (.a D aA))),.cu (.s (.c u) (.a (.c D) (.c aA))) (.c (.s u (.a D aA))),.eq U bB] (.le (.a (.a J U) (.s (.s u (.a D aA)) bB)) (.k 100)) B s1 s3 zf fe w e m)) (cj (by exact ar [_] [.le J (.k 2)] (.le J (.k 100)) B zg)) λqa Ha ya=>W.lS ya.2.2.2 ((((y5.1.trans y6.1).trans (L.1.trans y8.1)).trans (y9.1.trans ya.1)).g e4) (cj (by simp only[bE,iZ];exact ar [_,_,_,_,_,_,_,_] [.le D (.k 2),.le aA (.k 2),.le J (.k 2),.le hN (.k 2),.le u (.k 10),.and (.le bB qW) (.le bB (.s u (.a D aA))),.cu (.s (.c u) (.a (.c D) (.c aA))) (.c (.s u (.a D aA))),.eq U bB] (.le (.a (.a (.a J U) (.s (.s u (.a D aA)) bB)) hN) (.k 100)) B s1 s3 zf zg fe w e m)) λqb Hb yb=>W.len ((((y6.1.trans L.1).trans y8.1).trans ((y9.1.trans ya.1).trans yb.1)).g e5) (cj (by exact ar [_,_,_,_,_,_] [.le U (.k 2),.and (.le u U) (.le u (.s D (.a aA bB))),.eq J u] (.le J (.k 100)) B C w m))<|W.ret ?_;refine Y m ?_;refine h qb _ Hb ((x9.trans ya.1).trans yb.1) (aG (aG x9.len ya.1.len) yb.2.1) yb.2.2.2 ?_;have al:Al (uI b H d) (f++((r.opt.take (taken r ys.length)).map V.str++(dq (ys.length-(r.front.length+r.behind.length)- taken r ys.length) (V.str "*")++g))) (dL r ys.length):=by have pl:∀{xs:List V}{ts:List (T d)},Al (bK b H d) xs ts->Al (uI b H d) xs (ts.map .place):=λa=>⟨by refine Y (bD _) ?_;exact a.1,λj x s ex e=>by rw[f_]at e;skip;(refine ad (ij.mp e) λt ht y=>?_;refine ae y ?_);skip;exact a.2 j x t ex ht⟩;refine(pl a1).app ((Al.map (f:=V.str) (g:=Sp.name) λs o0=>rfl).app (Al.app ⟨by simp,λj x s ex e=>?_⟩ (pl a2)));rw[List.getElem?_replicate]at ex e;split at ex;refine ae (ao ex) ?_;rw[if_pos (by assumption)]at e;refine ae (ao e) ?_;rfl;exact ns ex
  simpa[cr]using al
 skip;refine W.is<|W.truth ?_;refine Y jq ?_;skip;rcases hr:r.rest with _|q;refine W.bj rfl ?_;skip;refine W.len (x3.g e2.2) (cj (by exact ar [_] [.le J (.k 2)] (.le J (.k 100)) B zo))<|W.add ?_;refine Y (bD _) ?_;refine W.ub (a:=none) (b:=some ((r.front.length+r.behind.length+r.opt.length:Nat):Int)) rfl rfl A (cj (by simp only[bE,iZ];exact ar [_,_,_,_] [.le J (.k 10),.le (.a U u) D,.le D (.k 10)] (.le (.a J (.s (.a U u) J)) (.k 100)) B l fl fe)) λq4 c y4=>tail q4 c (x3.trans y4.1) ?_;(refine Y y4.2.2.2 ?_;refine Y xq ?_);delta bW;skip;refine Y (if_pos hr) rfl;refine W.aQ rfl (tail i3 af x3 ?_);refine Y A ?_;delta bW;skip;refine Y (if_neg (by refine Y hr ?_;simp)) rfl
theorem W.Vw{bz:V->M γ}(Inv:Nat->Loc->Hp->Prop)(g:∀j a H,Inv j a H->H[i]? =some (.dict b))(l:Inv 0 a H)(dX:∀j e a H,b[j]? =some e->Inv j a H->W (mb a (.str e.1) e.2) H (fT (Inv (j+1)) λc c=>False))(h:∀a H,Inv b.length a H->W (f a) H Q):W ((M.sJ (.jO i) a mb).bd (M.cg bz f)) H Q:=by
 have n:∀k j a H,j+k=b.length->Inv j a H->W (M.pM i b.length mb (k+1) j a) H (fT (Inv b.length) λc c=>False):=by
  intro k;induction k with
  |zero=>intro j a H e d;have e:j=b.length:=ah [.eq (J+0) U] (.eq J U) B e;subst e;exact W.st (j0 (g _ a H d))<|Y (if_pos rfl)<|Y (ik (aS _))<|W.ret d
  |succ k p=>intro j a H e d;have m:j<b.length:=aL [.eq (J+(u+1)) U] (.lt J U) B e;refine W.st (j0 (g j a H d))<|Y (if_pos rfl)<|Y (bJ m)<|W.bd (W.fI ((dX j _ a H (bJ m) d).mono λo H' q=>?_));rcases o with r|s;exact p (j+1) r H' (aL [.eq (J+(U+1)) u] (.eq (J+1+U) u) B e) q;exact q.elim
 exact pJ (W.st (j0 (g 0 a H l)) (n b.length 0 a H (an [] (.eq (0+J) J) B) l)) h λc c q=>q.elim
def cJ(b:Nat)(H:Hp)(e:aa×V)(f:aa×Bd):=e.1=f.1/\match f.2 with
 | .one x=>e.2=.tup [.str "one",x]
 | .rest a=>∃j,e.2=.tup [.str "rest",.ref j]/\St b H j (.list a)
theorem cJ.mono(s:∀i o,St b H i o->St b' H' i o)(h:cJ b H e f):cJ b' H' e f:=by obtain⟨k,x⟩:=f;rcases x with x|c;exact h;exact sP h λa j e st=>(fh a j e (s _ _ st))
theorem cJ.keys(c:Al (cJ b H) d f):d.map (·.1)=f.map (·.1):=by refine s8 λj=>?_;rw[f_,f_];by_cases a:j<d.length;have e:=c.1▸a;rw[bJ a,bJ e];exact congrArg some (c.2 j _ _ (bJ a) (bJ e)).1;rw[ik (by exact ah [.n (.lt U J)] (.le J U) B a),ik (by rw[<-c.1];exact ah [.n (.lt U J)] (.le J U) B a)];rfl
def rT d:=∀(γ)(n b)(H)(v)(r)(a)(xs)(k)(Q:γ->Hp->Prop),d+4<=n->c7 b H (bK b H d) v r->VN (ba (aD d) r)->(ba (aD d) r).Nodup->(ba (aD d) r).length<=100->H[a]? =some (.list xs)->xs.length<=10->(∀x∈xs,VO b H x)->(∀c e H',Ext [] H H'->St H.length H' c (.dict e)->Al (cJ H.length H') e (cY true (bT H true d) r (bW r xs))->W (k (.tup [.ref c,.int (taken r (bW r xs).length)])) H' Q)->W ((uh n [v,.ref a]).bd k) H Q
theorem SC:∀i,i<100->dp i≠"*":=by decide+kernel
theorem W.z7{bd:Bd}(e:H[a]? =some (.dict c))(d:Al (cJ b H) c f)(i:f.length<=100)(g:a<b)(j:q∉f.map (·.1))(l:cJ b H (q,v) (q,bd))(h:∀H',Ext [a] H H'->H'[a]? =some (.dict (c++[(q,v)]))->Al (cJ b H') (c++[(q,v)]) (f++[(q,bd)])->W (k ()) H' Q):W ((X.setItem (.ref a) (.str q) v).bd k) H Q:=W.ux e (Y fA<|Y d.1<|an [.le J (.k 100)] (.le J (.k 16777216)) B i)<|Y (uL (Y (cJ.keys d)<|j))<|h _ (.set (.head _)) (eK e) ((d.mono λm m=>cJ.mono (jv g)).app (.one (cJ.mono (jv g) l)))
theorem u8(p:Sp d×V):(dD H true p).Perm (dD H false p):=by unfold dD;rcases p.1 with _|t|s;exact .refl _;exact D' d t _;exact .refl _
theorem xh(p:Sp d×V):((dD H false p).map (·.1)).Sublist (d_ p.1):=by delta dD d_;rcases p.1 with _|t|s;exact .refl _;exact lX d t _;exact .refl _
theorem PO{r : Row (T d)}: ((dL r n).flatMap d_).Sublist (r.front.flatMap (aD d) ++ (r.opt ++ r.behind.flatMap (aD d))) := by
  have e : ∀ b : List (T d), (b.map Sp.place).flatMap d_ = b.flatMap (aD d) := λb => by induction b with
    | nil => rfl
    | cons a b c => simp [c, d_]
  have f : ∀ b : List aa, (b.map (Sp.name (d := d))).flatMap d_ = b := λb => by induction b with
    | nil => rfl
    | cons a b c => simp [c, d_]
  have g : ∀ m, (dq m (Sp.star (d := d))).flatMap d_ = [] := λm => by induction m with
    | zero => rfl
    | succ m c => simp [qm, c, d_]
  skip
  exact Y jI<|Y jI<|Y jI<|Y (e _)<|Y (e _)<|Y (f _)<|Y (g _)<|Y (wR _)<|(il _).append ((wT _ _).append (.refl _))
theorem yK{r:Row A}(h:∀a,∀x∈xs,f a x=g a x):cY late f r xs=cY late g r xs:=by
 have d:∀(c:List A)(b),(∀x∈b,x∈xs)->(c.zip b).flatMap (λp=>f p.1 p.2)=(c.zip b).flatMap λp=>g p.1 p.2:=λc b hz=>Y wQ<|Y wQ ?_;congr 1;exact List.map_congr_left λp e=>h p.1 p.2 (hz _ (qj e).2)
 unfold cY;dsimp only;exact Y (d r.front xs λx q=>q)<|Y (d r.behind _ λx q=>qH q) rfl
theorem FL(s:∀i o,St b H i o->St b H' i o)c(e:VO b H v):bT H' late d c v=bT H late d c v:=by refine pd (P:=λd c=>∀v,VO b H v->bT H' late d c v=bT H late d c v) (λf f f f=>rfl) (λd r g v e=>?_) d c v e;refine(?_:cY late (bT H' late d) r (bW r (Internal.parts H' v))=cY late (bT H late d) r (bW r (Internal.parts H v)));exact Y (e.k6 s)<|yK λa x h=>g a x (l6 VO.none e.parts.2 x h)
structure l_ H fi ri H' fs zs:Prop where
 ext:Ext [] H H'
 new:H.length<=fi/\fi<ri
 fo:∃es,H'[fi]? =some (.dict es)/\Al (cJ (ri+1) H') es fs
 re:H'[ri]? =some (.list zs)
structure se H lc(pi fi ri:Nat)ls fs zs(a:Loc)(H':Hp):Prop where
 ha:a=lc
 ep:H'[pi]? =some (.list ls)
 inv:l_ H fi ri H' fs zs
inductive zD lc fi b H₆ fs(a:Loc)H':Prop
 |mk (ha:a=lc) (x:Ext [fi] H₆ H') (es) (e:H'[fi]? =some (.dict es)) (al:Al (cJ b H') es fs)
theorem zD.ext(h:zD e d b c f a H'):Ext [d] c H':=by obtain⟨_,x,_⟩:=h;exact x
theorem W.yp(a:c7 b H' c v r)(h:W (k (cS r.rest)) H Q):W ((X.item aZ v (.int 2)).bd k) H Q:=by obtain⟨i,o,j,f,g,rfl,_⟩:=a;exact W.jb (by rfl) rfl (by decide:(5)<=1000) h
theorem l_.lt(I:l_ H b c H' d e):H.length<=b/\b<c:=by obtain⟨_,a,_⟩:=I;exact a
theorem Dm(I:l_ H d e H' f i)(j:H'[c]? =some (.list k))(l:c≠d/\c≠e)(s:aa)(m:f.length<=100)(o:s∉f.map (·.1))(p:s≠"*"):W (xz n (.str s) (.ref e) y v (.ref q) (.ref c) w (.ref d)) H' (fT (se H (gX v (.ref q) (.ref c) w (.ref d) (.ref e)) c d e k (f++[(s,.one y)]) i) λr r=>False):=by obtain⟨ext,a,⟨C,t,x⟩,A⟩:=I;exact W.iM<|W.truth<|W.aQ (by simpa using p)<|W.z7 t x m (Ii a.2) o ⟨rfl,rfl⟩ λL b g h=>W.ret ⟨rfl,b.get j (g9 (ch l.1)),⟨(ext.any.trans b).drop a.1,a,(ak _ g h),b.get A (g9 (gN a.2))⟩⟩
theorem Un(I:l_ H c d H' i h)(j:H'[b]? =some (.list k))(l:b≠c/\b≠d)(hz:h.length<=10):W (xz n (.str "*") (.ref d) y v (.ref m) (.ref b) w (.ref c)) H' (fT (se H (gX v (.ref m) (.ref b) w (.ref c) (.ref d)) b c d k i (h++[y])) λe e=>False):=by obtain⟨ext,a,⟨g,o,p⟩,f⟩:=I;exact W.iM<|W.truth<|W.bj (by rfl)<|W.c8 f<|W.append f (aG hz (lb B))<|W.ret ⟨rfl,gK (ch l.2) j,⟨ext.eM (aG a.1 (dU a.2)),a,(ak g (gK (ch (gN a.2)) o) (p.mono λe e=>cJ.mono (jv (f9 _)))),eK f⟩⟩
theorem yg{s:aa}{x:Bd}(h:((a++[(s,x)]).map (·.1)).Nodup):s∉a.map (·.1):=λq=>by rw[eF]at h;exact(n0.mp h).2.2 s q s (.head _) rfl
theorem Le(H:((g++d).map (·.1)).Nodup)(le:g.length+d.length<=100)(hb:f<b)(e6:c[f2]? =some (.dict L))(ne:f≠f2)(a6:Al (cJ b c) L d)(ef:c[f]? =some (.dict k))(af:Al (cJ b c) k g)(h:∀e es,Ext [f] c e->e[f]? =some (.dict es)->Al (cJ b e) es (g++d)->Q (.go (gX v (.ref ai) (.ref pi) w (.ref f) (.ref ri))) e):W ((M.sJ (.jO f2) (pZ v (.ref ai) (.ref pi) w (.ref f) (.ref ri) aj y) λl a b=>yy n l [a,b]).bd (M.cg (λax=>M.ret (.ret ax)) (Az n))) c Q:=by
 refine W.Vw (λq=>zD (pZ v (.ref ai) (.ref pi) w (.ref f) (.ref ri) aj y) f b c (g++d.take q)) (λq a e h=>h.ext.get e6 (g9 ne)) ⟨rfl,.refl,k,ef,Y List.take_zero<|(cV g).symm▸af⟩ (λq p a e eq x=>?_) λa e x=>?_;obtain⟨A,s,m,C,t⟩:=x;refine Y A<|ad (a6.at_ eq) λbd eb r=>W.eq (Py n _ _ _ _ _ _ _ _ _ _) ?_;have tq:d.take (q+1)=d.take q++[bd]:=Y tI<|Y eb ?_;rfl;obtain⟨bk,bv⟩:=bd;obtain⟨pk,a0⟩:=p;obtain rfl:pk=bk:=r.1;have ap:(g++d.take q).length<=100:=by have:(d.take q).length<=d.length:=Y jK<|tK _ _;exact Y bE<|aL [.le (J+U) 100,.le u U] (.le (J+u) 100) B le this
 have nk:=yg<|Y (cr _ _ _)<|ae tq<|qG (((il _).append (wT _ _)).map _) H;refine W.z7 C t ap hb nk (cJ.mono (λi o q=>q.ext s (λj hj=>Y (dW.mp hj)<|hb)) r) λav x8 e8 a8=>W.ret ⟨rfl,s.trans x8,_,e8,?_⟩;exact Y tq<|ae (cr _ _ _)<|a8;obtain⟨A,s,m,C,t⟩:=x;refine Y A ?_;rw[a6.1,mR]at t;exact W.eq (IJ n _ _ _ _ _ _ _ _)<|W.ret (h _ m s C t)
theorem RQ(R:rT e)(hn:e+1+4<=n+2)(hs:c7 b H (bK b H e) p g)(vy:VO b H y)(aj:VN (ba (aD e) g))(ap:(ba (aD e) g).Nodup)(I:l_ H A C H' fs zs)(ep:H'[m]? =some (.list ls))(pf:m≠A/\m≠C)(r:fs.length+(ba (aD e) g).length<=100)(s:dD H true (Sp.place (d:=e+1) (.inr g),y)=h)(av:((fs++h).map (·.1)).Nodup):W (G2 n y p v (.ref ai) (.ref m) w (.ref A) (.ref C)) H' (fT (se H (gX v (.ref ai) (.ref m) w (.ref A) (.ref C)) m A C ls (fs++h) zs) λl l=>False):=by have ax:h.length<=(ba (aD e) g).length:=ae s ?_;have h1:=(xh (H:=H) (Sp.place (d:=e+1) (.inr g),y)).length_le;rw[bD]at h1;exact Y ((u8 (Sp.place (d:=e+1) (.inr g),y)).length_eq)<|h1;obtain⟨ext,c,⟨a3,ef,af⟩,er⟩:=I;refine xE (vy.mono (bf ext)) λdd a0=>W.sF (ah [.le (U+1+4) (J+2)] (.le 2 (J+1)) B hn) a0<|Y (vy.k6 (bf ext))<|xA vy.parts λpl pv=>?_;have j:Ext [] H' (H'++[O.list (parts H y)]):=.new;have e5:(H'++[O.list (parts H y)])[H'.length]? =some (.list (parts H y)):=gV;generalize H'++[O.list (parts H y)]=k at j e5⊢;have L:=ext.trans j;refine R _ (n+1) b k p g H'.length (parts H y) _ _ (ah [.le (J+1+4) (U+2)] (.le (J+4) (U+1)) B hn) (c7.mono hs (bf L) λl l=>bK.mono (bf L)) aj ap (aG (qB _ _) r) e5 pl (λx hx=>(pv x hx).mono (bf L)) λf2 a4 a2 x6 Q a6=>?_;rw[show cY true (bT k true e) g (bW g (parts H y))=h from(yK λa x hx=>FL (bf L) a (l6 VO.none pv x hx)).trans s]at a6;refine W.jb (by rfl) rfl (by decide:(2)<=1000)<|W.md Q.2<|W.st ((cn (j0 Q.2)).trans rfl) ?_;have f:=j.trans x6;have t:=eS (bR.mp er).1 j.len;exact Le av (aG (qD ax _) r) (Ii c.2) Q.2 (gN (eS (s6 c.2 t) Q.1)) (a6.mono λl l=>cJ.mono λi o q=>q.low t) (f.g ef) (af.mono λl l=>cJ.mono (bf f)) λa5 a1 x7 e7 a7=>⟨rfl,x7.get (f.g ep) (g9 (ch pf.1)),⟨((ext.trans f).any.trans x7).drop c.1,c,(ak a1 e7 a7),x7.get (f.g er) (g9 (gN c.2))⟩⟩
theorem DP(h:VN l)(m:s∈l):s≠"*":=ad (h s m) λq b a=>Y a<|SC q b
theorem SH(R:∀e,d=e+1->rT e)(A:d+4<=n+2)(h:uI b H d a c)(C:VO b H y)(f:VN (d_ c))(r:(d_ c).Nodup)(I:l_ H k l H' p t)(m:H'[i]? =some (.list L))(o:i≠k/\i≠l)(j:p.length+(d_ c).length<=100)(hz:t.length<=10)(g:((p++dD H true (c,y)).map (·.1)).Nodup):W (xI n (gX v (.ref Q) (.ref i) w (.ref k) (.ref l)) [a,y]) H' (fT (se H (gX v (.ref Q) (.ref i) w (.ref k) (.ref l)) i k l L (p++dD H true (c,y)) (t++fS (c,y))) λo0 o0=>False):=by refine W.eq (Pu n _ _ _ _ _ _ _ _) ?_;have x:=aG (eC _ _) j;rcases c with _|q|s;obtain rfl:a=.str "*":=h;exact Y (rfl:dD H true (Sp.star,y)=[])<|Y (cV _)<|W.bu (by kernel_rfl)<|W.truth<|W.aQ rfl<|Un I m o hz;refine Y (rfl:fS (Sp.place q,y)=[])<|Y (cV _) ?_;rcases d with _|e;exact nomatch q;rcases q with s|r2;obtain rfl:a=.str s:=h.1;exact W.bu (by kernel_rfl)<|W.truth<|W.aQ rfl<|Dm I m o s x (yg g) (DP f (.head _));exact W.bu (by obtain⟨i',o',j',f',g',e',_⟩:=h;subst e';kernel_rfl)<|W.truth<|W.bj rfl<|RQ (R e rfl) A h C f r I m o j rfl g;obtain rfl:a=.str s:=h;exact Y (rfl:fS (Sp.name s,y)=[])<|Y (cV _)<|W.bu (by kernel_rfl)<|W.truth<|W.aQ rfl<|Dm I m o s x (yg g) (DP f (.head _))
theorem PZ(l:List (Sp d×V)):((l.flatMap (dD H false)).map (·.1)).Sublist (l.flatMap λp=>d_ p.1):=by induction l with
 |nil=>exact .refl _
 |cons p l a=>exact Y fC<|Y fC<|Y eF<|(xh p).append a
theorem Qd(c:List (Sp d)):∀b:List V,c.length<=b.length->((c.zip b).flatMap λp=>d_ p.1)=c.flatMap d_:=by induction c with
 |nil=>intro b _;simp
 |cons a c e=>intro b h;cases b with
 |nil=>simp at h
 |cons f b=>exact Y qt<|Y fC<|Y fC<|Y (e b (by simpa using h)) rfl
theorem Kz(l:List (Sp d×V)):(l.flatMap fS).length<=l.length:=by induction l with
 |nil=>exact aS _
 |cons p l a=>
 refine Y fC<|Y bE<|Y jJ ?_;have:(fS p).length<=1:=by delta fS;rcases p.1<;>simp
 exact aL [.le U u,.le J 1] (.le (J+U) (u+1)) B a this
inductive NX H(ns:List aa)(L:List (Sp d×V))(sp:Sp d)y:Prop
 |mk (nd:(d_ sp).Nodup) (le:(L.flatMap (dD H true)).length+(d_ sp).length<=100) (ndk:((L.flatMap (dD H true)++dD H true (sp,y)).map (·.1)).Nodup) (zl:(L.flatMap fS).length<=L.length) (sub:∀s∈d_ sp,s∈ns)
theorem Rd{ns:List aa}{a:Sp d}(sn:((L++(a,y)::R).flatMap λp=>d_ p.1).Sublist ns)(h:ns.Nodup)(i:ns.length<=100):NX H ns L a y:=by rw[jI,fC]at sn;have b:=vA (u8 (H:=H)) L;have c:=PZ (H:=H) L;have e:=sn.nodup h;have f:=sn.length_le;have g:=c.length_le;rw[bE,bE]at f;rw[bD]at g;refine .mk (n0.mp (n0.mp e).2.1).1 (mZ [.le J 100,.le (U+(u+D)) J,.eq aA bB,.le bB U] (.le (aA+u) 100) B i f b.length_eq g) ?_ (Kz L) λs j=>sn.subset (j9 _ (mG _ j));refine((b.append (u8 _)).map _).nodup_iff.mpr (qG ?_ e);exact Y eF<|c.append ((xh (a,y)).trans (tJ _ _))
def nD(H:Hp)(r:Row (T d))ys:=(r.front.zip ys).flatMap (λp=>bT H true d p.1 p.2)++(((r.opt.take (taken r ys.length)).zip (ys.drop r.front.length)).map (λp=>(p.1,Bd.one p.2))++(r.behind.zip (ys.drop (ys.length- r.behind.length))).flatMap (λp=>bT H true d p.1 p.2))
def ue(r:Row (T d))(ys:List V):=(ys.take (ys.length- r.behind.length)).drop (r.front.length+taken r ys.length)
theorem Jm:cY true (bT H true d) r ys=nD H r ys++eX r.rest (ue r ys):=by delta cY nD ue;simp only[if_true,wR,cr]
theorem RL{d:Nat}{H:Hp}{r:Row (T d)}{ys:List V}{q:aa}(c:r.front.length+r.behind.length<=ys.length)(a:(ba (aD d) r).Nodup)(b:(ba (aD d) r).length<=100)(i:r.rest=some q)(h:q≠""):q∉(nD H r ys).map (·.1)/\(nD H r ys).length<=100:=by have pm:(nD H r ys).Perm _:=(zY c).1▸vA (u8) ((dL r ys.length).zip ys);have e:((((dL r ys.length).zip ys).flatMap (dD H false)).map (·.1)).Sublist (r.front.flatMap (aD d)++(r.opt++r.behind.flatMap (aD d))):=Y ((zY c).1)<|Y eF<|Y eF<|(rf (lX d) _ _).append (((zJ _ _).trans (wT _ _)).append (rf (lX d) _ _));delta ba at a b;rw[i,show eY (some q)=[q]from if_neg h]at a b;have f:(r.front.flatMap (aD d)++(r.opt++([q]++(r.behind.flatMap (aD d)++r.block.toList)))).Perm ((r.front.flatMap (aD d)++(r.opt++r.behind.flatMap (aD d)))++([q]++r.block.toList)):=Y (cr _ _ _)<|Y (cr _ _ _)<|(Bu _).append ((Bu _).append ?_);exact ae (cr _ _ _)<|ae (cr _ _ _)<|Ig.append (.refl _);refine⟨λj=>(n0.mp ((f.nodup_iff).mp a)).2.2 q (e.subset ((pm.map _).mem_iff.mp j)) q (.head _) rfl,?_⟩;have g:=e.length_le;rw[bD]at g;exact ar [_,_,_,_,_] [.le J (.k 100),.eq J (.a U u),.le D U,.eq aA D] (.le aA (.k 100)) B b (f.length_eq.trans bE) g pm.length_eq
theorem BT(R:∀e,d=e+1->rT e):rT d:=by
 refine λγ n b H v r ai xs k Q hn hr vn nd le ea lx hx hk=>xE (cB (n:=n) (ah [.le (U+4) J] (.le 2 J) B hn)) λn t=>?_;subst t;refine W.bd<|Y (Jg _ _ _) ?_;have fl:= @r6 (T d) r xs;have fe:= @fit_le (T d) r xs hr.sm lx;have fv:=l6 (r:=r) VO.none hx;refine W.laid (ah [.le (U+4) (J+2)] (.le 2 (J+1)) B hn) hr ea lx λpi ps a7 x1 a9 ep al=>W.iC ?_;generalize bW r xs=ys at fl fe fv ep al hk⊢;refine W.gx λg a8 C=>W.gx λri av y3=>?_;have i0:l_ H g ri av [] []:=⟨(x1.trans C.1).trans y3.1,⟨aG x1.len C.2.1,eS C.2.2.1 y3.2.1⟩,(ak [] (y3.1.g C.2.2.2) .nil),y3.2.2.2⟩;have p1:=eS (bR.mp ep).1 C.2.1;refine W.Lc (λj=>se H (gX v (.ref ai) (.ref pi) (.int (taken r ys.length)) (.ref g) (.ref ri)) pi g ri ((ps.zip ys).map λp=>V.tup [p.1,p.2]) ((((dL r ys.length).zip ys).take j).flatMap (dD H true)) ((((dL r ys.length).zip ys).take j).flatMap fS)) (λl l l h=>h.ep) ⟨rfl,(C.1.trans y3.1).g ep,i0⟩ (λj x a H' ex hI=>?_) λa H' hI=>?_;obtain⟨ha,aj,I⟩:=hI;refine Y ha ?_;rw[f_]at ex;refine ad (ij.mp ex) λt ez a0=>?_;obtain⟨a',y⟩:=t;subst a0;refine xA (uf ez) λq1 q2=>ad (al.at_ q1) λsp es hs=>?_;have w:((dL r ys.length).zip ys)[j]? =some (sp,y):=HY.mpr ⟨es,q2⟩;have hj:=(bR.mp w).1;have eg:=ao ((bJ hj).symm.trans w);have dr:(dL r ys.length).zip ys=((dL r ys.length).zip ys).take j++((sp,y)::((dL r ys.length).zip ys).drop (j+1)):=ae eg<|Y (Id _)<|Y (qE _ _) rfl;have sn:(((dL r ys.length).zip ys).flatMap λp=>d_ p.1).Sublist (ba (aD d) r):=Y (Qd _ _ (kA (ND fl)))<|PO.trans ((il _).append ((il _).append ((List.sublist_append_right _ _).trans ((il _).append (tJ _ _)))));rw[dr]at sn;refine W.bd (W.ret ?_);obtain⟨n2,l2,k2,z2,s2⟩:=Rd sn nd le;refine Y (Y tI<|Y w rfl:((dL r ys.length).zip ys).take (j+1)=((dL r ys.length).zip ys).take j++[(sp,y)])<|Y jI<|Y jI<|Y fC<|Y fC<|Y Ie<|Y Ie<|Y (cV _)<|Y (cV _)<|SH R hn hs (fv y (iT q2)) (vn.sub s2) n2 I aj ⟨gN p1,gN (s6 p1 i0.lt.2)⟩ l2 (aG z2 ?_) k2;exact Y jK<|Y jG<|aG (tK _ _) (aG (tK _ _) fe);obtain⟨ha,aj,I⟩:=hI;refine Y ha ?_;have lz:((ps.zip ys).map λp=>V.tup [p.1,p.2]).length=((dL r ys.length).zip ys).length:=Y (bD _)<|Y jG<|Y jG<|Y al.1 rfl;refine xA (zY (H:=H) (late:=true) fl) λa1 a2=>?_;rw[lz,mR,show((dL r ys.length).zip ys).flatMap (dD H true)=nD H r ys from a1,show((dL r ys.length).zip ys).flatMap fS=ue r ys from a2]at I;rw[Jm]at hk;have nq:= @RL d H r ys;generalize nD H r ys=A at hk I nq;generalize ue r ys=ax at hk I;obtain⟨ext,f,⟨a3,ef,af⟩,er⟩:=I;refine W.eq (T5 n _ _ _ _ _ _)<|W.yp hr<|W.bV<|W.truth<|Y jq ?_;have ap:∀{c}i o,St (g+1) c i o->St H.length c i o:=λi o q=>q.low (Nat.le_succ_of_le f.1);have m:∀{c}i o,St (ri+1) c i o->St (g+1) c i o:=λi o q=>q.low (kq (dU f.2));have s:eX r.rest ax=[]->W (k (.tup [.ref g,.int (taken r ys.length)])) H' Q:=λe=>hk g a3 H' ext ⟨f.1,ef⟩<|Y e<|Y (cV _)<|af.mono λl l=>cJ.mono λi o q=>ap i o (m i o q);rcases L:r.rest with _|q;exact W.aQ rfl<|W.ret (s (by refine Y L ?_;rfl));refine W.bj rfl<|W.yp hr<|Y L<|W.kM<|W.truth<|W.aw (λh=>?_) λh=>W.ret (s (Y L<|if_pos (by simpa using h)));have h:q≠"":=by simpa using h
 exact W.yp hr<|Y L<|xA (nq fl nd le L h) λn1 l1=>W.z7 (bd:=.rest ax) ef (af.mono λl l=>cJ.mono m) l1 (f9 _) n1 (fh rfl ri rfl ⟨f.2,er⟩) λc a4 a5 a6=>W.ret<|hk g _ c ((ext.any.trans a4).drop f.1) ⟨f.1,a5⟩<|Y (Y L<|if_neg h:eX r.rest ax=[(q,.rest ax)])<|a6.mono λl l=>cJ.mono ap
theorem Oh:∀d,rT d:=by
 intro b;induction b with
 |zero=>exact BT λf h=>(by injection h)
 |succ d c=>exact BT λe h=>by injection h with a;subst a;exact c
def WX(m:M a)(H:Hp)(Q:V->Hp->Prop):=∃x H',m H=some (.ex x,H')/\Q x H'
theorem WX.rP(h:W m H λa H'=>WX (k a) H' Q):WX (m.bd k) H Q:=bZ h λa H' e b=>bZ b λx c d q=>(bQ x c (by unfold M.bd;exact Y e<|d) q)
theorem WX.De(h:WX m H Q):WX (m.bd k) H Q:=bZ h λx H' e q=>(bQ x H' (by unfold M.bd;exact Y e rfl) q)
theorem W.run(f:∀{k:c->M c}{Q},W (k v) H' Q->W (m.bd k) H Q):W m H λa b=>a=v/\b=H':=by have:=f (Q:=λa b=>a=v/\b=H') (W.ret ⟨rfl,rfl⟩);rwa [mC]at this
theorem WX.of{m:M b}(f:∀{k}{Q:b->Hp->Prop},W (k v) H' Q->W (m.bd k) H Q)(h:WX (k v) H' Q):WX (m.bd k) H Q:=WX.rP ((W.run f).mono λa g c=>xA c λd e=>Y d<|Y e<|h)
theorem W.ask(f:∀{k:b->M b}{Q},(∀a H',P a H'->W (k a) H' Q)->W (m.bd k) H Q):W m H P:=by have:=f λa H' h=>W.ret h;rwa [mC]at this
theorem WX.bj(a:b=true)(h:WX x H Q):WX (M.aw b x y) H Q:=Y a<|h
theorem WX.aQ(a:b=false)(h:WX y H Q):WX (M.aw b x y) H Q:=Y a<|h
theorem WX.eq(e:m=a)(h:WX a H Q):WX m H Q:=e▸h
noncomputable def bad (a l : Nat) (m : Option Nat):= decide (a < l) || (match m with | some x => decide (x < a) | none => false)
def jy a l m:=("wrong number of arguments (given ")++fP a++", expected "++cnt l m++")"
theorem W.E_{a l:Nat}{p:M V}(e:a<100)(g:l<100/\∀x,m=some x->l<=x/\x<100)(f:∀{k},W (k (.str (cnt l m))) H Q->W (p.bd k) H Q)(h:W (k (.str (jy a l m))) H Q):W ((X.str (.int (a:Int))).bd λj=>(X.add (.str "wrong number of arguments (given ") j).bd λn=>(X.add n (.str ", expected ")).bd λo=>p.bd λq=>(X.add o q).bd λr=>(X.add r (.str ")")).bd k) H Q:=by
 have b:=lA e;have i:=Du g.1 λx s=>(g.2 x s).2;have c:("wrong number of arguments (given ":aa).length<=40:=by decide
 have d:(", expected ":aa).length<=40:=by decide
 have t:(")":aa).length<=40:=by decide
 exact W.str (kI (dU e) rfl)<|W.fk (ah [.le U 10,.le J 40] (.le (J+U) 1000) B b c)<|W.fk (Y (fM _ _)<|aL [.le U 10,.le J 40,.le u 40] (.le (J+U+u) 1000) B b c d)<|f<|W.fk (by rw[fM,fM];exact aU [.le U 10,.le D 30,.le J 40,.le u 40] (.le (J+U+u+D) 1000) B b i c d)<|W.fk (by rw[fM,fM,fM];exact cK [.le U 10,.le D 30,.le J 40,.le u 40,.le aA 40] (.le (J+U+u+D+aA) 1000) B b i c d t) h
theorem W.rO(d:2<=n)(b:bad a l m=false)(h:W (k .none) H Q):W ((l8 n [.ref 6,.int (a:Int),.int (l:Int),dI m]).bd k) H Q:=by refine xE (cB d) λn c=>Y c ?_;unfold bad at b;rw[Bv]at b;refine W.bd<|Y (C8 _ _ _ _ _)<|W.lt<|W.truth<|W.aQ (by simpa using(of_decide_eq_false b.1))<|W.bV<|W.truth ?_;rcases m with _|x;exact W.aQ rfl<|W.ret h;exact W.bj rfl<|W.gt<|W.truth<|W.aQ (by simpa using(of_decide_eq_false b.2))<|W.ret h
inductive rt H(ti:Nat)txt:Prop
 |mk (fs) (ow) (mi) (gs) (e1:H[ti]? =some (.inst 362 fs)) (g1:bg "owner" fs=some ow) (mo:jS H ow "ArgumentError") (g2:bg "message" fs=some (.ref mi)) (e2:H[mi]? =some (.inst 243 gs)) (g3:bg "text" gs=some (.str txt))
theorem rt.ext(h:rt H c b)(a:∀{i:Nat}{o},H[i]? =some o->H'[i]? =some o):rt H' c b:=by obtain⟨d,f,g,j,k,l,m,n,p,q⟩:=h;exact⟨d,f,g,j,a k,l,m.ext λi o r e r=>a e,n,a p,q⟩
inductive Told H(x:V)txt:Prop
 |mk (i j) (es) (ti) (ex:x=.ref i) (e:H[i]? =some (.exc 71 (some j) true)) (ej:H[j]? =some (.bG es)) (g:bg "thing" es=some (.ref ti)) (er:rt H ti txt)
inductive Qb H t C txt(v:V)H':Prop
 |mk (ti) (N') (ev:v=.ref ti) (B:Base H' t C N') (x:Ext [6,9] H H') (er:rt H' ti txt)
theorem W.Qt(m:3<=n)(h:W (k (.ref H.length)) (H++[.exc 71 (some (H.length+1)) false,.bG [("reason",.str "a Ruby error"),("thing",.ref a)]]) Q):W ((M.su 71 (vI n) [.ref a]).bd k) H Q:=by
 refine xE (jh m) λn b=>Y b ?_;have d:(H++[O.exc 71 none false])[H.length]? =some (.exc 71 none false):=gV;have g:O.stored (H++[O.exc 71 none false]) H.length (H++[O.exc 71 none false])[H.length]? "reason" (.str "a Ruby error")=some (H++[.exc 71 (some (H.length+1)) false,.bG [("reason",.str "a Ruby error")]]):=Y d<|(?_:some (((H++[O.exc 71 none false]).set H.length _)++_)=_);simp
 have o:X.setAttr aC "reason" (.ref H.length) (.str "a Ruby error") (H++[.exc 71 none false])=some (.ok (),H++[.exc 71 (some (H.length+1)) false,.bG [("reason",.str "a Ruby error")]]):=by refine(?_:(match O.cls (H++[O.exc 71 none false])[H.length]? with|some C=>if aC C "reason"then(match O.stored (H++[O.exc 71 none false]) H.length (H++[O.exc 71 none false])[H.length]? "reason" (.str "a Ruby error")with|some H'=>some (Rs.ok (),H')|none=>none)else none|none=>none)=_);refine Y g<|Y d ?_;rfl
 have p:(H++[O.exc 71 (some (H.length+1)) false,.bG [("reason",.str "a Ruby error")]])[H.length]? =some (.exc 71 (some (H.length+1)) false):=by simp
 have q:(H++[O.exc 71 (some (H.length+1)) false,.bG [("reason",.str "a Ruby error")]])[H.length+1]? =some (.bG [("reason",.str "a Ruby error")]):=by simp
 have i:O.stored (H++[O.exc 71 (some (H.length+1)) false,.bG [("reason",.str "a Ruby error")]]) H.length (some (.exc 71 (some (H.length+1)) false)) "thing" (.ref a)=some (H++[.exc 71 (some (H.length+1)) false,.bG [("reason",.str "a Ruby error"),("thing",.ref a)]]):=by refine(?_:(match(H++[O.exc 71 (some (H.length+1)) false,.bG [("reason",.str "a Ruby error")]])[H.length+1]? with|some (.bG l)=>if l.length<=1000 then some (List.set (H++[O.exc 71 (some (H.length+1)) false,.bG [("reason",.str "a Ruby error")]]) (H.length+1) (O.bG (cc "thing" (.ref a) l)))else none|_=>none)=_);refine Y q<|(?_:some (List.set _ _ _)=_);refine Y (WL _ _ (eC _ _))<|Y (og _ _) ?_;rfl
 have s:X.setAttr aC "thing" (.ref H.length) (.ref a) (H++[.exc 71 (some (H.length+1)) false,.bG [("reason",.str "a Ruby error")]])=some (.ok (),H++[.exc 71 (some (H.length+1)) false,.bG [("reason",.str "a Ruby error"),("thing",.ref a)]]):=by refine(?_:(match O.cls (H++[O.exc 71 (some (H.length+1)) false,.bG [("reason",.str "a Ruby error")]])[H.length]? with|some C=>if aC C "thing"then(match O.stored (H++[O.exc 71 (some (H.length+1)) false,.bG [("reason",.str "a Ruby error")]]) H.length (H++[O.exc 71 (some (H.length+1)) false,.bG [("reason",.str "a Ruby error")]])[H.length]? "thing" (.ref a)with|some H'=>some (Rs.ok (),H')|none=>none)else none|none=>none)=_);refine Y p<|Y i ?_;rfl
 have c:W (vI (n+1+2) [.ref H.length,.ref a]) (H++[.exc 71 none false]) λr H'=>r=.none/\H'=H++[.exc 71 (some (H.length+1)) false,.bG [("reason",.str "a Ruby error"),("thing",.ref a)]]:=Y (U_ _ _ _)<|W.bd<|Y (rfl:n+1+1=n+2)<|Y (JV _ _ _)<|W.st (by skip;exact M.gD (f:=λH'=>(O.An H'[H.length]?).bind λC=>if d9 C then some V.none else none) (by skip;refine Y d ?_;rfl))<|W.st o<|W.ret<|W.st s<|W.ret ⟨rfl,rfl⟩
 refine fQ c λr H' e b j=>?_;subst b;subst j;refine W.st ?_ h;refine(?_:(if[V.ref a].length<=100 then _ else _:M V) H=_);refine Y (if_pos (gj rfl)) ?_;delta M.bd M.alloc;dsimp only;refine Y e ?_;rfl
theorem WX.rO(b:40<=n)(L:Base H t C N)(hC:C+20<=1000000)(hb:bad a l m=true)(hl:l<100/\∀x,m=some x->l<=x/\x<100)(hm:a<100)(h:∀x H' N',Base H' t (C+20) N'->Ext [6,9] H H'->Told H' x (jy a l m)->Q x H'):WX (l8 n [.ref 6,.int (a:Int),.int (l:Int),dI m]) H Q:=by
 refine xE (cB (an [.le 40 J] (.le 2 J) B b)) λn af=>?_;subst af;refine Y (C8 _ _ _ _ _) ?_;have l1:=lA hm;have l2:=Du hl.1 λx hx=>(hl.2 x hx).2;have c1:("wrong number of arguments (given ").length<=40:=by decide
 have c2:(", expected ").length<=40:=by decide
 have c3:(")").length<=40:=by decide
 have c:WX (sf n (.int (a)) (.int (l)) (dI m) (.ref 6)) H Q:=by
  refine WX.of (W.str (kI (dU (by assumption)) rfl))<|WX.of (W.fk (ah [.le U 10,.le J 40] (.le (J+U) 1000) B l1 c1))<|WX.of (W.fk (Y (fM _ _)<|aL [.le U 10,.le J 40,.le u 40] (.le (J+U+u) 1000) B l1 c1 c2))<|WX.of (W.C7 (an [.le 40 (J+2)] (.le 2 (J+1)) B b) hl.1 hl.2)<|WX.of (W.fk (by rw[fM,fM];exact aU [.le U 10,.le D 30,.le J 40,.le u 40] (.le (J+U+u+D) 1000) B l1 l2 c1 c2))<|WX.of (W.fk (by rw[fM,fM,fM];exact cK [.le U 10,.le D 30,.le J 40,.le u 40,.le aA 40] (.le (J+U+u+D+aA) 1000) B l1 l2 c1 c2 c3))<|(?_:WX (C6 n (.ref 6) (.str (jy a l m))) H Q);refine WX.of (W.bF L.cP (by rfl))<|WX.De ?_;obtain⟨n,rfl⟩:∃q,n=q+1:=⟨n- 1,an [.le 40 (J+2)] (.eq J (J-1+1)) B b⟩;refine WX.eq (U2 _ _ _ _)<|WX.of (W.bF L.cP (by rfl))<|WX.rP ((W.ask (P:=Qb H t (C+20) (jy a l m)) λ{k Q}hk=>?_).mono λv H' hv=>?_);refine W.bd ?_;obtain⟨n,rfl⟩:∃q,n=q+1:=⟨n- 1,an [.le 40 (J+1+2)] (.eq J (J-1+1)) B b⟩;refine Y (QE _ _ _ _)<|W.bF L.cP (by rfl)<|W.number (an [.le 40 (J+1+1+2)] (.le 2 (J+1)) B b) L λp d r=>W.bF d.cP (by rfl)<|To _ (n+1) p t C _ _ _ (an [.le 40 (J+1+1+2)] (.le 20 (J+1)) B b) d (an [.le (J+20) 1000000] (.le (J+7) 1000000) B hC) λow ax a0 f ap s mo=>W.bF f.cP (by rfl)<|W.text (an [.le 40 (J+1+1+2)] (.le 18 (J+1)) B b) f (an [.le (J+20) 1000000] (.le (J+7+3) 1000000) B hC) λmi gs a2 a3 a1 w y av g a4 A eg=>W.mkError (an [.le 40 (J+1+1+2)] (.le 3 J) B b)<|W.ret ?_;subst eg;have ai:=((r.mono λi q=>by rcases ca.mp q with rfl|q;exact .head _;rcases q).trans s).trans g;refine hk _ _ ⟨_,w,rfl,(y.dk .hU).mono (an [] (.le (J+7+3) (J+20)) B),ai.trans (Ext.hU).any,⟨_,ow,mi,_,by simp;rfl,by rfl,?_,by rfl,fE A,by rfl⟩⟩;exact(mo.ext λi o hi e o0=>g.get e (by simp;exact an [.le 10 J] (.and (.n (.eq J 6)) (.n (.eq J 9))) B hi)).ext λi o o0 e o0=>fE e;obtain⟨j,N',rfl,B',x',aj⟩:=hv;refine WX.of (W.Qt (an [.le 40 (J+1+2)] (.le 3 J) B b)) ?_;have er:(H'++[O.exc 71 (some (H'.length+1)) false,.bG [("reason",.str "a Ruby error"),("thing",.ref j)]])[H'.length]? =some (.exc 71 (some (H'.length+1)) false):=by simp
  have ej:(H'++[O.exc 71 (some (H'.length+1)) false,.bG [("reason",.str "a Ruby error"),("thing",.ref j)]])[H'.length+1]? =some (.bG [("reason",.str "a Ruby error"),("thing",.ref j)]):=by simp
  have up:∀{i:Nat}{o:O},H'[i]? =some o->((H'++[O.exc 71 (some (H'.length+1)) false,.bG [("reason",.str "a Ruby error"),("thing",.ref j)]]).set H'.length (.exc 71 (some (H'.length+1)) true))[i]? =some o:=λ{i o}e=>gK (by have:=(bR.mp e).1;exact ah [.lt U J] (.n (.eq J U)) B this) (fE e);refine(bQ (.ref H'.length) ((H'++[O.exc 71 (some (H'.length+1)) false,.bG [("reason",.str "a Ruby error"),("thing",.ref j)]]).set H'.length (.exc 71 (some (H'.length+1)) true)) ?_ (h _ _ N' ?_ ?_ ⟨H'.length,H'.length+1,_,j,rfl,eK er,gK (an [] (.n (.eq J (J+1))) B) ej,by rfl,aj.ext up⟩));refine(?_:(O.raised d9 _ H'.length (H'++[O.exc 71 (some (H'.length+1)) false,.bG [("reason",.str "a Ruby error"),("thing",.ref j)]])[H'.length]?).map _=_);refine Y er ?_;rfl;exact(B'.dk .hU).set (by have:=B'.len;exact an [.le 50 J] (.le 10 J) B this) er λo0 q=>(by injection q);exact(x'.trans (Ext.hU).any).eM x'.len
 unfold bad at hb;refine WX.of W.lt<|WX.of W.truth ?_;by_cases q:a<l;exact WX.bj (by simpa using q) c;refine WX.aQ (by simpa using q) ?_;rw[gR]at hb;rcases m with _|x;simp[q]at hb;exact WX.of W.bV<|WX.of W.truth<|WX.bj rfl<|WX.of W.gt<|WX.of W.truth<|WX.bj (by simpa using(by simpa[q]using hb)) c
theorem En(h:bad xs.length (bq r) (b_ r)=false):bW r xs=xs:=by unfold bad at h;rw[Bv]at h;have b:=of_decide_eq_false h.1;have a:=h.2;unfold bW;dsimp only;refine Y (by unfold bq at b;exact aL [.n (.lt u (J+U))] (.eq (J+U-u) 0) B b:r.front.length+r.behind.length- xs.length=0) ?_;split;rename_i c;rw[show b_ r=some (bq r+r.opt.length) by unfold b_;refine Y c ?_;rfl]at a;have a:=of_decide_eq_false a;rw[List.replicate_zero,cV,qF];unfold bq at a;exact aU [.n (.lt (U+u+D) J)] (.le J (U+u+D)) B a;simp
def fY(H : Hp) (r : Row A) (s : Bool)xs:= if s then xs else (sW xs).elim xs λx => if cI H x && decide (1 < gh r) then parts H x else xs
theorem VO.bu(h:VO b H v):X.jc ci (.ref 263) (v.ty H)=some (.bool (cI H v)):=xE h λa h=>h.bu
theorem VO.r9(h:VO b H v)(o:cI H v=true):∃i c j xs,v=.ref i/\H[i]? =some (.inst 263 c)/\bg "items" c=some (.ref j)/\H[j]? =some (.list xs)/\Internal.parts H v=xs/\xs.length<=10:=by
 refine xE h λd h=>?_;have e:¬Atom b H v:=λa=>by have:=a.cases (P:=λv=>cI H v=false) rfl (λl=>rfl) (λl=>rfl) (λl=>rfl) λi c m h g=>kQ h.2;exact ft (this.symm.trans o)
 rcases d with _|d;exact absurd h e;rcases h with a|⟨m,xs,n,p,_⟩;exact absurd a e;refine fW (id n) λi c j f k=>?_;subst f;exact cW k λq t r s=>(pK i c j xs rfl (mW q.2 r s.2 n.parts p))
theorem VO.Ak(h : VO b H v) (s : ∀ i o, St b H i o -> St b H' i o) : cI H' v = cI H v := by
  obtain ⟨d, h⟩ := h
  have e : Atom b H v -> cI H' v = cI H v := λa => by
    rw [show cI H v = false from a.cases (P := λv => cI H v = false) rfl (λc => rfl) (λc => rfl) (λc => rfl) λi f m h g => kQ h.2,
      show cI H' v = false from (a.mono s).cases (P := λv => cI H' v = false) rfl (λc => rfl) (λc => rfl) (λc => rfl) λi f m h g => kQ h.2]
  rcases d with _ | d
  · exact e h
  · rcases h with a | ⟨m, l, ⟨i, f, j, rfl, k, _⟩, _⟩
    · exact e a
    · exact (kQ (s _ _ k).2).trans (kQ k.2).symm
structure qY b d H t C N p r(ai:Nat)xs:Prop where
 base:Base H t C N
 hb:10<=b
 par:cH b H (bL b H d) p r
 vn:VN (ba (aD d) r)
 nd:(ba (aD d) r).Nodup
 le:(ba (aD d) r).length<=100
 args:H[ai]? =some (.list xs)
 lx:xs.length<=10
 vo:∀x∈xs,VO b H x
 hC:C+400<=1000000
theorem BR(A:qY b d H t C f p r o xs)(i:2*d+24<=n)(s:Vs H c f t C H' [])(e:H'[g]? =some (.list ys))(j:10<=g)(k:r.front.length+r.behind.length<=ys.length)(l:ys.length<=10)(m:∀y∈ys,VO b H y)(h:∀a,Vs H c f t C a (cY false (bT H false d) r ys)->Q (.tup [.ref c,.int (taken r ys.length:Nat)]) a):W (xG n (.ref 6) p (.ref g) (.ref c)) H' Q:=by refine VB d _ (n+1) b H c f t C H' [] p r g ys _ _ (ah [.le ((.m 2 J)+24) U] (.le ((.m 2 J)+25) (U+1)) B i) A.hb (by have:=A.base.len;exact an [.le 50 J] (.le 10 J) B this) A.par m e j k l s (by simpa using A.nd) (by simpa using A.le) A.hC λa s' q=>W.ret (h a ?_);simpa using s'
theorem qY.start(A:qY b d H t C e p r g xs)(x:Ext [] H a)(y:gA a (.dict []) f c):Vs H f e t C c []:=⟨(x.trans y.1).any,aG x.len y.2.1,⟨e,(A.base.dk (x.trans y.1)).mono (eC _ _),mQ _⟩,[],y.2.2.2,.nil⟩
theorem W.bind(g : 2 * d + 40 <= n) (A : qY b d H t C N p r ai xs) (hs : s = true -> bad xs.length (bq r) (b_ r) = false)
    (h : ∀ L H', Vs H L N t C H' (cY false (bT H false d) r (bW r (fY H r s xs))) -> W (k (.tup [.ref L, .int (taken r (bW r (fY H r s xs)).length : Nat)])) H' Q) : W ((l4 n [.ref 6, p, .ref ai, .bool s]).bd k) H Q := by
  refine xE (cB (n := n) (ah [.le (.a (.m 2 U) (.k 40)) J] (.le (.k 2) J) B g)) λn f => ?_; subst f
  refine W.bd<|Y (FB _ _ _ _ _) ?_
  have bl := A.base.len
  have sx : Sz xs := aG A.lx (by decide)
  refine W.oy A.args sx λq1 aj y1 => W.gx λL m y2 => ?_
  have v2 := A.start y1.1 y2
  have l := y1.1.trans y2.1
  have e2 := y2.1.g y1.2.2.2
  have p2 := cH.mono A.par (bf l) λo0 o0 => bL.mono (bf l)
  have lq : 10 <= q1 := by have := y1.2.1; exact aL [.le (.k 50) U, .le u (.k 1000), .le U J] (.le (.k 10) J) B bl sx this
  skip
  refine W.truth <| W.aw (λo => ?_) (λo => ?_)
  · skip
    subst o
    have bd := hs rfl
    have sp : fY H r true xs = xs := rfl
    rw [sp, En bd] at h
    refine W.len e2 sx <| W.nz (ah [.le (.a (.m 2 U) (.k 40)) (.a J (.k 2))] (.le (.k 2) (.a J (.k 1))) B g) p2 <| W.rq (ah [.le (.a (.m 2 U) (.k 40)) (.a J (.k 2))] (.le (.k 3) (.a J (.k 1))) B g) p2 <| W.rO (ah [.le (.a (.m 2 U) (.k 40)) (.a J (.k 2))] (.le (.k 2) (.a J (.k 1))) B g) bd <| BR A (ah [.le (.a (.m 2 J) (.k 40)) (.a U (.k 2))] (.le (.a (.m 2 J) (.k 24)) U) B g) v2 e2 lq ?_ A.lx A.vo λv s' => h L v s'
    have := @r6 (T d) r xs
    rw [En bd] at this; exact this
  · subst o
    have tail : ∀ qi ys c, Ext [] m c -> c[qi]? = some (.list ys) -> 10 <= qi -> ys.length <= 10 -> (∀ y ∈ ys, VO b H y) -> fY H r false xs = ys -> W (sH n (.ref qi) p (.ref 6) (.ref L)) c λa H' => W (k a) H' Q := by
      intro qi ys c x3 e3 hq l3 hy es
      rw [es] at h
      skip
      have w := l.trans x3
      exact W.Dc (ah [.le (.a (.m 2 U) (.k 40)) (.a J (.k 2))] (.le (.k 4) (.a J (.k 1))) B g) (cH.mono A.par (bf w) λo0 o0 => bL.mono (bf w)) e3 l3 λj ap x4 e4 hj =>BR A (ah [.le (.a (.m 2 J) (.k 40)) (.a U (.k 2))] (.le (.a (.m 2 J) (.k 24)) U) B g) ((v2.step x3).step x4) e4 (by rcases hj with rfl | hj; exact hq; have := w.len; exact aL [.le (.k 50) U, .le u J, .le U u] (.le (.k 10) J) B bl hj this) r6 (fit_le A.par.sm l3) (l6 VO.none hy) λv s' => h L v s'
    have gr:= λe => tail q1 xs m .refl e2 lq A.lx A.vo e
    skip
    refine W.len e2 sx <| W.jf <| W.truth <| W.aw (λh1 => ?_) (λh1 => ?_)
    · have h1 : xs.length = 1 := by have := bI h1; exact an [.cu (.c J) (.k 1)] (.eq J (.k 1)) B this
      refine xE (Xn.mp h1) λx f => ?_; subst f
      · have vx := A.vo x (.head _)
        have sp : fY H r false [x] = if cI H x && decide (1 < gh r) then parts H x else [x] := rfl
        skip
        skip
        refine W.item e2 (by rfl) rfl sx <| W.bu (vx.mono (bf l)).bu <| W.truth<|Y (vx.Ak (bf l)) ?_
        rcases q : cI H x with _ | _
        · exact W.aQ rfl (gr (by refine Y sp<|Y q ?_; rfl))
        · refine W.bj rfl ?_
          skip
          refine W.V4 (ah [.le (.a (.m 2 U) (.k 40)) (.a J (.k 2))] (.le (.k 3) (.a J (.k 1))) B g) p2 <| W.gt <| W.truth <| W.aw (λhp => ?_) λhp => gr ?_
          · have hp : 1 < gh r := by have := of_decide_eq_true hp; exact an [.aR (.k 1) (.c J)] (.lt (.k 1) J) B this
            skip
            refine eZ (vx.r9 q) λi es j zs f af => ?_; subst f; refine hZ af λg1 g2 g3 g4 g5 => ?_
            skip
            skip
            refine W.item e2 (by rfl) rfl sx <| W.attr (l.g g1) g2 (by rfl) (by rfl) <| W.oy (l.g g3) (aG g5 (by decide)) λq3 c y3 =>tail q3 zs c y3.1 y3.2.2.2 (by have := l.len; have := y3.2.1; exact cK [.le (.k 50) U, .le (.k 10) u, .lt (.k 1) D, .le U aA, .le aA J] (.le (.k 10) J) B bl lq hp (by assumption) this) g5 (by have := vx.parts.2; rw [g4] at this; exact this)<|Y sp<|Y q<|Y g4<|Y (decide_eq_true hp) ?_; rfl
          · skip
            refine Y sp<|Y q<|Y (decide_eq_false (by have := of_decide_eq_false hp; exact an [.n (.aR (.k 1) (.c J))] (.n (.lt (.k 1) J)) B this)) ?_; rfl
    · refine gr<|(?_ : (sW xs).elim xs (λx => if cI H x && decide (1 < gh r) then parts H x else xs) = xs)
      exact Y (PY λe => tf ((beq_iff_eq.mpr (congrArg Int.ofNat e)).symm.trans h1)) rfl
theorem WX.bind(e:45<=n)(A:qY b d H t C N p r s xs)(w:bad xs.length (bq r) (b_ r)=true)(h:∀x H' g,Base H' t (C+20) g->Ext [6,9] H H'->Told H' x (jy xs.length (bq r) (b_ r))->Q x H'):WX (l4 n [.ref 6,p,.ref s,.bool true]) H Q:=by refine xE (cB (n:=n) (an [.le 45 J] (.le 2 J) B e)) λn a=>?_;subst a;have bl:=A.base.len;have i:Sz xs:=aG A.lx (lb B);refine WX.eq (FB _ _ _ _ _)<|WX.rP ((W.ask (P:=λv H'=>∃q,v=.ref q/\gA H (.list xs) q H') λhk=>W.oy A.args i λq H' y=>hk _ _ (ak q rfl y)).mono λv c j=>?_);refine ad j λq1 a l=>?_;subst a;refine WX.rP ((W.ask (P:=λv H'=>∃q,v=.ref q/\gA c (.dict []) q H') λhk=>W.gx λq H' y=>hk _ _ (ak q rfl y)).mono λv o j=>?_);refine ad j λvi a m=>?_;subst a;have f:=l.1.trans m.1;have k:=cH.mono A.par (bf f) λL L=>bL.mono (bf f);exact WX.of W.truth<|WX.bj rfl<|WX.of (W.len (m.1.g l.2.2.2) i)<|WX.of (W.nz (an [.le 45 (J+2)] (.le 2 (J+1)) B e) k)<|WX.of (W.rq (an [.le 45 (J+2)] (.le 3 (J+1)) B e) k)<|WX.De<|WX.rO (an [.le 45 (J+2)] (.le 40 (J+1)) B e) (A.base.dk f) (an [.le (J+400) 1000000] (.le (J+20) 1000000) B A.hC) w (rQ k) (by have:=A.lx;exact an [.le J 1000,.le J 10] (.lt J 100) B i this) λx H' g B' x' T=>h x H' g B' (f.any.trans x') T
def yY n:=lF false (λa=>M.bad) n
def uG n:=nj (ev TT (kW false (yY n).c) false (pN (λa=>M.bad) (yY n).e2) 60) (au 29) []
theorem Mm{call:ay->Option (List V->M V)}{mt:Option Mt}(h:uz s.ps.length df vs=some fvs):nj (ev TT call hi mt 60) s df vs=kS TT call hi mt 60 V s.scope.names (s.ps.zip fvs) s.body M.ret λa=>M.ret .none:=by unfold nj;refine Y h<|Bq ?_ ((Fz 60).S V _ _ _ _ _).symm;refine(?_:((ev TT call hi mt 60).S s.scope.names (s.ps.zip fvs) s.body).bd (λo=>M.ret o.val)=_);exact congrArg _ (funext λo=>by rcases o<;>rfl)
def Qo(v:V):M V:=(X.attr aC "is_class" v).bd λa=>(M.truth a).bd λb=>M.aw b (M.ret (.str "#<Class>")) (M.ret (.str "#<Module>"))
def J3 v:=(X.attr aC "outer" v).bd λa=>(uG 3 [a]).bd λb=>(X.add b (.str "::")).bd λc=>(X.attr aC "name" v).bd λd=>(X.add c d).bd λe=>M.ret e
def J6 v:=(X.attr aC "outer" v).bd λa=>(X.is a .none).bd λb=>(M.truth b).bd λc=>M.aw c ((X.attr aC "name" v).bd λd=>M.ret d) (J3 v)
def VI v:=(X.attr aC "name" v).bd λa=>(X.is a .none).bd λb=>(M.truth b).bd λc=>M.aw c (Qo v) (J6 v)
theorem RH v:uG 4 [v]=(X.attr aC "attached" v).bd λa=>(X.bV a .none).bd λb=>(M.truth b).bd λc=>M.aw c M.bad (VI v):=(Mm (fvs:=[v]) (by kernel_rfl)).trans (by kernel_rfl)
def GX:=match k5 with
 |some e=>e
 |none=>.Name "" default
theorem QZ:k5=some GX:=by kernel_rfl
theorem MB x:ei x=(oJ TT (kW false (yY 5).c) false none 40).E V (au 76).scope.names [("e",x)] GX M.ret:=by unfold ei;exact Y QZ<|mC.symm.trans ((EC 40).E V _ _ _ M.ret).symm
theorem IB x:ei x=(X.attr aC "thing" x).bd λa=>(X.attr aC "owner" a).bd λb=>(uG 4 [b]).bd λc=>(X.attr aC "thing" x).bd λd=>(X.attr aC "message" d).bd λe=>(X.attr aC "text" e).bd λf=>M.ret (.tup [c,f]):=(MB x).trans (by kernel_rfl)
theorem W.Et(e:H[i]? =some (.exc C (some j) b))(c:H[j]? =some (.bG a))(d:bg name a=some x)(ok:aC C name=true)(f:x.rH=false)(h:W (k x) H Q):W ((X.attr aC name (.ref i)).bd k) H Q:=W.st ((cn (M.gD (by refine(?_);refine Y e<|(?_:(match H[j]? with|some (.bG a)=>some (C,a)|_=>none)=_);exact Y c rfl))).trans (by refine Y (if_pos ok)<|Y d ?_;dsimp only;refine Y f ?_;rfl)) h
theorem W.M5(m:jS H v name)(h:W (k (.str name)) H Q):W ((uG 4 [v]).bd k) H Q:=bZ m λi g a b=>Y a<|hZ b λj e c d f=>W.bd<|Y (RH _)<|W.attr e f (by rfl) rfl<|W.bV<|W.truth<|W.aQ rfl<|W.attr e c (by rfl) rfl<|W.is<|W.truth<|W.aQ rfl<|W.attr e d (by rfl) rfl<|W.is<|W.truth<|W.bj rfl<|W.attr e c (by rfl) rfl<|W.ret h
theorem W.handler(T:Told H x a)(h:Q (.tup [.str "ArgumentError",.str a]) H):W (ei x) H Q:=by obtain⟨i,j,n,o,rfl,e,b,c,p,q,r,s,d,f,m,g,k,l⟩:=T;exact Y (IB _)<|W.Et e b c (by rfl) rfl<|W.attr d f (by rfl) (by obtain⟨_,_,rfl,_⟩:=m;rfl)<|W.M5 m<|W.Et e b c (by rfl) rfl<|W.attr d g (by rfl) rfl<|W.attr k l (by rfl) rfl<|W.ret h
theorem W.CK(h:W m H λa H'=>W (k (.tup [.str "told",a])) H' Q):W ((M.met d9 m ei).bd k) H Q:=bZ h λa H' e q=>W.st (by unfold M.met;exact Y e rfl) q
theorem W.G5(h:WX m H λx H'=>Told H' x b/\W (k (.tup [.str "ArgumentError",.str b])) H' Q):W ((M.met d9 m ei).bd k) H Q:=by
 refine fQ h λx H' e T q=>?_;have d:rz d9 x H'=true:=by obtain⟨i,j,l,n,rfl,f,_⟩:=T;refine(?_:(match H'[i]? with|some (.exc C _ _)=>d9 C|_=>false)=true);refine Y f ?_;rfl
 have g:ei x H'=some (.ok (.tup [.str "ArgumentError",.str b]),H'):=by obtain⟨a,c,e,rfl,rfl⟩:W (ei x) H' λa c=>a=.tup [.str "ArgumentError",.str b]/\c=H':=W.handler T ⟨rfl,rfl⟩;exact e
 exact W.st (by unfold M.met;refine Y e ?_;dsimp only;exact Y (if_pos d)<|Y g rfl) q
theorem IM:TT.tb (au 79).scope.names=some (1,1005,1007,("_law_bound_right.<locals>.":aa)):=by kernel_rfl
theorem RZ:TT.tb (au 80).scope.names=some (2,1010,1014,("_law_told_right.<locals>.":aa)):=by kernel_rfl
theorem W.QB(e:H[1]? =some iJ)(h:W (k ()) H Q):W ((M.tabAt (TT.tb (au 79).scope.names) ⟨644,27,644,76⟩).bd k) H Q:=Y IM<|W.st (by refine(?_:M.opt (λH=>(H[1]?).bind _) H=_);refine M.gD<|Y e ?_;rfl) h
theorem W.LZ(e:H[2]? =some iw)(h:W (k ()) H Q):W ((M.tabAt (TT.tb (au 80).scope.names) ⟨665,27,665,72⟩).bd k) H Q:=Y RZ<|W.st (by refine(?_:M.opt (λH=>(H[2]?).bind _) H=_);refine M.gD<|Y e ?_;rfl) h
theorem Mn:M.call m [M.ret a,M.call f [M.ret r],M.ret b,M.ret c]=(f [r]).bd λv=>m [a,v,b,c]:=by refine(?_:((((f [r]).bd λv=>M.ret [v,b,c]).bd λvs=>M.ret (a::vs)).bd m)=_);refine Y M.cR<|Y M.cR ?_;rfl
theorem Sn a b:dC a b=true\/dC b a=true:=by unfold dC;simp only[decide_eq_true_eq];exact List.le_total _ _
theorem Fj(d:dC a b=true)(e:dC b c=true):dC a c=true:=by unfold dC at*;simp only[decide_eq_true_eq]at*;exact List.le_trans d e
theorem J0(c:dC a b=true)(d:dC b a=true):a=b:=by unfold dC at*;simp only[decide_eq_true_eq]at*;have:=List.le_antisymm c d;rcases a;rcases b;congr 1;exact Hw.mp this
theorem Dy(c : dh x r = x :: r) (d : dh y r = y :: r) : dh x (y :: r) = dh y (x :: r) := by
  rcases a : dC x y <;> rcases b : dC y x
  · rcases Sn x y with h | h
    · exact ft (a.symm.trans h)
    · exact ft (b.symm.trans h)
  · exact (gB a).trans ((congrArg (y :: ·) c).trans (gZ b).symm)
  · exact (gZ a).trans ((congrArg (x :: ·) d).symm.trans (gB b).symm)
  ·exact Y (J0 a b) rfl
theorem QI x y l: dh x (dh y l) = dh y (dh x l) := by
  induction l with
  | nil => exact Dy rfl rfl
  | cons c l e =>
    rcases a : dC x c <;> rcases b : dC y c
    · exact ((congrArg (dh x) (gB b)).trans (gB a)).trans ((congrArg (c :: ·) e).trans ((congrArg (dh y) (gB a)).trans (gB b)).symm)
    · have d : dC x y = false := by
        rcases h : dC x y
        · rfl
        · exact tf ((Fj h b).symm.trans a)
      exact (congrArg (dh x) (gZ b)).trans ((gB d).trans ((congrArg (y :: ·) (gB a)).trans ((congrArg (dh y) (gB a)).trans (gZ b)).symm))
    · have d : dC y x = false := by
        rcases h : dC y x
        · rfl
        · exact tf ((Fj h a).symm.trans b)
      exact ((congrArg (dh x) (gB b)).trans (gZ a)).trans ((congrArg (dh y) (gZ a)).trans ((gB d).trans (congrArg (x :: ·) (gB b)))).symm
    · exact (congrArg (dh x) (gZ b)).trans ((Dy (gZ a) (gZ b)).trans (congrArg (dh y) (gZ a)).symm)
theorem Cz(h:a.Perm b):kF a=kF b:=by induction h with
 |nil=>rfl
 |cons x _ c=>exact congrArg (dh x) c
 |swap x y l=>exact QI y x _
 |trans _ _ d e=>exact d.trans e
theorem GP(b:(a.map (·.1)).Nodup)(h:(q,v)∈a):bg q a=some v:=by induction a with
 |nil=>rcases h
 |cons e a c=>rw[kn,mK]at b;refine Y C3 ?_;rcases ca.mp h with rfl|h;exact if_pos rfl;exact(if_neg λd:e.1=q=>b.1 (d▸ig.mpr (ak _ h rfl))).trans (c b.2 h)
theorem Ki:∀{l},(dh x l).length=l.length+1:=by
 intro a;induction a with
 |nil=>exact rfl
 |cons y r b=>rcases h:dC x y;exact Y (gB h)<|congrArg (·+1) b;exact Y (gZ h) rfl
theorem Tz:∀{l},(kF l).length=l.length:=by
 intro a;induction a with
 |nil=>exact rfl
 |cons x r b=>exact Ki.trans (congrArg (·+1) b)
theorem W.sorted(e:H[i]? =some (.dict a))(l:a.length<=100)(h:∀q H',gA H (.list ((kF (a.map (·.1))).map V.str)) q H'->W (k (.ref q)) H' Q):W ((X.sorted (.ref i)).bd k) H Q:=W.st ((cn (j0 e)).trans (Y (if_pos l)<|rW (Y (bD _)<|Y Tz<|Y (bD _)<|Y fA<|an [.le J 100] (.le J 16777216) B l))) (h _ _ (bA .new (aS _) (by simp) gV))
theorem K'(e:H[i]? =some (.dict a)):M.eN (.ref i) H=some (.ok (.dict i a.length,a.length),H):=M.gD (f:=λH=>It.nH i H[i]?) (by show It.nH i H[i]? =_;refine Y e ?_;rfl)
theorem VS(e:H[i]? =some (.dict a))(b:j<=a.length):(It.dict i a.length).next j H=some (.ok (if j<a.length then some (.str ((a.map (·.1)).getD j ""))else none),H):=by refine(cn (j0 e)).trans<|Y (if_pos rfl) ?_;by_cases q:j<a.length;refine Y (if_pos q)<|Y (bJ q)<|Y (wK)<|Y (f_)<|Y (bJ q) ?_;rfl;refine Y (if_neg q)<|Y (ik (by exact ah [.le U J,.n (.lt U J)] (.le J U) B b q)) ?_;rfl
theorem W.U8{bz:V->M γ}(Inv:Nat->Loc->Hp->Prop)(k:∀j a H,Inv j a H->H[i]? =some (.dict d))(l:Inv 0 a H)(dX:∀j e a H,d[j]? =some e->Inv j a H->W (mb a (.str e.1)) H (fT (Inv (j+1)) λb b=>False))(h:∀a H,Inv d.length a H->W (f a) H Q):W ((M.eO (.ref i) a mb).bd (M.cg bz f)) H Q:=pJ (W.st (K' (k 0 a H l)) (W.loop (R:=λb b=>False) Inv (λj a H c g=>VS (k j a H g) c) (λj a H c g=>by have:=dX j _ a H (bJ c) g;rwa [wK,f_,bJ c]) d.length 0 a H (an [] (.eq (.a (.k 0) J) J) B) l)) h λb b q=>q.elim
theorem Al.keys{d:List (aa×V)}{f:List (aa×Bd)}(e:Al R d f)(h:∀a b,R a b->a.1=b.1):d.map (·.1)=f.map (·.1):=by refine s8 λj=>?_;rw[f_,f_];by_cases c:j<d.length;have g:=e.1▸c;rw[bJ c,bJ g];exact congrArg some (h _ _ (e.2 j _ _ (bJ c) (bJ g)));rw[ik (iP.mp c),ik (by rw[<-e.1];exact iP.mp c)];rfl
theorem Tw:∀l,(dh x l).Perm (x::l):=by
 intro a;induction a with
 |nil=>exact .refl _
 |cons y r b=>rcases h:dC x y;exact Y (gB h)<|(b.cons y).trans (.swap x y r);exact Y (gZ h)<| .refl _
theorem Dq:∀l,(kF l).Perm l:=by
 intro a;induction a with
 |nil=>exact .refl _
 |cons x r b=>exact(Tw _).trans ((b).cons x)
def nh(b:Nat)(H:Hp):Bd->Prop
 | .one x=>VO b H x
 | .rest a=>a.length<1000/\∀c∈a,VO b H c
theorem Pi(e:Al (e_ b H d) a c)(i:a.map (·.1)=c.map (·.1))(k:(c.map (·.1)).Nodup)(l:g∈c):∃v,bg g.1 a=some v/\e_ b H d (g.1,v) g:=by obtain⟨j,f,rfl⟩:=n_ l;have h:=e.1▸f;have r:=e.2 j _ _ (bJ h) (bJ f);refine(bn (a[j].2) (GP (i▸k) ?_) rfl r.2);exact ae r.1<|Bt h
theorem I4(a:Al (cJ b H) c i)(p:i.Perm f)(k:(f.map (·.1)).Nodup){j:Nat}(h:c[j]? =some e):bg e.1 c=some e.2/\∃g∈f,cJ b H e g:=ad (a.at_ h) λg l d=>(fh (GP (Y (cJ.keys a)<|(p.map (·.1)).nodup_iff.mpr k) (iT h)) g (p.mem_iff.mp (iT l)) d)
theorem W.UE(hn : 8 <= n) (m : H[vi]? = some (.dict es)) (a1 : Al (e_ b1 H C) es t) (e2 : H[di]? = some (.dict ds)) (a2 : Al (cJ b2 H) ds gs) (p : gs.Perm t) (nd : (t.map (·.1)).Nodup) (le : t.length <= 100) (ok : ∀ q ∈ t.map (·.1), iW q = true) (hv : ∀ f ∈ t, nh b H f.2)
    (h : ∀ H', Ext [] H H' -> W (k (.bool true)) H' Q) : W ((zR n [.ref vi, .ref di, .int C]).bd k) H Q := by
  refine xE (cB (n := n) (an [.le 8 J] (.le 2 J) B hn)) λn c => ?_; subst c
  have L := Al.keys a1 λy y r => r.1
  skip
  have kk : kF (es.map (·.1)) = kF (ds.map (·.1)) :=Y L<|Y (cJ.keys a2)<|Cz (p.map (·.1)).symm
  refine W.bd<|Y (Ju _ _ _ _)<|W.sorted m (Y a1.1<|le) λi1 ai y1 => W.sorted (y1.1.g e2) (Y a2.1<|Y p.length_eq<|le) λi2 aj y2 => ?_
  skip
  refine W.DV (y2.1.g y1.2.2.2) y2.2.2.2 (oO λq hq => ok q (ae L<|(Dq _).mem_iff.mp hq)) (oO λq hq => ok q (by refine ae L ?_; rw [<- kk] at hq; exact (Dq _).mem_iff.mp hq)) <| W.truth <| W.aQ ?_ ?_
  ·refine Y (Bool.not_eq_false' _) ?_; rw [xP]; exact kk
  skip
  refine W.U8 (Inv := λy a H' => a = ou (.ref vi) (.ref di) (.int C) /\ Ext [] H H') (λy y H' A => A.2.g e2) ⟨rfl, (y1.1.trans y2.1)⟩ (λj e a l hj A => ?_) λa l A => ?_
  · skip
    refine xA A λc d => ?_; subst c
    refine sP (I4 a2 p nd hj) λd1 c hg g => ?_; obtain ⟨q, bd⟩ := c
    refine ad (Pi a1 L nd hg) λv g1 fr => ?_
    have vo := hv _ hg
    obtain ⟨q', w⟩ := e
    refine xA g λeq g => ?_
    have eq : q' = q := eq
    subst eq
    skip
    refine Y (NZ _ _ _ _ _)<|W.rx (d.g e2) d1 ?_
    rcases bd with x | zs
    · have g : w = .tup [.str "one", x] := g
      subst g
      have fr : v = x := fr.2
      subst fr
      refine W.iC ?_
      skip
      refine W.iM <| W.truth <| W.bj (by rfl) ?_
      skip
      refine W.rx (d.g m) g1 <| W.same (an [.le 8 (J+2)] (.le 3 (J+1)) B hn) (vo.mono (bf d)).choose_spec <| W.truth <| W.aQ rfl ?_
      skip
      exact W.iM <| W.truth <| W.aQ (by rfl) <| W.ret ⟨rfl, d⟩
    · skip
      refine ad g λjj g s => ?_
      skip
      refine Y g<|sP fr λy ax c lt =>jY c λi a0 j' ev s1 gn af =>xA af λgi s2 => ?_
      have ev : v = .ref i := ev
      subst ev
      skip
      refine W.iC ?_
      skip
      refine W.iM <| W.truth <| W.aQ (by rfl) ?_
      skip
      refine W.iM <| W.truth <| W.bj (by rfl) ?_
      skip
      refine W.rx (d.g m) g1 <| W.bu (b := true) (by refine (?_ : X.jc ci (.ref 263) ((l[i]?).bind λo => o.cls?.map gO) = _); refine Y (d.g s1.2) ?_; rfl) <| W.truth <| W.aQ rfl ?_
      skip
      refine W.rx (d.g m) g1 <| W.attr (d.g s1.2) gn (by rfl) rfl <| W.le <| W.truth <| W.aQ (by simpa using lt) ?_
      skip
      exact W.rx (d.g m) g1 <| W.attr (d.g s1.2) gi (by rfl) rfl <| W.alike (an [.le 8 (J+2)] (.le 5 (J+1)) B hn) (d.g s2.2) (d.g s.2) vo.1 (λav hz => (vo.2 av hz).mono (bf d)) λap x4 => W.truth <| W.aQ rfl <| W.ret ⟨rfl, d.trans x4⟩
  · (refine xA A λc d =>Y c ?_)
    exact Y (MU _ _ _ _)<|W.ret (h _ d)
theorem VO.sF(a:2<=n)(c:VO b H v)(h:∀q H',gA H (.list (Internal.parts H v)) q H'->W (k (.ref q)) H' Q):W ((oE n [v]).bd k) H Q:=W.sF a c.choose_spec (h _ _ .mk)
def AD(b:Nat)(H H':Hp)(a xs:List V):=Al (λc x=>∃q,c=.ref q/\St b H' q (.list (parts H x))) a xs
theorem W.before(e:H[ai]? =some (.list xs))(l:xs.length<=10)(hv:∀x∈xs,VO b H x)(h:∀g H' v,Ext [] H H'->H.length<=g->H'[g]? =some (.list v)->AD H.length H H' v xs->W (k (.ref g)) H' Q):W ((M.cZ (.ref ai) λq4=>EE n q4).bd k) H Q:=by refine W.cZ (λj H'=>Ext [] H H') (λH' j y=>∃q,y=.ref q/\St (H.length+1) H' q (.list (parts H (xs.getD j .none)))) (pG e) (an [.le J 10] (.le J 1000) B l) (λj H' i x=>pn (x.g e) i) .new (λj H' ys af x a=>⟨x.eM (aS _),λk y m=>ad m λq c d=>(ak q c (jv (f9 _) _ _ d))⟩) (λj A ys i x a=>?_) λys H' l1 x a s=>h _ _ ys x (aS _) a ⟨l1,λj w y c d=>?_⟩;have f:=hv _ (iT (lD i));refine VO.sF (an [] (.le 2 (J+3)) B) (f.mono (bf x)) λq1 C o=>W.oy o.2.2.2 ?_ λq2 L p=>W.ret ?_;exact Y (f.k6 (bf x))<|aG f.parts.1 (lb B);have r:=o.1.trans p.1;have l2:=(bR.mp a).1;refine(bA (r.g a) (x.trans r) (bn q2 rfl (by have:=o.1.len;have:=p.2.1;exact aU [.lt J u,.le u D,.le D U] (.le (J+1) U) B l2 (by assumption) this) ?_) (λk w m=>ad m λq c d=>(ak q c (bf r _ _ d))));exact Y p.2.2.2<|Y (f.k6 (bf x)) rfl;refine ad (s j w c) λq h3 t=>?_;rw[wK,d]at t;exact(bn q h3 (by have:=t.1;exact ah [.le (J+1) U] (.le J U) B this) t.2)
theorem W.KD(i:2<=n)(k:H[v]? =some (.list xs))(w:H[y]? =some (.list A))(P:AD b' H₀ H A xs)(l:xs.length<=10)(C:∀x∈xs,VO b H x)(L:∀x∈xs,parts H₀ x=parts H x)(h:∀H',Ext [] H H'->Q (.bool true) H'):W (E3 n (.ref v) (.ref y)) H Q:=by have f:Sz xs:=aG l (by decide);refine W.len k f<|W.range<|W.ny (λj H'=>Ext [] (H++[.list []]) H') (pF (an [.le J 10] (.lt J 1000) B l)) (λg g g g=>oz) .refl (λj r a x=>?_) λH' x=>?_;have m:=bJ a;have c:=Ext.new.trans x;have d:=C _ (Bt a);refine ad (P.2 j _ _ (bJ (P.1▸a)) m) λq h1 o=>?_;rw[L _ (Bt a)]at o;refine W.ek (c.g k) m f<|VO.sF (an [.le 2 J] (.le 2 (J+3)) B i) (d.mono (bf c)) λq1 s e=>W.ek (e.1.g (c.g w)) (bJ (P.1▸a)) (by rw[Sz];exact Y P.1<|f)<|Y h1 ?_;have p:=c.trans e.1;exact W.alike (an [.le 2 J] (.le 5 (J+3)) B i) (Y e.2.2.2<|Y (d.k6 (bf c)) rfl) (p.g o.2) (by have:=d.parts.1;exact aL [.lt U u,.le J 10] (.lt J 1000) B a this) (λaf hz=>(d.parts.2 af hz).mono (bf p)) λt x3=>W.truth<|W.ret ⟨rfl,x.trans (e.1.trans x3)⟩;exact W.alloc<|W.GR (fE (x.g gV)) gV rfl rfl<|W.ret (h _ ((Ext.new.trans x).trans .new))
theorem cj:Sz [a,b]:=gj rfl
theorem CT:∀i,i<100->iW (dp i)=true:=by decide+kernel
theorem Al.back(h:Al R d e)(m:b∈e):∃a,R a b:=by obtain⟨j,c,rfl⟩:=n_ m;have f:=h.1▸c;exact⟨d[j],h.2 j _ _ (bJ f) (bJ c)⟩
theorem B6{f : A -> V -> List (aa × Bd)} (g : ∀ w a v, h w a -> VO b H v -> ∀ e ∈ f a v, nh b H e.2) {i : List V}(j : Al h i k) (l : ∀ y ∈ ys, VO b H y) : ∀ e ∈ (k.zip ys).flatMap (λp => f p.1 p.2), nh b H e.2 := λe m => by
  refine ad (lI.mp m) λc d n => ?_; obtain ⟨a, v⟩ := c
  exact xE (j.back (qj d).1) λw o =>g w a v o (l v (qj d).2) e n
theorem Cl(m:∀w a v,p w a->VO b H v->∀e∈f a v,nh b H e.2)(R:c7 b H p v r)(l:ys.length<=10)(d:∀y∈ys,VO b H y):∀e∈cY false f r ys,nh b H e.2:=λe c=>by obtain⟨_,_,_,A,C,_,_,_,_,g,h,_⟩:=R;unfold cY at c;dsimp only at c;rcases iQ.mp c with q|c;exact B6 m g d e q;rcases iQ.mp c with q|c;refine ad (ig.mp q) λi t j=>?_;obtain⟨s,v⟩:=i;exact ae j<|d v (qH (qj t).2);rcases iQ.mp c with q|c;have q:=q;unfold eX at q;rcases n:r.rest with _|s;rw[n]at q;rcases q;rw[n]at q;dsimp only at q;by_cases o:s="";rw[if_pos o]at q;rcases q;rw[if_neg o]at q;exact Y (dW.mp q)<|⟨iR (aG (Y lQ<|oi _ _) (List.length_take_le' _ _)) (iR l (lb B)),λx hz=>d x (wS (qH hz))⟩;rcases iQ.mp c with q|q;exact B6 m h (λy k=>d y (qH k)) e q;rcases q
theorem NU w c v:bK b H d w c->VO b H v->∀e∈bT H false d c v,nh b H e.2:=pd (P:=λd c=>∀w v,bK b H d w c->VO b H v->∀e∈bT H false d c v,nh b H e.2) (λf f f f f h e g=>Y (dW.mp g)<|h) (λf r i w v t h=>Cl (λw a=>i a w) t (fit_le (c7.sm t) h.parts.1) (l6 VO.none h.parts.2)) d c w v
theorem W.right(g:d+8<=n)(R:c7 b H (bK b H d) v r)(o:VN (ba (aD d) r))(p:(ba (aD d) r).Nodup)(s:(ba (aD d) r).length<=100)(hs:H[t]? =some (.list S))(w:S.length<=10)(vs:∀x∈S,VO b H x)(e1:H[vi]? =some (.dict es))(a1:Al (e_ b1 H k) es (cY false (bT H false d) r (bW r S)))(ha:H[ai]? =some (.list xs))(hb:H[bi]? =some (.list y))(P:AD b' H₀ H y xs)(l:xs.length<=10)(A:∀x∈xs,VO b H x)(hp:∀x∈xs,parts H₀ x=parts H x)(h:∀H',Ext [] H H'->Q (.bool true) H'):W (wd n v (.ref t) (.tup [.str "told",.tup [.ref vi,.int (taken r (bW r S).length:Nat)]]) (.int k) (.ref ai) (.ref bi)) H Q:=by refine Oh d _ (n+3) b H v r t S _ _ (ah [.le (J+8) U] (.le (J+4) (U+3)) B g) R o p s hs w vs λfi ap L c s1 a2=>W.iC<|W.jb (by rfl) (by rfl) cj<|W.kM<|W.truth<|W.aQ (by rfl)<|W.jb (by rfl) (by rfl) cj<|W.jb (by rfl) (by rfl) cj<|W.hF<|W.truth<|W.aQ (by simp) ?_;have j:=v_ (f:=bT H false d) (lX d) r (bW r S);refine W.jb (by rfl) (by rfl) cj<|W.jb (by rfl) (by rfl) cj<|W.UE (b:=b) (ah [.le (U+8) J] (.le 8 (J+3)) B g) (c.g e1) (a1.mono λo0 o0=>e_.mono (bf c)) s1.2 a2 (BY (D' d) r _) (j.nodup p) (by have:=j.length_le;rw[bD]at this;exact ah [.le U 100,.le J U] (.le J 100) B s this) (λq hq=>?_) (λf hf=>?_) λaf x2=>W.truth<|W.aQ rfl<|?_;exact ad (o q (j.subset hq)) λi hi m=>Y m<|CT i hi;have:=Cl (NU) R (fit_le R.sm w) (l6 VO.none vs) f hf;obtain⟨q,bd⟩:=f;rcases bd with x|y;exact VO.mono (bf c) this;exact⟨this.1,λC hz=>(this.2 C hz).mono (bf c)⟩;have a:=c.trans x2;exact W.KD (ah [.le (U+8) J] (.le 2 J) B g) (a.g ha) (a.g hb) (P.mono λC x zz=>ad zz λq h1 h2=>(ak q h1 (bf a _ _ h2))) l (λx e=>(A x e).mono (bf a)) (λx e=>(hp x e).trans ((A x e).k6 (bf a)).symm) λaj x3=>h _ (a.trans x3)
theorem DW:Sz [a,b,c,d,e]:=gj rfl
theorem m5(a:iW x=true)(b:iW y=true):iW (x++y)=true:=by refine(?_:(x.cps++y.cps).all _=true);exact Y Array.all_append<|iO.mpr ⟨a,b⟩
theorem sV:∀i,i<100->iW (fP i)=true:=by decide+kernel
theorem UD(a:l<100)(b:∀x,m=some x->x<100):iW (cnt l m)=true:=by unfold cnt;rcases m with _|x;exact m5 (sV l a) (by decide+kernel);dsimp only;by_cases e:l=x;exact Y (if_pos e)<|sV l a;exact Y (if_neg e)<|m5 (sV l a) (m5 (by decide+kernel) (sV x (b x rfl)))
theorem GN(h:a<100)(b:l<100)(c:∀x,m=some x->x<100):iW (jy a l m)=true:=m5 (m5 (m5 (m5 (by decide+kernel) (sV a h)) (by decide+kernel)) (UD b c)) (by decide+kernel)
theorem W.CF(ok:iW a=true)(h:W (k (.bool true)) H Q):W ((X.eq (.tup [.str "ArgumentError",.str a]) (.tup [.str "ArgumentError",.str a])).bd k) H Q:=by
 have s:∀x∈[("ArgumentError":aa),a],iW x=true:=λx b=>by rcases ca.mp b with rfl|b;decide+kernel;exact Y (dW.mp b)<|ok
 exact W.eqT (oO s) (oO s)<|Y (xP.mpr rfl)<|h
theorem Mc(l : xs.length <= 10) (a : ∀ x ∈ xs, VO b H x) : (fY H r s xs).length <= 10 /\ ∀ x ∈ fY H r s xs, VO b H x := by
  skip
  rcases s with _ | _
  · rcases xs with _ | ⟨x, _ | ⟨y, c⟩⟩
    · exact ⟨l, a⟩
    · refine (?_ : (if cI H x && decide (1 < gh r) then parts H x else [x]).length <= 10 /\ ∀ y ∈ (if cI H x && decide (1 < gh r) then parts H x else [x]), VO b H y)
      rcases cI H x && decide (1 < gh r) with _ | _
      · exact ⟨l, a⟩
      · exact (a x (.head _)).parts
    · exact ⟨l, a⟩
  · exact ⟨l, a⟩
theorem Ja(a : ∀ x ∈ xs, VO b H x) (st : ∀ i o, St b H i o -> St b H' i o) : fY H' r s xs = fY H r s xs := by
  skip
  rcases s with _ | _
  · rcases xs with _ | ⟨x, _ | ⟨y, c⟩⟩
    · rfl
    · refine (?_ : (if cI H' x && decide (1 < gh r) then parts H' x else [x]) = (if cI H x && decide (1 < gh r) then parts H x else [x]))
      exact Y ((a x (.head _)).Ak st)<|Y ((a x (.head _)).k6 st) rfl
    · rfl
  · rfl
theorem VQ(a:((xs.length:Int)==1)=false):fY H r false xs=xs:=by rcases xs with _|⟨x,_|⟨y,b⟩⟩;rfl;exact tf (a);rfl
theorem N4: fY H r false [x] = if cI H x && decide (1 < gh r) then parts H x else [x] := rfl
theorem W.Ea(ev:v=.tup xs)(hk:hW c xs.length=some j)(a:xs[j]? =some x)(l:Sz xs)(h:W (k x) H Q):W ((X.item aZ v (.int c)).bd k) H Q:=Y ev<|W.jb hk a l h
theorem W.Vn{AI:V->A->Prop}{v:V}{a:V}(R:c7 b H AI v r)(e:H[ai]? =some (.list xs))(l:xs.length<=10)(hv:∀x∈xs,VO b H x)(h:∀p H',Ext [] H H'->H'[p]? =some (.list (fY H r s xs))->W (wd n v (.ref p) c C (.ref ai) a) H' Q):W (uc n (.ref ai) v (.int (bq r:Nat)) (.bool s) c C a) H Q:=by
 have sx:Sz xs:=aG l (lb B);delta uc;refine W.oy e sx λp d y=>?_;obtain⟨i,o,j,f,g,ev,m,h2,h3,_,_,s1,s2,s3⟩:=R;have sm:=And.intro s1 (And.intro s2 s3);have x:=y.1;delta Cx;refine W.Ea ev (by rfl) (by rfl) DW<|W.len (x.g h2.2) (by rw[Sz];exact Y (bD _)<|aL [.and (.le U 2) (.and (.le J 2) (.le u 2))] (.le J 1000) B sm)<|W.add<|W.Ea ev (by rfl) (by rfl) DW<|W.bV<|W.tS<|W.add<|Y jq<|Y (bD _) ?_;have pl:((bq r))+(r.opt.length:Int)+(if(!r.rest.isNone)=true then 1 else 0)=(gh r):=by unfold gh;rcases r.rest<;>simp
 refine Y pl ?_;have gr:fY H r s xs=xs->∀w,w=v->W (pD n w (.ref p) c C (.ref ai) a) d Q:=λe v ev=>Y ev ?_;delta pD;exact h p d x (Y e<|y.2.2.2);delta EP;refine W.truth ?_;rcases s with _|_;refine W.bj rfl ?_;delta Gn;refine W.len (x.g e) sx<|W.jf<|W.truth<|W.aw (λm=>?_) (λm=>?_);have m:xs.length=1:=by have:=bI m;exact an [.cu (.c J) 1] (.eq J 1) B this
 refine xE (Xn.mp m) λaj k=>?_;subst k;have vx:=hv aj (.head _);delta Cd;refine W.item (x.g e) (by rfl) rfl sx<|W.bu (vx.mono (bf x)).bu<|W.truth<|Y (vx.Ak (bf x)) ?_;rw[N4]at h gr;rcases q:cI H aj with _|_;rw[q]at gr;exact W.aQ rfl (gr rfl _ rfl);rw[q]at gr h;refine W.bj rfl ?_;delta DJ;refine W.gt<|W.truth<|W.aw (λt=>?_) λt=>?_;have t:1<gh r:=by have:=of_decide_eq_true t;exact an [.aR 1 (.c J)] (.lt 1 J) B this
 rw[decide_eq_true t]at h;refine eZ (vx.r9 q) λi' es j' zs k af=>?_;subst k;refine hZ af λg1 g2 g3 g4 g5=>?_;delta Ec;exact W.item (x.g e) (by rfl) rfl sx<|W.attr (x.g g1) g2 (by rfl) (by rfl)<|W.oy (x.g g3) (aG g5 (lb B)) λs2 L y2=>h s2 L (x.trans y2.1) (Y (if_pos (show(true&&true)=true from rfl))<|Y g4<|y2.2.2.2);rw[decide_eq_false (by have:=of_decide_eq_false t;exact an [.n (.aR 1 (.c J))] (.n (.lt 1 J)) B this)]at gr;exact gr rfl _ rfl;refine gr ?_ _ rfl;exact VQ m;exact W.aQ rfl (gr rfl _ rfl)
structure ic d H t C N v r:Prop where
 base:Base H t C N
 row:c7 10 H (bK 10 H d) v r
 vn:VN (ba (aD d) r)
 nd:(ba (aD d) r).Nodup
 le:(ba (aD d) r).length<=100
 hC:C+400<=1000000
structure mA H ai xs:Prop where
 at_:St 10 H ai (.list xs)
 le:xs.length<=10
 vo:∀x∈xs,VO 10 H x
theorem zq:∀j∈([6,9]:List Nat),j<10:=by decide
theorem ic.ext(A:ic d H t C a v r)(x:Ext [] H H'):ic d H' t C a v r:=⟨A.base.dk x,A.row.mono (bf x) λb b=>bK.mono (bf x),A.vn,A.nd,A.le,A.hC⟩
theorem mA.mono(A:mA H a xs)(x:∀i o,St 10 H i o->St 10 H' i o):mA H' a xs:=⟨x _ _ A.at_,A.le,λy b=>(A.vo y b).mono x⟩
theorem Jz(f:c7 b H i v r):bq r<100/\∀x,b_ r=some x->bq r<=x/\x<100:=by refine bh λj g=>?_;obtain⟨d,h,e⟩:=f.sm;refine g ?_;delta b_ bq;refine⟨ah [.le J 2,.le U 2] (.lt (J+U) 100) B d e,λx c=>?_⟩;rcases a:r.rest with _|q;rw[a]at c;exact ae (ao c)<|aL [.le J 2,.le u 2,.le U 2] (.and (.le (J+U) (J+U+u)) (.lt (J+U+u) 100)) B d h e;rw[a]at c;exact ns c
theorem W.xQ(L:2*d+45<=n)(A:ic d H t C N v r)(q:mA H ai xs)(hs:s=true->bad xs.length (bq r) (b_ r)=false)(h:∀g l c H' w,Ext [] H c->Ext [6,9] c H'->Base H' t (C+300) w->H'[g]? =some (.dict l)->Al (e_ (g+1) H' N) l (cY false (bT c false d) r (bW r (fY c r s xs)))->Q (.tup [.ref g,.int (taken r (bW r (fY c r s xs)).length:Nat)]) H'):W ((mm n [v]).bd λp=>l4 n [.ref 6,p,.ref ai,.bool s]) H Q:=by refine zG d _ n 10 H v r _ _ (ah [.le (.a (.m 2 J) (.k 45)) U] (.le (.a J (.k 6)) U) B L) A.row λp c x p1=>ae (mC (m:=l4 n [.ref 6,p,.ref ai,.bool s])) ?_;have j:∀i o,St H.length c i o->St 10 c i o:=λi o h=>h.low (an [.le (.k 50) J] (.le (.k 10) J) B A.base.len);refine W.bind (d:=d) (ah [.le (.a (.m 2 J) (.k 45)) U] (.le (.a (.m 2 J) (.k 40)) U) B L) ⟨A.base.dk x,aS _,p1.mono j λo0 o0=>bL.mono j,A.vn,A.nd,A.le,x.g q.at_.2,q.le,λy hy=>(q.vo y hy).mono (bf x),A.hC⟩ hs λg k V=>W.ret<|bh λR' k'=>?_;obtain⟨a,b,⟨w,B',_⟩,l,e,al⟩:=V;have:=(v_ (f:=bT c false d) (lX d) r (bW r (fY c r s xs))).length_le;refine k' ?_;rw[bD]at this;exact h g l c k w x a (B'.mono (by have:=A.le;exact aL [.le U u,.le u (.k 100)] (.le (.a J (.m 3 U)) (.a J (.k 300))) B (by assumption) this)) e al
theorem WX.xQ(g:2*d+45<=n)(A:ic d H t C N v r)(c:mA H j xs)(l:bad xs.length (bq r) (b_ r)=true)(h:∀x H' e,Base H' t (C+20) e->Ext [6,9] H H'->Told H' x (jy xs.length (bq r) (b_ r))->Q x H'):WX ((mm n [v]).bd λp=>l4 n [.ref 6,p,.ref j,.bool true]) H Q:=by refine WX.rP ((W.ask (P:=λp H'=>Ext [] H H'/\cH H.length H' (bL H.length H' d) p r) λ{k Q}hk=>zG d _ n 10 H v r _ _ (ah [.le (.a (.m 2 J) (.k 45)) U] (.le (.a J (.k 6)) U) B g) A.row λp a x f=>hk _ _ ⟨x,f⟩).mono λp a m=>?_);refine xA m λx f=>?_;have b:∀i o,St H.length a i o->St 10 a i o:=λi o h=>h.low (an [.le (.k 50) J] (.le (.k 10) J) B A.base.len);exact WX.bind (ah [.le (.a (.m 2 U) (.k 45)) J] (.le (.k 45) J) B g) ⟨A.base.dk x,aS _,f.mono b λq q=>bL.mono b,A.vn,A.nd,A.le,x.g c.at_.2,c.le,λy s=>(c.vo y s).mono (bf x),A.hC⟩ l λy H' e w L T=>h y H' e w (x.any.trans L) T
theorem W.RE{a:V}(e:H[f]? =some (.list xs))(g:Sz xs)(i:s=true->bad xs.length l m=false)(h:W (uc n (.ref f) v (.int (l:Int)) (.bool s) b d a) H Q):W (vT n (.bool s) (.ref f) (.int (l:Int)) (dI m) b v d a) H Q:=by refine W.truth ?_;rcases s with _|_;exact W.aQ rfl h;have c:=i rfl;unfold bad at c;rw[Bv]at c;refine W.bj rfl<|W.len e g<|W.lt<|W.truth<|W.aQ (by simpa using(of_decide_eq_false c.1))<|W.bV<|W.truth ?_;rcases m with _|x;exact W.aQ rfl<|W.aQ rfl<|W.aQ rfl h;exact W.bj rfl<|W.len e g<|W.gt<|W.truth<|W.aQ (by simpa using(of_decide_eq_false c.2))<|W.aQ rfl<|W.aQ rfl h
theorem W.PA{a:V}(j:2<=n)(e:H[i]? =some (.list xs))(d:xs.length<=10)(c:l<100/\∀x,m=some x->l<=x/\x<100)(f:bad xs.length l m=true)(h:Q (.bool true) H):W (vT n (.bool true) (.ref i) (.int (l:Int)) (dI m) (.tup [.str "ArgumentError",.str (jy xs.length l m)]) v o a) H Q:=by have g:Sz xs:=aG d (lb B);have p:=lA (an [.le J 10] (.lt J 100) B d);have b:W (wh n (.ref i) (.int (l)) (dI m) (.tup [.str "ArgumentError",.str (jy xs.length l m)])) H Q:=W.len e g<|W.E_ (an [.le J 10] (.lt J 100) B d) c (W.Ac (an [.le 2 J] (.le 2 (J+3)) B j) c.1 c.2)<|W.CF (GN (an [.le J 10] (.lt J 100) B d) c.1 λx k=>(c.2 x k).2)<|W.ret h;unfold bad at f;refine W.truth<|W.bj rfl<|W.len e g<|W.lt<|W.truth ?_;by_cases q:xs.length<l;exact W.bj (by simpa using q) (W.bj rfl b);refine W.aQ (by simpa using q) ?_;rw[gR]at f;rcases m with _|x;simp[q]at f;exact W.bV<|W.truth<|W.bj rfl<|W.len e g<|W.gt<|W.truth<|W.bj (by simpa using(by simpa[q]using f)) (W.bj rfl (W.bj rfl b))
theorem W.Fv(hn:2*d+50<=n)(A:ic d H t C N v r)(j:mA H ai xs)(h:∀H' N',Base H' t (C+300) N'->Ext [6,9] H H'->W (k (.bool true)) H' Q):W ((wg n [.ref 6,v,.ref ai,.bool s]).bd k) H Q:=by
 obtain⟨n,rfl⟩:∃m,n=m+4:=⟨n- 4,ah [.le ((.m 2 U)+50) J] (.eq J (J-4+4)) B hn⟩;refine W.bd<|Y (Jj _ _ _ _ _)<|W.zA (an [] (.le 2 (J+3)) B) A.row<|W.iC<|W.before j.at_.2 j.le j.vo λbi av zs L lb hb P=>?_;have A1:=A.ext L;have B1:=j.mono (bf L);have lh:=A.base.len;have l1:=L.len;refine W.attr A1.base.cP (by rfl) (by rfl) rfl ?_;delta GO;refine Y M.cR<|W.QB A1.base.tb.1<|Y Mn ?_;have l:(s=true->bad xs.length (bq r) (b_ r)=false)->W ((M.met d9 ((mm (n+1) [v]).bd λp=>l4 (n+1) [.ref 6,p,.ref ai,.bool s]) ei).bd λq9=>vT n (.bool s) (.ref ai) (.int (bq r)) (dI (b_ r)) q9 v (.int N) (.ref bi)) av λa H'=>W (k a) H' Q:=λhs=>by refine W.CK (W.xQ (by exact ah [.le ((.m 2 J)+50) (U+4)] (.le ((.m 2 J)+45) (U+1)) B hn) A1 B1 hs λvi es w a0 N' x2 x3 g e al=>?_);have c:=bf (b:=10) x2;have af:=x3.st zq;have st:=λi o h=>af i o (c i o h);have B2:=B1.mono c;have B3:=B1.mono st;refine W.RE B3.at_.2 (aG j.le (by decide)) hs<|W.Vn (A.row.mono (λi o h=>st i o (bf L i o h)) λo0 o0 h=>h) B3.at_.2 j.le B3.vo λsi a1 x4 ap=>?_;have f:=λi o h=>bf x4 i o (af i o h);have sv:=Mc (r:=r) (s:=s) j.le B2.vo;have B4:=B3.mono (bf x4);rw[Ja B2.vo af]at ap;rw[yK λa y hy=>(FL f a (l6 VO.none sv.2 y hy)).symm]at al;refine W.right (ah [.le ((.m 2 J)+50) (U+4)] (.le (J+8) U) B hn) (A1.row.mono (λi o h=>f i o (c i o h)) λo0 o0=>bK.mono λi o h=>f i o (c i o h)) A.vn A.nd A.le ap sv.1 (λy hy=>(sv.2 y hy).mono f) (x4.g e) (al.mono λo0 o0=>e_.mono (bf x4)) B4.at_.2 (b':=10) ?_ (P.mono λa2 x zz=>ad zz λq h1 h2=>(ak q h1 ?_)) j.le B4.vo (λy hy=>((j.vo y hy).k6 λi o h=>f i o (c i o (bf L i o h))).symm) λax x5=>?_;exact x4.g (x3.get (x2.g hb) λq=>by have:=zq _ q;exact ah [.le J U,.le 50 J,.lt U 10] .ff B lb lh this);exact f _ _ (c _ _ (h2.low (an [.le 50 J] (.le 10 J) B lh)));exact h ax N' (g.dk (x4.trans x5)) (L.any.trans (x2.any.trans (x3.trans (x4.trans x5).any)))
 rcases s with _|_;exact l λq=>ft q;rcases aj:bad xs.length (bq r) (b_ r)with _|_;exact l λo0=>aj;exact W.G5 (WX.xQ (by exact ah [.le ((.m 2 J)+50) (U+4)] (.le ((.m 2 J)+45) (U+1)) B hn) A1 B1 aj λx w N' g x2 T=>⟨T,W.PA (ah [.le ((.m 2 U)+50) (J+4)] (.le 2 J) B hn) (B1.mono (x2.st zq)).at_.2 j.le (Jz A.row) aj (h w N' (g.mono (an [] (.le (J+20) (J+300)) B)) (L.any.trans x2))⟩)
theorem UG(f:2<=n)(e:a<100)(c:l<100/\∀x,m=some x->l<=x/\x<100)(d:bad a l m=true)(h:Q (.bool true) H):W (yN n (.int (a:Int)) (.int (l:Int)) (dI m) (.tup [.str "ArgumentError",.str (jy a l m)])) H Q:=by have b:W (rg n (.int (a)) (.int (l)) (dI m) (.tup [.str "ArgumentError",.str (jy a l m)])) H Q:=W.E_ e c (W.Ac (an [.le (.k 2) J] (.le (.k 2) (.a J (.k 3))) B f) c.1 c.2)<|W.CF (GN e c.1 λx g=>(c.2 x g).2)<|W.ret h;unfold bad at d;refine W.lt<|W.truth ?_;by_cases q:a<l;exact W.bj (by simpa using q) b;refine W.aQ (by simpa using q) ?_;rw[gR]at d;rcases m with _|x;simp[q]at d;exact W.bV<|W.truth<|W.bj rfl<|W.gt<|W.truth<|W.bj (by simpa using(by simpa[q]using d)) (W.bj rfl b)
theorem ST(c:bad b l m=false)(h:Q (.bool true) H):W (yN n (.int (b:Int)) (.int (l:Int)) (dI m) (.tup [.str "told",.none])) H Q:=by have a:W (uk n (.tup [.str "told",.none])) H Q:=W.eqT (by kernel_rfl) (by kernel_rfl) (W.ret (Y (by kernel_rfl:jD [.str "told",.none] [.str "told",.none]=true)<|h));unfold bad at c;rw[Bv]at c;refine W.lt<|W.truth<|W.aQ (by simpa using(of_decide_eq_false c.1))<|W.bV<|W.truth ?_;rcases m with _|x;exact W.aQ rfl (W.aQ rfl a);exact W.bj rfl<|W.gt<|W.truth<|W.aQ (by simpa using(of_decide_eq_false c.2)) (W.aQ rfl a)
theorem W.SZ{m:Option Nat}(e:45<=n)(r:Base H t C s)(k:C+400<=1000000)(o:l<100/\∀x,m=some x->l<=x/\x<100)(h:∀H' j,Base H' t (C+300) j->Ext eQ H H'->Q (.bool true) H'):W (DO n (.ref 4) (.ref 6) (.int (l:Int)) (dI m)) H Q:=by
 refine W.take (an [.le 45 J] (.le 2 (J+3)) B e) r (an [.le (J+400) 1000000] (.lt J 1000000) B k) (by decide) λa c f b d=>?_;have f:a<100:=an [.aR (.c J) 6] (.lt J 100) B f;delta FS;refine Y M.cR<|W.LZ b.tb.2.1<|Y (show M.call (l8 (n+1)) [M.ret (.ref 6),M.ret (.int (a)),M.ret (.int (l)),M.ret (dI m)]=l8 (n+1) [.ref 6,.int (a),.int (l),dI m]from rfl) ?_;have p:Ext eQ H c:=d.mono λi q=>by rcases ca.mp q with rfl|q;exact .head _;rcases q
 rcases g:bad a l m with _|_;exact W.CK<|ae (mC (m:=l8 (n+1) [.ref 6,.int (a),.int (l),dI m]))<|W.rO (an [.le 45 J] (.le 2 (J+1)) B e) g<|W.ret<|ST g (h c s (b.mono (an [] (.le (J+1) (J+300)) B)) p);exact W.G5 (WX.rO (an [.le 45 J] (.le 40 (J+1)) B e) b (an [.le (J+400) 1000000] (.le (J+1+20) 1000000) B k) g o f λx H' j v w T=>⟨T,UG (an [.le 45 J] (.le 2 J) B e) f o g (h H' j (v.mono (an [] (.le (J+1+20) (J+300)) B)) (p.trans (w.mono λi q=>.tail _ q)))⟩)
theorem W.Ph{j:V->T d->Prop}(g:45<=n)(k:Base H t C o)(l:C+400<=1000000)(P:cH b H j p r)(h:∀H' m,Base H' t (C+300) m->Ext eQ H H'->Q (.bool true) H'):W (EJ n p (.int (bq r:Nat)) (dI (b_ r)) (.ref 4) (.ref 6)) H Q:=by
 have i:=rQ P;refine W.expected (an [.le (.k 45) J] (.le (.k 4) (.a J (.k 3))) B g) P<|W.Ac (an [.le (.k 45) J] (.le (.k 2) (.a J (.k 3))) B g) i.1 i.2<|W.kM<|W.truth<|W.aQ (by simp) ?_;have f:W (Gd n p (dI (b_ r)) (.int (bq r)) (.ref 4) (.ref 6)) H Q:=by
  refine W.arity (an [.le (.k 45) J] (.le (.k 4) (.a J (.k 3))) B g) P ?_;have a:∀x,jp r true=x->W (zj n (.int (jp r true)) (.int x) (.ref 4) (.ref 6) (.int (bq r)) (dI (b_ r))) H Q:=λx e=>W.hF<|W.truth<|W.aQ (by refine Y e ?_;simp) (W.SZ g k l i h);rcases c:b_ r with _|x;rw[c]at a;exact W.OP<|W.truth<|W.aQ rfl<|W.neg<|W.sub<|a _ (by delta jp;refine Y c ?_;skip;exact an [] (.cu (.s (.g (.c J)) (.k 1)) (.s (.g (.k 1)) (.c J))) B);rw[c]at a;refine W.jf<|W.truth<|W.aw (λe=>?_) λe=>?_;have e:x=bq r:=by have:=bI e;exact ah [.cu (.c J) (.c U)] (.eq J U) B this
  exact a _ (by delta jp;refine Y c<|Y e ?_;simp);have e:x≠bq r:=λq=>by rw[q]at e;simp at e
  exact W.neg<|W.sub<|a _ (by delta jp;exact Y c<|Y (if_pos (by simpa using e))<|an [] (.cu (.s (.g (.c J)) (.k 1)) (.s (.g (.k 1)) (.c J))) B)
 refine W.arity (an [.le (.k 45) J] (.le (.k 4) (.a J (.k 3))) B g) P ?_;have a:∀x,jp r false=x->W (yM n (.int (jp r false)) (.int x) p (dI (b_ r)) (.int (bq r)) (.ref 4) (.ref 6)) H Q:=λx e=>W.hF<|W.truth<|W.aQ (by refine Y e ?_;simp) f;rcases c:b_ r with _|x;rw[c]at a;exact W.bV<|W.truth<|W.aQ rfl<|W.neg<|W.sub<|a _ (by delta jp;refine Y c ?_;skip;exact an [] (.cu (.s (.g (.c J)) (.k 1)) (.s (.g (.k 1)) (.c J))) B);rw[c]at a;exact W.bV<|W.truth<|W.bj rfl<|a _ (by delta jp;refine Y c ?_;simp)
theorem W.Nn(b : 2 * d + 50 <= n) (A : ic d H t C N v r)
    (h : ∀ H' f, Base H' t (C + 300) f -> Ext eQ H H' -> W (k (.bool true)) H' Q) : W ((z_ n [.ref 6, .ref 4, v]).bd k) H Q := by
  obtain ⟨n, rfl⟩ : ∃ m, n = m + 4 := ⟨n - 4,ah [.le ((.m 2 U)+50) J] (.eq J (J-4+4)) B b⟩
  refine W.bd<|Y (NS _ _ _ _)<|zG d _ (n + 3) 10 H v r _ _ (ah [.le ((.m 2 J)+50) (U+4)] (.le (J+6) (U+3)) B b) A.row λp c s w => ?_
  have g := A.ext s
  refine W.zA (an [] (.le 2 (J+3)) B) g.row <| W.jb (by rfl) (by rfl) cj <| W.zA (an [] (.le 2 (J+3)) B) g.row <| W.jb (by rfl) (by rfl) cj ?_
  skip
  refine RT d _ (n + 3) H.length c p r _ _ (ah [.le ((.m 2 J)+50) (U+4)] (.le ((.m 2 J)+4) (U+3)) B b) w A.vn A.le λi e x l2 e2 => ?_
  have y := g.ext x
  refine UA d _ (n + 3) 10 e v r _ _ (ah [.le ((.m 2 J)+50) (U+4)] (.le (J+3) (U+3)) B b) y.row A.vn A.le λj L l l3 e3 => ?_
  skip
  have ok : ∀ q ∈ ba (aD d) r, iW q = true := λq hq =>ad (A.vn q hq) λi hi o =>Y o<|CT i hi
  refine W.DV (l.g e2) e3 (oO ok) (oO ok) <| W.truth <| W.aQ (by refine Y (xP.mpr rfl) ?_; rfl) ?_
  have a := x.trans l
  exact W.Ph (ah [.le ((.m 2 U)+50) (J+4)] (.le 45 J) B b) (y.ext l).base A.hC (w.mono (bf a) λo0 o0 => bL.mono (bf a)) λH' f B' x' => h H' f B' ((s.trans a).any.trans x')
def vB(a b c:O):Hp:=[a,iJ,iw,b,c,.dict [],.inst 895 [("natives",.ref 5),("prelude",.ref 7),("read",.none),("most",.int 20000),("taken",.int 0),("last_number",.int 6),("last_ident",.int 8),("symbol_idents",.ref 8),("made",.ref 9),("version",.int 0),("const_version",.int 0),("globals",.ref 10),("out",.ref 11),("is_ready",.bool true),("main",.ref 47)],.dict [],.dict [],.dict [("Object",.ref 12),("BasicObject",.ref 18),("Class",.ref 24),("Module",.ref 30),("Kernel",.ref 40)],.dict [],.list [],.inst 409 [("number",.int 2),("owner",.ref 24),("fields",.ref 13),("own",.none),("frozen",.bool false),("ident",.none),("name",.str "Object"),("is_class",.bool true),("parent",.ref 18),("outer",.none),("methods",.ref 14),("constants",.ref 15),("mixed",.ref 39),("ahead",.ref 17),("attached",.none),("native",.str "Object"),("kept",.none)],.dict [],.dict [],.dict [],.list [],.list [],.inst 409 [("number",.int 3),("owner",.ref 24),("fields",.ref 19),("own",.none),("frozen",.bool false),("ident",.none),("name",.str "BasicObject"),("is_class",.bool true),("parent",.none),("outer",.none),("methods",.ref 20),("constants",.ref 21),("mixed",.ref 38),("ahead",.ref 23),("attached",.none),("native",.str "BasicObject"),("kept",.none)],.dict [],.dict [],.dict [],.list [],.list [],.inst 409 [("number",.int 4),("owner",.ref 24),("fields",.ref 25),("own",.none),("frozen",.bool false),("ident",.none),("name",.str "Class"),("is_class",.bool true),("parent",.ref 30),("outer",.none),("methods",.ref 26),("constants",.ref 27),("mixed",.ref 37),("ahead",.ref 29),("attached",.none),("native",.str "Class"),("kept",.none)],.dict [],.dict [],.dict [],.list [],.list [],.inst 409 [("number",.int 5),("owner",.ref 24),("fields",.ref 31),("own",.none),("frozen",.bool false),("ident",.none),("name",.str "Module"),("is_class",.bool true),("parent",.ref 12),("outer",.none),("methods",.ref 32),("constants",.ref 33),("mixed",.ref 36),("ahead",.ref 35),("attached",.none),("native",.str "Module"),("kept",.none)],.dict [],.dict [],.dict [],.list [],.list [],.list [],.list [],.list [],.list [.ref 40],.inst 409 [("number",.int 6),("owner",.ref 30),("fields",.ref 41),("own",.none),("frozen",.bool false),("ident",.none),("name",.str "Kernel"),("is_class",.bool false),("parent",.none),("outer",.none),("methods",.ref 42),("constants",.ref 43),("mixed",.ref 46),("ahead",.ref 45),("attached",.none),("native",.str "Kernel"),("kept",.none)],.dict [],.dict [],.dict [],.list [],.list [],.list [],.inst 221 [("number",.int 1),("owner",.ref 12),("fields",.ref 48),("own",.none),("frozen",.bool false),("ident",.none)],.dict [],.list [.str "Object",.str "BasicObject",.str "Class",.str "Module",.str "Kernel"]]
theorem Ny a b c:Gi 60 [.ref 6,.ref 5] [a,iJ,iw,b,c,.dict [],.inst 895 []]=some (.ok .none,vB a b c):=by kernel_rfl
theorem W.things{q:Nat}(A:20+d<=n)(s:Base H t C L)(f:q<=10)(hC:C+10*tk d<1000000)(h:∀w ys H' c,Base H' t (C+10*tk d) c->Ext eQ H H'->St H.length H' w (.list ys)->ys.length<=10->(∀y∈ys,dF H.length H' d y)->W (k (.ref w)) H' Q):W ((M.cZ (.de (q:Int)) λa=>(pA n [.ref 4,.ref 6,.int (d:Nat)]).bd λx=>M.ret x).bd k) H Q:=by have l:=s.len;refine W.cZ (λj H'=>∃c,Base H' t (C+j*tk d) c/\Ext eQ H H') (λH' a=>dF (H.length+1) H' d) (pF (an [.le J 10] (.lt J 1000) B f)) (an [.le J 10] (.le J 1000) B f) (λa a a a=>oz) (ak L (by simpa using s.dk .new) .new) (λj H' ys af g e=>ad g λc b x=>⟨(ak c (b.set (an [.le 50 J] (.le 10 J) B l) e (λa q=>(by injection q))) (x.eM (aS _))),λa a h=>h.mono (jv (f9 _))⟩) (λj H' ys m g e=>ad g λc b x=>?_) λys H' hy g e hs=>ad g λc b x=>?_;have jk:j*tk d+tk d<=10*tk d:=ae (qC _ _)<|lG _ (ah [.le U 10,.lt J U] (.le (J+1) 10) B f m);refine T7 d _ n H' t _ c _ _ A b (aL [.lt (J+(.m 10 u)) 1000000,.le (U+u) (.m 10 u)] (.lt (J+U+u) 1000000) B hC jk) λv aj p hv b' ap o=>W.ret (bA (o.get e λq=>by have:=qQ _ q;exact an [.le 50 J,.lt J 10] .ff B l this) (ak p ?_ (x.trans o)) ?_ (λa a h=>h.mono (o.st λj m=>by have:=qQ j m;exact ah [.le 50 U,.lt J 10] (.lt J (U+1)) B l this)));exact Y (qC _ _)<|ae (lH _ _ _)<|b';exact hv.mono λa a q=>q.low (by have:=(bR.mp e).1;exact ah [.lt J U] (.le (J+1) U) B this);exact h _ ys H' c (b.mono (qD (lG _ f) _)) x ⟨aS _,e⟩ (ah [.le U 10,.eq J U] (.le J 10) B f hy) λy r=>xE (Hk.mp r) λi hi=>(hs i y hi).mono λa a q=>q.low (gS _)
theorem W.rL{bz:V->M γ}(Inv:Nat->Loc->Hp->Prop)(e:Inv 0 a H)(dX:∀j x a H,xs[j]? =some x->Inv j a H->W (mb a x) H (fT (Inv (j+1)) λb b=>False))(d:∀a H,Inv xs.length a H->W (f a) H Q):W ((M.eO (.tup xs) a mb).bd (M.cg bz f)) H Q:=pJ (W.st xO (W.loop Inv (λj a H c b=>Av c) (λj a H c=>dX j _ a H (lD c)) xs.length 0 a H (an [] (.eq (.a (.k 0) J) J) B) e)) d λb b q=>q.elim
theorem W.mulR(a:y.natAbs<2^64)(h:W (k (.int (x*y))) H Q):W ((X.mul (.int x) (.int y)).bd k) H Q:=show W ((M.bM (x.natAbs<2^64\/y.natAbs<2^64) (M.ret (.int (x*y)))).bd k) H Q from W.nn (.inr a) h
theorem QK(p : 2 <= n) (l : xs.length <= 63) (r : ∀ x ∈ xs, ∃ i, x = .int i)
    (h : ∀f d ys(t : Nat), 0 <= f -> 0 <= d -> d < 1000003 -> t <= 3 -> W (k (.ref 4)) [.lit xs e g, iJ, iw, .list ys, .list (lU f 0 d t)] Q) : W ((xo n [.ref 0]).bd k) [.lit xs e g, iJ, iw] Q := by
  obtain ⟨n, rfl⟩ := cB p
  refine W.bd<|Y (JH _ _) ?_
  skip
  have m : Sz xs := aG l (lb B)
  refine W.No rfl rfl (rfl) m ?_
  skip
  have c : ∀ y ∈ kU xs none (some 30), ∃ i, y = .int i := λy c => r y (qH (wS c))
  generalize kU xs none (some 30) = ys at c
  refine W.forL (λj a H' => H' = [.lit xs e g, iJ, iw, .list ys] /\ ∃ f, 0 <= f /\ a = sS (.ref 0) (.int f)) (λj a H' b => by refine Y b.1 ?_; rfl) (fh rfl 0 (mQ _) rfl) (λj x a H' s b => ?_) λa H' b => ?_
  · obtain ⟨rfl, f, o, rfl⟩ := b
    obtain ⟨i, rfl⟩ := c x (iT s)
    refine Y (Rl _ _ _ _)<|W.mulR (lb B) <| W.abs <| W.mul (by decide) <| W.add <| W.lt <| W.tS <| W.add <| W.pow (aX (by decide) (by decide) (lb B)) <| W.fmod (by decide +kernel) <| W.ret (fh rfl _ ?_ rfl)
    exact wM _ (by decide +kernel)
  · obtain ⟨rfl, f, o, rfl⟩ := b
    refine Y (O5 _ _ _)<|W.fmod (by decide) <| W.J7 (rfl) m <| W.min <| W.alloc <| W.ret ?_
    have v : (if ((xs.length) : Int) < 3 then ((xs.length) : Int) else 3) = ((if xs.length < 3 then xs.length else 3)) := by
      by_cases q : xs.length < 3
      ·exact Y (if_pos (nU.mpr q))<|Y (if_pos q) rfl
      ·exact Y (if_neg λh => q (nU.mp h))<|Y (if_neg q) rfl
    exact Y v<|h f _ ys _ o (wM _ (by decide)) (Bs _ (by decide)) (by split <;> omega)
theorem JS{t:Nat}(i:0<=f)(j:0<=a)(k:a<1000003):Base (vB l (.list ys) (.list (lU f 0 a t))) t 5 6:=by refine⟨(bA rfl rfl rfl rfl),(dK f 0 a rfl i ⟨mQ _,by decide⟩ ⟨j,k⟩),rfl,(dS _ rfl (aS _) (λname v h=>?_) (by decide+kernel)),gj rfl⟩;by_cases b:("Object")=name;refine ae (ao ((if_pos b).symm.trans h))<|(iu 12 _ rfl (lb B) rfl (by refine ae b ?_;rfl) ⟨rfl,rfl⟩);replace h:=(if_neg b).symm.trans h;by_cases c:("BasicObject")=name;refine ae (ao ((if_pos c).symm.trans h))<|(iu 18 _ rfl (lb B) rfl (by refine ae c ?_;rfl) ⟨rfl,rfl⟩);replace h:=(if_neg c).symm.trans h;by_cases d:("Class")=name;refine ae (ao ((if_pos d).symm.trans h))<|(iu 24 _ rfl (lb B) rfl (by refine ae d ?_;rfl) ⟨rfl,rfl⟩);replace h:=(if_neg d).symm.trans h;by_cases e:("Module")=name;refine ae (ao ((if_pos e).symm.trans h))<|(iu 30 _ rfl (lb B) rfl (by refine ae e ?_;rfl) ⟨rfl,rfl⟩);replace h:=(if_neg e).symm.trans h;by_cases g:("Kernel")=name;refine ae (ao ((if_pos g).symm.trans h))<|(iu 40 _ rfl (lb B) rfl (by refine ae g ?_;rfl) ⟨rfl,rfl⟩);exact ns ((if_neg g).symm.trans h)
def v7:=rY (.ref 0) (.ref 4) (.ref 6)
def DT q v a:=sB (.ref 0) (.ref 4) (.ref 6) (.int q) v (.ref a)
theorem W.wa(a:Base H t C b)(h:W (k (.int t)) H Q):W ((X.item aZ (.ref 4) (.int 3)).bd k) H Q:=fW a.Ll λf c d e g=>W.item e (by rfl) (by rfl) (gj rfl) h
theorem ic.to(A:ic d H t C g v r)(x:∀i o,St 10 H i o->St 10 H' i o)(b:Base H' t a c)(e:a+400<=1000000):ic d H' t a c v r:=⟨b,A.row.mono x λf f=>bK.mono x,A.vn,A.nd,A.le,e⟩
theorem pT(x:Ext eQ H H'):∀i o,St 10 H i o->St 10 H' i o:=x.st qQ
theorem p5(x:Ext [6,9] H H'):Ext eQ H H':=x.mono λi q=>.tail _ q
theorem im(x:Ext [4] H H'):Ext eQ H H':=x.mono λi q=>by rcases ca.mp q with rfl|q;exact .head _;rcases q
theorem UB{t:Nat}(m:2*d+50<=n)(ht:t<=3)(A:ic d H t C N v r)(q:Int)(ai:Nat)(p:C+5000<=1000000)(h:∀H' N',Base H' t (C+2000) N'->Ext eQ H H'->Q (.go v7) H'):W (zi n (DT q v ai)) H Q:=by refine Y (Px _ _ _ _ _ _ _) ?_;have lh:=A.base.len;refine W.bF A.base.cP (by rfl)<|W.wa A.base<|W.add<|W.take (ar [_,_] [.le (.a (.m 2 U) (.k 50)) J] (.le (.k 2) (.a J (.k 1))) B m) A.base (ar [_] [.le (.a J (.k 5000)) (.k 1000000)] (.lt J (.k 1000000)) B p) (ar [_] [.le J (.k 3)] (.and (.aR (.k 0) (.a (.k 3) (.c J))) (.aR (.a (.k 3) (.c J)) (.k 1000))) B ht) λa6 a7 hm af b=>W.range<|W.things (ar [_,_] [.le (.a (.m 2 U) (.k 50)) J] (.le (.a (.k 20) (.k 1)) (.a J (.k 1))) B m) af (ar [_,_] [.le U (.k 3),.aR (.c J) (.a (.k 3) (.c U))] (.le J (.k 10)) B ht hm) (by have:tk 1=28:=rfl;exact ar [_,_] [.le (.a J (.k 5000)) (.k 1000000),.eq U (.k 28)] (.lt (.a (.a J (.k 1)) (.m 10 U)) (.k 1000000)) B p this) λaj ys a8 a9 f g j ly hy=>?_;have k1:tk 1=28:=rfl;rw[k1]at f;have l1:=b.len;have l2:=g.len;refine W.listOf (ar [_,_] [.le (.a (.m 2 U) (.k 50)) J] (.le (.k 18) (.a J (.k 1))) B m) f (ar [_] [.le (.a J (.k 5000)) (.k 1000000)] (.le (.a (.a (.a J (.k 1)) (.m 10 (.k 28))) (.k 3)) (.k 1000000)) B p) j.2 (by have:=j.1;exact ar [_,_,_,_] [.le (.k 50) U,.le U u,.le u D,.le u J] (.le (.k 10) J) B lh l1 l2 this) (ar [_] [.le J (.k 10)] (.le J (.k 1000)) B ly) λw a5 a' bb ap lt le c li=>W.gx λbi av a=>?_;have x:=g.trans ((p5 c).trans a.1.any);refine W.take (ar [_,_] [.le (.a (.m 2 U) (.k 50)) J] (.le (.k 2) (.a J (.k 1))) B m) (ap.dk a.1) (ar [_] [.le (.a J (.k 5000)) (.k 1000000)] (.lt (.a (.a (.a J (.k 1)) (.m 10 (.k 28))) (.k 3)) (.k 1000000)) B p) (by decide) λs bc hs ax e=>W.jf ?_;have k:=A.to (pT ((im b).trans (x.trans (im e)))) ax (ar [_] [.le (.a J (.k 5000)) (.k 1000000)] (.le (.a (.a (.a (.a (.a J (.k 1)) (.m 10 (.k 28))) (.k 3)) (.k 1)) (.k 400)) (.k 1000000)) B p);have L:=pT (im e);have vo:VO 10 av w:=⟨2,.inr (fU a5 ys ((li.mono λo0 o0 q=>q.low (by exact ar [_,_,_] [.le (.k 50) U,.le U u,.le u J] (.le (.k 10) J) B lh l1 l2)).mono (bf a.1)) ly (λy hq=>(hy y hq).mono λi o q=>(p5 c|>.trans a.1.any|>pT) i o (q.low (by exact ar [_,_] [.le (.k 50) U,.le U J] (.le (.k 10) J) B lh l1))))⟩;exact W.Fv (by exact ar [_,_] [.le (.a (.m 2 J) (.k 50)) U] (.le (.a (.m 2 J) (.k 50)) (.a U (.k 1))) B m) k ⟨L _ _ ⟨by have:=a.2.1;exact ar [_,_,_,_,_] [.le (.k 50) U,.le U u,.le u D,.le D aA,.le aA J] (.le (.k 10) J) B lh l1 l2 c.len this,a.2.2.2⟩,by simp,λy hq=>Y (dW.mp hq)<|vo.mono L⟩ λbk bm a0 l=>W.truth<|W.aQ rfl<|W.Nn (by exact ar [_,_] [.le (.a (.m 2 J) (.k 50)) U] (.le (.a (.m 2 J) (.k 50)) (.a U (.k 1))) B m) (k.to (pT (p5 l)) a0 (ar [_] [.le (.a J (.k 5000)) (.k 1000000)] (.le (.a (.a (.a (.a (.a (.a J (.k 1)) (.m 10 (.k 28))) (.k 3)) (.k 1)) (.k 300)) (.k 400)) (.k 1000000)) B p)) λa1 a2 a3 a4=>W.truth<|W.aQ rfl<|W.ret (h a1 a2 (a3.mono (ar [_] [] (.le (.a (.a (.a (.a (.a (.a J (.k 1)) (.m 10 (.k 28))) (.k 3)) (.k 1)) (.k 300)) (.k 300)) (.a J (.k 2000))) B)) ((im b).trans (x.trans ((im e).trans ((p5 l).trans a4)))))
theorem TD(h:a<=2):kc (a+1)<=300/\4*pc a+4<=88:=by rcases a with _|_|_|a;decide;decide;decide;exact absurd h (Nat.not_le.mpr (qB 3 a))
theorem Uj{j:Nat}(h:([V.bool true,.bool false]:List V)[j]? =some x):∃s,x=.bool s:=by rcases j with _|_|j;have e:=ao h;exact⟨true,e.symm⟩;have e:=ao h;exact⟨false,e.symm⟩;exact ns h
theorem Jh{t:Nat}(hn:60<=n)(ht:t<=3)(b0:Base H t C N)(q:Int)(hC:C+10000<=1000000)(h:∀H' N',Base H' t (C+5000) N'->Ext eQ H H'->Q (.go v7) H'):W (xR n v7 (.int q)) H Q:=by refine Y (Nj _ _ _ _ _) ?_;have lh:=b0.len;refine W.gx λsi H₀ b=>?_;have aj:=b0.dk b.1;have l0:=b.1.len;refine W.wa aj<|W.fdiv ⟨by decide,by decide+kernel⟩<|W.add ?_;obtain⟨k,eD,hD⟩:∃k:Nat,(1)+Int.fdiv (t) 2=(k)/\k<=2:=(ak (1+t/2) (by refine Y (Int.fdiv_eq_ediv_of_nonneg _ (by decide)) ?_;rfl) (ar [_,_] [.le J (.k 3),.and (.le (.m 2 U) J) (.lt J (.a (.m 2 U) (.k 2)))] (.le (.a (.k 1) U) (.k 2)) B ht (eW (lb B))));refine Y eD ?_;have g:=TD hD;refine Sb k (n+1) si 0 true H₀ t C N _ _ _ (ar [_,_] [.le (.k 60) U,.le J (.k 2)] (.le (.a (.m 2 J) (.k 4)) (.a U (.k 1))) B hn hD) aj (ar [_,_,_] [.le (.a J (.k 10000)) (.k 1000000),.and (.le U (.k 300)) (.le (.a (.m 4 u) (.k 4)) (.k 88))] (.le (.a J U) (.k 1000000)) B hC g) (by have:=b.2.1;exact ar [_,_,_,_,_] [.le (.k 50) U,.le U u,.and (.le D (.k 300)) (.le (.a (.m 4 aA) (.k 4)) (.k 88)),.le U J] (.le (.k 10) J) B lh l0 g this) b.2.2.2 (by have:ru true=4:=rfl;exact ar [_,_,_] [.and (.le u (.k 300)) (.le (.a (.m 4 J) (.k 4)) (.k 88)),.eq U (.k 4)] (.le (.a (.a (.k 0) (.m 4 J)) U) (.k 100)) B g this) λv r m a4 R=>?_;have af:=R.d.aB;rw[show ru true=4 from rfl]at af;have nm:=R.d.names.2;rw[Nat.sub_zero]at nm;have vm:∀i,i<m->i<100:=λi hi=>ar [_,_,_,_] [.and (.le U (.k 300)) (.le (.a (.m 4 u) (.k 4)) (.k 88)),.le D (.a (.k 0) (.a (.m 4 u) (.k 4))),.lt J D] (.lt J (.k 100)) B g af hi;have A:ic (k+1) a4 t (C+kc (k+1)- 1) N v r:=⟨R.d.base,R.is.mono (λo0 o0 q=>q.low (ar [_,_] [.le (.k 50) U,.le U J] (.le (.k 10) J) B lh l0)) λo0 o0=>bK.mono λo0 o0 q=>q.low (by exact ar [_,_] [.le (.k 50) U,.le U J] (.le (.k 10) J) B lh l0),λs hs=>ad (ig.mp (nm.subset hs)) λi hi c=>ae c<|(ak i (vm i (by have:=List.mem_range'_1.mp hi;exact ar [_,_] [.and (.le (.k 0) J) (.lt J (.a (.k 0) U))] (.lt J U) B this)) rfl),nm.nodup (by refine qG ?_ OC;exact Y List.range_eq_range'<|(List.range'_sublist_right.mpr (by exact ar [_,_,_] [.and (.le U (.k 300)) (.le (.a (.m 4 u) (.k 4)) (.k 88)),.le J (.a (.k 0) (.a (.m 4 u) (.k 4)))] (.le J (.k 100)) B g af)).map _),by have:=nm.length_le;rw[bD,List.length_range']at this;exact ar [_,_,_,_] [.and (.le U (.k 300)) (.le (.a (.m 4 u) (.k 4)) (.k 88)),.le D (.a (.k 0) (.a (.m 4 u) (.k 4))),.le J D] (.le J (.k 100)) B g af this,ar [_,_,_] [.le (.a J (.k 10000)) (.k 1000000),.and (.le U (.k 300)) (.le (.a (.m 4 u) (.k 4)) (.k 88))] (.le (.a (.s (.a J U) (.k 1)) (.k 400)) (.k 1000000)) B hC g⟩;have l:=A.base;have a2:=l.len;refine W.wa l<|W.add<|W.take (ar [_] [.le (.k 60) J] (.le (.k 2) (.a J (.k 1))) B hn) l (ar [_,_,_] [.le (.a J (.k 10000)) (.k 1000000),.and (.le U (.k 300)) (.le (.a (.m 4 u) (.k 4)) (.k 88))] (.lt (.s (.a J U) (.k 1)) (.k 1000000)) B hC g) (ar [_] [.le J (.k 3)] (.and (.aR (.k 0) (.a (.k 4) (.c J))) (.aR (.a (.k 4) (.c J)) (.k 1000))) B ht) λb1 b2 hm a5 o=>W.range<|W.things (ar [_] [.le (.k 60) J] (.le (.a (.k 20) (.k 2)) (.a J (.k 1))) B hn) a5 (ar [_,_] [.le U (.k 3),.aR (.c J) (.a (.k 4) (.c U))] (.le J (.k 10)) B ht hm) (by have:tk 2=94:=rfl;exact ar [_,_,_,_] [.le (.a J (.k 10000)) (.k 1000000),.and (.le U (.k 300)) (.le (.a (.m 4 D) (.k 4)) (.k 88)),.eq u (.k 94)] (.lt (.a (.a (.s (.a J U) (.k 1)) (.k 1)) (.m 10 u)) (.k 1000000)) B hC g this) λai xs a6 a7 p ap a8 lx hx=>?_;have k2:tk 2=94:=rfl;rw[k2]at p;have l2:=o.len;have bs:=pT ((im o).trans ap);have a9:=A.to bs p (ar [_,_,_] [.le (.a J (.k 10000)) (.k 1000000),.and (.le U (.k 300)) (.le (.a (.m 4 u) (.k 4)) (.k 88))] (.le (.a (.a (.a (.s (.a J U) (.k 1)) (.k 1)) (.m 10 (.k 94))) (.k 400)) (.k 1000000)) B hC g);have Ar:mA a6 ai xs:=⟨a8.low (ar [_,_] [.le (.k 50) U,.le U J] (.le (.k 10) J) B a2 l2),lx,λy hy=>⟨2,(hx y hy).mono λo0 o0 q=>q.low (by exact ar [_,_] [.le (.k 50) U,.le U J] (.le (.k 10) J) B a2 l2)⟩⟩;have bv:=(b.1.any.trans' R.d.ext λi hi=>by rcases ca.mp hi with rfl|hi;exact .inl (.head _);exact Y (dW.mp hi)<| .inr b.2.1).trans ((im o).trans ap);refine W.rL (λj a H'=>a=DT q v ai/\∃N',Ext eQ H H'/\Base H' t (C+kc (k+1)- 1+1+940+j*300) N'/\ic (k+1) H' t (C+kc (k+1)- 1+1+940+j*300) N' v r/\mA H' ai xs) (fh rfl a7 bv (aX (by simpa using p) (by simpa using a9) Ar)) (λj x a a' hj iv=>?_) λa a' iv=>?_;refine xA iv λc a0=>Y c<|cT a0 λbb w bc f e=>?_;have bx:=(bR.mp hj).1;have hs:=Uj hj;refine xE hs λs c=>Y c<|Y (LG _ _ _ _ _ _ _ _)<|W.Fv (by exact ar [_,_] [.le (.k 60) U,.le J (.k 2)] (.le (.a (.m 2 (.a J (.k 1))) (.k 50)) (.a U (.k 1))) B hn hD) f e λbk av bm ax=>W.truth<|W.aQ rfl<|W.ret ?_;have a3:=pT (p5 ax);have L:Base bk t (C+kc (k+1)- 1+1+940+(j+1)*300) av:=Y (qC _ _)<|ae (lH _ _ _)<|bm;exact(fh rfl av (w.trans (p5 ax)) (aX L (f.to a3 L (ar [_,_,_,_] [.le (.a J (.k 10000)) (.k 1000000),.and (.le U (.k 300)) (.le (.a (.m 4 D) (.k 4)) (.k 88)),.lt u (.k 2)] (.le (.a (.a (.a (.a (.s (.a J U) (.k 1)) (.k 1)) (.k 940)) (.r (.a u (.k 1)) 300)) (.k 400)) (.k 1000000)) B hC g bx)) (e.mono a3)));refine xA iv λc a0=>Y c<|cT a0 λbb w bc f e=>?_;have a1:=f;exact UB (d:=k+1) (ar [_,_] [.le (.k 60) U,.le J (.k 2)] (.le (.a (.m 2 (.a J (.k 1))) (.k 50)) U) B hn hD) ht a1 q ai (ar [_,_,_] [.le (.a J (.k 10000)) (.k 1000000),.and (.le U (.k 300)) (.le (.a (.m 4 u) (.k 4)) (.k 88))] (.le (.a (.a (.a (.a (.s (.a J U) (.k 1)) (.k 1)) (.k 940)) (.m 2 (.k 300))) (.k 5000)) (.k 1000000)) B hC g) λH' N' B' x'=>h H' N' (B'.mono (ar [_,_,_] [.le (.a J (.k 10000)) (.k 1000000),.and (.le U (.k 300)) (.le (.a (.m 4 u) (.k 4)) (.k 88))] (.le (.a (.a (.a (.a (.s (.a J U) (.k 1)) (.k 1)) (.k 940)) (.m 2 (.k 300))) (.k 2000)) (.a J (.k 5000))) B hC g)) (w.trans x')
theorem Rt c d(l:xs.length<=63)(y:∀x∈xs,∃i,x=.int i):∃H',vN 62 [.ref 0] [.lit xs c d,iJ,iw]=some (.ok (.bool true),H')/\H'[0]? =some (.lit xs c d)/\H'[1]? =some iJ/\H'[2]? =some iw:=by
 have k:W (vN 62 [.ref 0]) [.lit xs c d,iJ,iw] λa H'=>a=.bool true/\H'[0]? =some (.lit xs c d)/\H'[1]? =some iJ/\H'[2]? =some iw:=Y (rfl:(62)=60+2)<|Y (NT _ _)<|QK (by decide) l y λf s ys t A C H n=>W.alloc<|W.make<|(fU .none (vB (.lit xs c d) (.list ys) (.list (lU f 0 s t))) (Ny _ _ _) rfl ?_);refine(?_:W (Dg 60 (.ref 4) (.ref 0) (.ref 6)) _ _);have v:Base (vB (.lit xs c d) (.list ys) (.list (lU f 0 s t))) t 5 6:=JS A C H;refine W.wa v<|W.add<|W.range<|Y (an [] (.cu (.a (.k 1) (.c J)) (.c (.a (.k 1) J))) B:(1)+(t)=((1+t):Int))<|W.forR (λj a H'=>a=v7/\∃w,Base H' t (5+j*5000) w/\H'[0]? =some (.lit xs c d)) (an [.le J (.k 3)] (.lt (.a (.k 1) J) (.k 1000)) B n) (fh rfl 6 v rfl) (λj a H' L o=>?_) λa H' o=>?_;exact xA o λb g=>Y b<|ad g λw m h=>Jh (by decide) n m j (ah [.le U (.k 3),.lt J (.a (.k 1) U)] (.le (.a (.a (.k 5) (.r J 5000)) (.k 10000)) (.k 1000000)) B n L) λQ p q r=>(fh rfl p (Y (qC _ _)<|ae (lH _ _ _)<|q) (r.get h (by decide)));exact xA o λb g=>Y b<|ad g λo0 m h=>Y (V3 _ _ _ _)<|W.ret (bA rfl h m.tb.1 m.tb.2.1)
 exact fQ k λa H' e b h=>ae b<|(ak H' e h)
set_option backward.match.sparseCases true
def gL(h:aW)(l:List Nat):aW:=l.rec h λa c b=>{b with objs:=b.objs.setIfInBounds a ⟨.none,none,.freed,#[]⟩}
theorem Ls{h:aW}{a b:Nat}:Heap.get? {h with objs:=h.objs.setIfInBounds a ⟨.none,none,.freed,#[]⟩} b=if b=a then none else h.get? b:=by delta Heap.get?;refine Y (Array.getElem?_setIfInBounds) ?_;by_cases q:a=b;refine Y (if_pos q)<|Y (if_pos q.symm) ?_;by_cases l:a<h.objs.size;exact Y (if_pos l) rfl;exact Y (if_neg l) rfl;exact Y (if_neg q)<|Y (if_neg (ch q)) rfl
theorem yF d(b:Nat):(gL h d).get? b=if b∈d then none else h.get? b:=by induction d with
 |nil=>exact(if_neg f4).symm
 |cons a r e=>refine(Ls (h:=gL h r)).trans ?_;by_cases q:b=a;exact Y (if_pos q)<|(if_pos (q▸.head _)).symm;refine Y (if_neg q)<|Y e ?_;by_cases c:b∈r;exact Y (if_pos c)<|Y (if_pos (.tail _ c)) rfl;exact Y (if_neg c)<|Y (if_neg λx=>(ca.mp x).elim q c) rfl
theorem ED{b:Nat}(e:(gL h a).get? b=some o):b∉a/\h.get? b=some o:=by rw[yF]at e;by_cases q:b∈a;rw[if_pos q]at e;exact ns e;rw[if_neg q]at e;exact⟨q,e⟩
theorem rv{b:Nat}(e:h.get? b=some o)(n:b∉a):(gL h a).get? b=some o:=Y (yF _ _)<|Y (if_neg n)<|e
theorem UW(h:aW)(n:Nat):(∀b o,h.get? b=some o->b<n)->(∃b o,h.get? b=some o)->∃d,(∃o,h.get? d=some o)/\∀b o,h.get? b=some o->b<=d:=by induction n with
 |zero=>exact λa c=>fD c λb o e=>absurd (a b o e) (HX _)
 |succ n f=>intro a c;rcases q:h.get? n with _|o;exact f (λb o e=>wU (Xo (a b o e)) λg=>ns (q.symm.trans (g▸e))) c;exact(ak n ⟨o,q⟩ (λb o e=>Xo (a b o e)))
theorem OB:∀{ns:List Int}{vs}{a},ReadsAllW R k h vs (ns.map .int) a->aH φ h (ns.map V.int) vs:=by
 intro b;induction b with
 |nil=>intro vs a r;exact Y (readsAllW_nil_inv r).1<| .nil
 |cons n ns c=>intro vs a r;exact eZ (readsAllW_cons_inv r) λv l m o d e=>bN e λf g i=>ad (readsW_int_inv g) λt j f=>Y d<|Y j<| .cons _ _ _ _ (.int _ _) (c i)
theorem JL{ns:List Int}{b:Nat}(d:h.get? b=some y)(hc:y.cls=.type "list")(hd:y.data=.seq vs n)(hv:∀φ,aH φ h (ns.map V.int) vs.toList)(hs:b≠jA)(h1:h.get? 1005=some (wV #[]))(h2:h.get? 1010=some (wV #[]))(h3:h.get? 1020=some v)(hl:b≠1020):∃(φ:cy)(as:List Nat)(l:Nat)(Q:Obj),as=[b,l,1005,1010]/\φ=[(b,l),(1005,1005),(1010,1010)]/\h.get? l=some Q/\(l=b\/1020<l)/\Rel w (gL h as) φ [.lit (ns.map V.int) y Q,.tab 1005 ⟨644,27,644,76⟩ "_law_bound_right.<locals>.<lambda>",.tab 1010 ⟨665,27,665,72⟩ "_law_told_right.<locals>.<lambda>"] h:=by
 refine ad (UW h h.objs.size (λb o=>du) (iI b y d)) λl af r=>xE af λQ hB=>?_;have A:b≠1005:=λq=>by rw[q,h1]at d;obtain rfl:=ao d;injection hc
 have C:b≠1010:=λq=>by rw[q,h2]at d;obtain rfl:=ao d;injection hc
 obtain⟨f,t,H,L,ai⟩:∃f t,h.get? f=some t/\(f=b\/1020<f)/\∀x o,h.get? x=some o->x<=max 1020 f:=by by_cases q:1020<l;exact(fU l Q hB (.inr q) (λx o e=>aG (r x o e) (Xp _ _)));exact(fU b y d (.inl rfl) (λx o e=>aG (r x o e) (aG (iP.mp q) (Wl _ _))))
 have B1:f≠1005/\f≠1010/\f≠1020/\f≠jA:=by rcases L with rfl|g;exact(bA A C hl hs);exact(bA (λq=>by rw[q]at g;exact absurd g (by decide)) (λq=>by rw[q]at g;exact absurd g (by decide)) (λq=>by rw[q]at g;exact absurd g (by decide)) (λq=>by rw[q]at g;exact absurd g (by decide)))
 have out:∀x∈[b,f,1005,1010],(gL h [b,f,1005,1010]).get? x=none:=λx q=>Y (yF _ _)<|Y (if_pos q) rfl;refine(pK _ _ f t rfl (bA rfl H L ⟨λx o e=>(ED e).2,rfl,λi o e=>?_,λi j p q s k ne=>?_,λx q=>?_,⟨v,rv h3 (by simp;exact⟨λg=>hl g.symm,λg=>B1.2.2.1 g.symm⟩)⟩,λx o e=>ai x o (ED e).2,by simp⟩));rcases i with _|_|_|i;have a:=ao e;exact ae a<|(dS _ rfl d H (bQ vs n ⟨hc,hd⟩ (hv _)));have a:=ao e;exact ae a<|(dS _ rfl rfl rfl (ak (#[]) h1 (.inl rfl)));have a:=ao e;exact ae a<|(dS _ rfl rfl rfl (ak (#[]) h2 (.inl rfl)));injection e;refine cW B1 λc1 c2 o0 o0=>?_;rcases i with _|_|_|i;rcases j with _|_|_|j;exact absurd rfl ne;have a:=ao s;refine ae a ?_;have c:=ao k;exact ae c<|(bA A A c1 c1);have a:=ao s;refine ae a ?_;have c:=ao k;exact ae c<|(bA C C c2 c2);injection k;rcases j with _|_|_|j;have a:=ao s;refine ae a ?_;have c:=ao k;exact ae c<|(bA A.symm c1.symm A.symm c1.symm);exact absurd rfl ne;have a:=ao s;refine ae a ?_;have c:=ao k;refine ae c ?_;decide;injection k;rcases j with _|_|_|j;have a:=ao s;refine ae a ?_;have c:=ao k;exact ae c<|(bA C.symm c2.symm C.symm c2.symm);have a:=ao s;refine ae a ?_;have c:=ao k;refine ae c ?_;decide;exact absurd rfl ne;injection k;injection s;refine ad q λp hp hx=>?_;have m:x∈[b,f,1005,1010]/\x≠jA:=by simp only[ca,f4,or_false]at hp;rcases hp with rfl|rfl|rfl;rcases hx with rfl|rfl;exact⟨.head _,hs⟩;exact⟨.tail _ (.head _),B1.2.2.2⟩;rcases hx with rfl|rfl<;>exact⟨by simp,by decide⟩;rcases hx with rfl|rfl<;>exact⟨by simp,by decide⟩
 exact⟨out x m.1,m.2⟩
set_option backward.match.sparseCases false
noncomputable abbrev k4:RowW:=XC.row.toRowW
theorem QY:∀{xs},Xq R xs .int=true->∃ns:List Int,xs=ns.map .int:=by
 intro a;induction a with
 |nil=>intro _;exact⟨[],rfl⟩
 |cons x xs b=>intro h;unfold Xq at h;rw[bO]at h;obtain⟨ns,e⟩:=b h.2;obtain⟨n,rfl⟩:=(hasW_int h.1);exact⟨n::ns,by refine Y e ?_;rfl⟩
theorem N0(h:k4.claim.pre b=true):∃ns:List Int,b=[.list (ns.map .int)]/\ns.length<=63:=by
 refine xA (pre_splitW h) λj i=>bZ (hasAllW_cons j) λd r a c=>?_;subst a;refine xA c λk m=>?_;have f:=hasAllW_nil m;subst f;refine ad (hasW_list k) λxs a n=>?_;subst a;refine xE (QY n) λns a=>?_;subst a;refine(ak ns rfl ?_);have e:k4.pre=.and (.not (.lt (.lit (.int 63)) (.len (.arg 0)))) (.lit (.bool true)):=by kernel_rfl
 rw[e]at i;by_cases l:ns.length<=63;exact l;have g:∀d,d=true->∀{R e},WTm.holds R (.and (.not (.lit (.bool d))) (.lit (.bool true))) e=true->False:=λd q R e h=>by subst q;exact ft h
 exact(g _ (decide_eq_true (Y (bD _)<|an [.n (.le J (.k 63))] (.aR (.k 63) (.c J)) B l)) (R:=k4.records) (e:={args:=[.list (ns.map .int)]}) i).elim
structure KJ P K: Prop where
  kf : KF P K
  ok : K.all (λp => p.2.cls != .type "list" && p.1 != 1005 && p.1 != 1010 && decide (p.1 <= 1020)) = true
  F5 : nsIn K f7 "law" = some (some (.ref 1020))
  at_ : ∃ o, K.lookup 1020 = some o
  bi : ∃ bm, (bm <= 1020 /\ bm ≠ 1005 /\ bm ≠ 1010) /\ nsIn K f7 "__builtins__" = some (some (.ref bm))
theorem Sr{a:Nat}(x:h.Ns a m)(n:a∉b):(gL h b).Ns a m:=bh λg c=>fW x λo d e f r=>c<|(k8 o d e (rv f n) r)
theorem G6{K:aE}{c P:Nat}(X:K.In h)(e:codeHdIn K c P=true):Bw h P:=fD (H_ X e) λo vs q=>ui q λa a a q=>eZ q λa a a a b q=>cW q λd f g a=>(dK c o vs b d f g)
theorem vS {K : aE} {a : Nat}(h : K.all (λp => p.2.cls != .type "list" && p.1 != 1005 && p.1 != 1010 && decide (p.1 <= 1020)) = true) (e : K.lookup a = some o) : o.cls ≠ .type "list" /\ a ≠ 1005 /\ a ≠ 1010 /\ a <= 1020 :=o6 (c0.mp h (a, o) (gH e)) λb c d f =>(bA (bne_iff_ne.mp b) (bne_iff_ne.mp c) (bne_iff_ne.mp d) (of_decide_eq_true f))
structure qL(h:aW)(b:Nat)ob vs n:Prop where
 fF:h.get? b=some ob
 hc:ob.cls=.type "list"
 hd:ob.data=.seq vs n
theorem GC{K:aE}(c:qL h b g vs n)(X:K.In h)(d:KJ i K):∀a o,K.lookup a=some o->a≠b:=λa o e f=>by subst f;have:=X _ _ e;rw[c.fF]at this;obtain rfl:=ao this;exact(vS d.ok e).1 c.hc
theorem w8(c:d=b\/1020<d):∀x,x≠b->x≠1005->x≠1010->x<=1020->x∉[b,d,1005,1010]:=λx e f g l m=>by rcases ca.mp m with m|m;exact e m;rcases ca.mp m with m|m;rcases c with a|a;exact e (m.trans a);rw[m]at l;exact absurd a (iP.mpr l);rcases ca.mp m with m|m;exact f m;exact g (dW.mp m)
theorem zK(d:qL h b p vs n)(c:e=b\/1020<e){x:Nat}(f:h.Ns x m)(i:x≠1005)(j:x≠1010)(l:x<=1020):(gL h [b,e,1005,1010]).Ns x m:=Sr f (w8 c x (λk=>by refine eJ f λo q r g a s=>?_;rw[k,d.fF]at g;obtain rfl:=ao g;rw[d.hd]at a;injection a) i j l)
theorem Dj{K:aE}(T:Top p l x y mb h)(m:qL h b ob vs n)(f:q=b\/1020<q)(X:K.In h)(A:KJ P0 K)(Q:Nat)(C:Q=1005\/Q=1010):(gL h [b,q,1005,1010]).BuiltinsAt y Q:=by refine je T.bmain λr g s H c L i=>xA i λe5 d=>ad A.bi λaf j hn=>bN j λl1 t v=>?_;have:=mg_of X T.g hn;rw[s]at this;injection ao this with k;subst k;refine(iu r g s H ?_ ?_ (bA (rv c (w8 f r (λe=>?_) t v l1)) L e5 d));refine λe=>eJ T.g λo es ep w a o0=>?_;rw[<-e,c]at w;obtain rfl:=ao w;rw[d]at a;injection a;rcases C with rfl|rfl;exact t;exact v;rw[e,m.fF]at c;obtain rfl:=ao c;rw[m.hd]at d;injection d
theorem UF{K:aE}(T:Top p g j k mb h)(f:qL h b s vs n)(c:i=b\/1020<i)(X:K.In h)(d:KJ l K)(m:l=w.params):Ctx k4.prog w (gL h [b,i,1005,1010]) K:=by
 subst m;refine⟨λa o e=>rv (X a o e) (w8 c a (GC f X d a o e) (vS d.ok e).2.1 (vS d.ok e).2.2.1 (vS d.ok e).2.2.2),?_,?_,d.kf⟩;exact ad T.nolimit λq x y=>(ak q (zK f c x (by decide) (by decide) (lb B)) y);exact(iu k mb (zK f c T.g (by decide) (by decide) (lb B)) (zK f c T.b (by decide) (by decide) (lb B)) (λp r=>T.builtins p.1 (by
  have:pW.all (λp=>p.1 !=("__name__"))=true:=by kernel_rfl
  exact bne_iff_ne.mp (c0.mp this p r))) (Dj T f c X d 1005 (.inl rfl)) (Dj T f c X d 1010 (.inr rfl)))
inductive Ez(b B:Nat)ob oB(s₁ s':bS):Prop
 |mk (l1:s'.heap.get? b=some ob) (l2:s'.heap.get? B=some oB) (t1:∃ps,s'.heap.get? 1005=some {cls:=.none,data:=.fields ps}) (t2:∃ps,s'.heap.get? 1010=some {cls:=.none,data:=.fields ps})
 (base:∀x o,(gL s₁.heap [b,B,1005,1010]).get? x=some o->s'.heap.get? x=some o) (os:s'.os=s₁.os) (gens:s'.gens=s₁.gens) (fg:∀x o,s₁.heap.get? x=some o->∃o',s'.heap.get? x=some o')
theorem MX{K:aE}{ns:List Int}{φ:cy}(o:φ=[(b,j),(1005,1005),(1010,1010)])(C:Ctx k4.prog w (gL a.heap [b,j,1005,1010]) K)(S:jR k4.prog w (gL a.heap [b,j,1005,1010]))(q:ns.length<=63)(R:Rel w (gL a.heap [b,j,1005,1010]) φ [.lit (ns.map V.int) y A,iJ,iw] a.heap){T:Result->bS->Prop}(hT:∀s',Ez b j y A a s'->T (.ok (.ret (.bool true))) s'):eU (aq k4.prog w) callerA (.call (.ref 1020) ⟨[.ref b],[]⟩) T a:=by subst o;refine cT (Rt y A (by simpa using q) (λx hx=>by obtain⟨i,_,rfl⟩:=ig.mp hx;exact⟨i,rfl⟩)) λH' hm H t1 t2=>(S3 C S 63).run 1020 (vN 62) (by rfl) callerA _ a _ [.ref 0] [.ref b] (bA (.inl rfl) (by decide+kernel) (by decide+kernel) ⟨[],rfl⟩) ⟨R,λl hl=>by injection hl with e;subst e;exact λaf he=>nomatch he⟩ (.cons _ _ _ _ (.ref 0 (b,j) rfl) .nil) _ _ hm _ (λr s' bb v m g k hv=>?_) (λr s' x ee m g F'=>nomatch m);injection m with e;subst e;rcases hv;refine xE k.pre λt s=>?_;subst s;refine hT s' ⟨?_,?_,?_,?_,g.rel.base,k.os,k.gens,k.fg⟩;refine cT (g.rel.objs 0 _ H) λp c L Q d=>?_;obtain rfl:=ao c;exact L;refine cT (g.rel.objs 0 _ H) λp c L Q d=>?_;obtain rfl:=ao c;exact Q;refine cT (g.rel.objs 1 _ t1) λp c d d f=>ad f λn h d=>?_;obtain rfl:=ao c;exact⟨n,h⟩;refine cT (g.rel.objs 2 _ t2) λp c d d f=>ad f λn h d=>?_;obtain rfl:=ao c;exact⟨n,h⟩
theorem JI(E:Ez b k n o a s')(i:a.heap.get? b=some n)(p:a.heap.get? k=some o)(q:a.heap.get? 1005=some (wV #[]))(r:a.heap.get? 1010=some (wV #[]))(s:Bw a.heap 1005)(v:Bw a.heap 1010):OldK a.heap s'.heap:=by obtain⟨w,y,A,C,f,_,_,g⟩:=E;refine⟨λx l d=>?_,g⟩;have c:∀{P},a.heap.get? P=some (wV #[])->Bw a.heap P->(∃h,s'.heap.get? P=some {cls:=.none,data:=.fields h})->a.heap.get? P=some l->asItWas a.heap s'.heap P l:=λH L t e=>xE t λh j=>ae (ao (H.symm.trans e))<| .inr (.inl (kG L rfl (#[]) h rfl (Y Array.empty_append<|j)));by_cases m:x∈[b,k,1005,1010];rcases ca.mp m with rfl|m;exact ae (ao (i.symm.trans d))<| .inl w;rcases ca.mp m with rfl|m;exact ae (ao (p.symm.trans d))<| .inl y;rcases ca.mp m with rfl|m;exact c q s A d;obtain rfl:=dW.mp m;exact c r v C d;exact .inl (f _ _ (rv d m))
set_option tactic.hygienic true in
theorem QX{K:Params->aE}{e:∀P,as=(K P).map (·.1)}{d:DefRec}(a2:∀P,KJ P (K P))(hd:d.name="law")(S:∀w hb,jR k4.prog w hb):WalkO q af XP (kmHook K as e [1010,1005]).says k4 d a4 (λf vs=>PySem.call f vs):=by
 intro w av m mg mb G aj a o pm cd a5 dV kV ho ai a6 a7 k i ax a0 a8 p a1 hr hw r;have X:=km_in_of aj;have tb:=km_tabs_of aj;have j:=a2 w.params;refine ad (N0 p) λns g t=>?_;subst g;rw[hd,mg_of X G.T.g j.F5]at k;injection k with v;injection v with x;subst x;rcases hr;case cons r1 r2=>
 rcases r2;cases r1 with
 | @list b ob vs n _ a9 h hc l y=>refine xE j.at_ λoL hL=>?_;have h1:=tb 1005 (by simp);have h2:=tb 1010 (by simp);have ap:qL m.heap b ob vs n:=⟨h,hc,l⟩;refine eZ (JL (w:=w) h hc l (λφ=>OB y) (beq_eq_false_iff_ne.mp (r b (by simp))) h1 h2 (X _ _ hL) (λa3=>GC ap X j _ _ hL a3.symm)) λφ bh a' oB g A=>?_;subst g;refine xA A λC H=>bN H λhB L R=>enter_call<|MX C (UF G.T ap L X j rfl) (S w _) t R λs' E=>?_;have c:=(KC.of j.kf.bY).met;unfold q_ at c;have Q:=JI E h hB h1 h2 (G6 X (iO.mp (iO.mp (iO.mp c).1).1).1) (G6 X (iO.mp (iO.mp (iO.mp c).1).1).2);obtain⟨_,_,_,_,_,os,s,_⟩:=E;exact(bA (.inl (dK (.bool true) (.bool true) [] rfl (λo0=>rfl) (.bool true) ⟨by kernel_rfl,λo0=>⟨Xb,λo0 hm=>((f4 hm).elim)⟩⟩)) Q os (AllBare.of_eq (s.trans i)))
set_option backward.match.sparseCases true
structure SB a₀ P st:Prop where
 perm:(az st).Perm a₀
 kind:kindOf st=gT
 failed:om st=none
 pend:eG st=P
theorem SB.size{st:aO}(h:SB a P st):(az st).size=a.size:=h.perm.size_eq
theorem SB.setArr{st:aO}(h:SB a P st)(b:xs.Perm (az st)):SB a P (tL st xs):=⟨b.trans h.perm,h.kind,h.failed,h.pend⟩
theorem SB.at_{st:aO}(h:SB b P st)(f:KeysOf κ b)(hi:i<b.size):∃x p a,(az st)[i]? =some (x,p)/\κ.keyOf x=some a/\KK κ (az st) i=a:=by
 have c:i<(az st).size:=Y h.size<|hi
 obtain⟨a,d⟩:=f _ ((Ij.mp h.perm).mem_iff.mp (by simp:(az st)[i]∈(az st).toList));have e:(az st)[i]? =some (az st)[i]:=getElem?_pos _ i c;refine(nu ((az st)[i].1) ((az st)[i].2) a e d ?_);unfold KK;refine Y e ?_;simp[d]
theorem rA{st:aO}(f:κ.OneLt)(d:SB c P st)(e:KeysOf κ c)(hi:i<c.size)(g:j<c.size)(h:Q (some (κ.blt (KK κ (az st) i) (KK κ (az st) j))) st):bU (aq prog w) A E s (ltAt' i j) Q st:=by refine eJ (d.at_ e hi) λx p a k l m=>eJ (d.at_ e g) λy q b n o r=>?_;rw[m,r]at h;exact wpS_ltAtK f d.kind k n l o h
def Up(κ:oq)(xs:Array d6)lo k:=∀i j,i<=j->j<k->κ.kle (KK κ xs (lo+i)) (KK κ xs (lo+j))
def Dn(κ:oq)(xs:Array d6)lo k:=∀i j,i<=j->j<k->κ.kle (KK κ xs (lo+j)) (KK κ xs (lo+i))
def Fx κ lo xs ys:=∀i,i<lo->KK κ ys i=KK κ xs i
theorem Fx.refl{lo:Nat}:Fx κ lo xs xs:=λa a=>rfl
theorem Fx.trans{lo:Nat}(a:Fx κ lo xs ys)(b:Fx κ lo ys c):Fx κ lo xs c:=λi h=>(b i h).trans (a i h)
theorem Up.add{lo k:Nat}(h:Up κ xs lo k)(hk:1<=k)(l:κ.kle (KK κ xs (lo+(k- 1))) (KK κ xs (lo+k))):Up κ xs lo (k+1):=λi j a c=>by by_cases q:j<k;exact h i j a q;have:j=k:=ah [.lt J (U+1),.n (.lt J U)] (.eq J U) B c q;subst this;by_cases b:i=j;exact Y b<|qI _;exact tM (h i (j- 1) (ah [.le J U,.le 1 U,.n (.eq J U)] (.le J (U-1)) B a hk b) (an [.le 1 J] (.lt (J-1) J) B hk)) l
theorem Dn.add{lo k:Nat}(h:Dn κ xs lo k)(hk:1<=k)(l:κ.kle (KK κ xs (lo+k)) (KK κ xs (lo+(k- 1)))):Dn κ xs lo (k+1):=λi j a c=>by by_cases q:j<k;exact h i j a q;have:j=k:=ah [.lt J (U+1),.n (.lt J U)] (.eq J U) B c q;subst this;by_cases b:i=j;exact Y b<|qI _;exact tM l (h i (j- 1) (ah [.le J U,.le 1 U,.n (.eq J U)] (.le J (U-1)) B a hk b) (an [.le 1 J] (.lt (J-1) J) B hk))
theorem Up.one{lo:Nat}:Up κ xs lo 1:=λi j a b=>by
 have:i=j:=ah [.le J U,.lt U 1] (.eq J U) B a b
 exact Y this<|qI _
theorem Dn.one{lo:Nat}:Dn κ xs lo 1:=λi j a b=>by
 have:i=j:=ah [.le J U,.lt U 1] (.eq J U) B a b
 exact Y this<|qI _
theorem Up.to{lo:Nat}(h:Up κ xs lo k)(e:∀i,i<k->KK κ ys (lo+i)=KK κ xs (lo+i)):Up κ ys lo k:=λi j a b=>Y (e i (iR a b))<|Y (e j b)<|h i j a b
theorem Dn.to{lo:Nat}(h:Dn κ xs lo k)(e:∀i,i<k->KK κ ys (lo+i)=KK κ xs (lo+i)):Dn κ ys lo k:=λi j a b=>Y (e i (iR a b))<|Y (e j b)<|h i j a b
noncomputable def w9(lo a d:Nat):StateT aO a_ AscSt:=forIn [a:d] ((none,a)) λe c=>do let x <-ltAt' (lo+c.snd) (lo+c.snd- 1) match x with
 |some b=>if b=true then pure (wW (none,c.snd))else pure (qy (none,c.snd+1))
 |_=>pure (wW (some none,c.snd))
theorem FH{f:Array d6}{st:aO}{lo a:Nat}(p:κ.OneLt)(q:KeysOf κ f)(o:lo+b<=f.size)(r:1<=a)(j:a<=b)(t:SB f P st)(v:Up κ (az st) lo a)(h:∀n,a<=n->n<=b->Up κ (az st) lo n->(n=b\/κ.klt (KK κ (az st) (lo+n)) (KK κ (az st) (lo+(n- 1))))->Q (none,n) st):bU (aq prog w) A E s (w9 lo a b) Q st:=by
 refine gu (I:=λx c d=>d=st/\c=(none,x)/\Up κ (az st) lo x) ?step ?fin (aX rfl rfl v);case fin=>intro c d l;obtain⟨rfl,rfl,e⟩:=l;rw[AN j]at e⊢;exact h b j (aS _) e (.inl rfl)
 case step=>intro x c d k i l;obtain⟨rfl,rfl,e⟩:=l;have m:=aG r k;refine Y (Bx m _)<|aM (rA p t q (aU [.le (J+D) u,.lt U D] (.lt (J+U) u) B o i) (aU [.le (J+D) u,.lt U D,.le 1 U] (.lt (J+(U-1)) u) B o i m) ?_);rcases g:κ.blt (KK κ (az d) (lo+x)) (KK κ (az d) (lo+(x- 1)))with _|_;exact aT (aX rfl rfl (e.add m g));exact aT (h x k (dU i) e (.inr g))
noncomputable def EH(lo n d:Nat):StateT aO a_ DescSt:=
  forIn [n:d] ((none,n,0)) λe a=>do
    let x <-ltAt' (lo+a.snd.fst) (lo+a.snd.fst- 1)
    match x with
    |some b=>
      if b=true then
        if a.snd.snd>0 then do
          By (lo+a.snd.fst-(a.snd.snd+1)) (lo+a.snd.fst)
          pure (qy (none,a.snd.fst+1,0))
        else pure (qy (none,a.snd.fst+1,0))
      else do
        let x <-ltAt' (lo+a.snd.fst- 1) (lo+a.snd.fst)
        match x with
        |some c=>
          if c=true then pure (wW (none,a.snd.fst,a.snd.snd))
          else pure (qy (none,a.snd.fst+1,a.snd.snd+1))
        |_=>pure (wW (some none,a.snd.fst,a.snd.snd))
    |_=>pure (wW (some none,a.snd.fst,a.snd.snd))
def yz(lo n a:Nat):StateT aO a_ (Option Nat):=do By lo (lo+n) let b <-w9 lo n a match b.fst with
 |some r=>pure r
 |none=>pure (some b.snd)
def yq(lo n a:Nat):StateT aO a_ (Option Nat):=do
 liftM (j_ "list.sort.descending-run")
 let b <-EH lo (n+1) a
 match b.fst with
 |some r=>pure r
 |none=>
 if b.snd.snd>0 then do
 By (lo+b.snd.fst-(b.snd.snd+1)) (lo+b.snd.fst)
 yz lo b.snd.fst a
 else yz lo b.snd.fst a
theorem Uk lo a:countRun' lo a=(do
 let b <-w9 lo 1 a
 match b.fst with
 |some r=>pure r
 |none=>
 if(b.snd==a)=true then pure (some b.snd)
 else if b.snd>1 then do
 let x <-ltAt' lo (lo+b.snd- 1)
 match x with
 |some c=>if c=true then pure (some b.snd)else do
 By lo (lo+b.snd)
 yq lo b.snd a
 |_=>pure none
 else yq lo b.snd a):=by kernel_rfl
theorem AF{lo x:Nat}(a:1<=x)(b:q<=x)(d:∀i,x- q<=i->i<x->KK κ xs (lo+i)=KK κ xs (lo+(x- 1))):∀k,lo+x- q<=k->k<lo+x->KK κ xs k=KK κ xs (lo+x- 1):=λk c f=>by have e:=d (k- lo) (aU [.le U J,.le (D+J-U) u] (.le (J-U) (u-D)) B b c) (aL [.le 1 u,.lt J (U+u)] (.lt (J-U) u) B a f);rwa [show lo+(k- lo)=k by exact aU [.le u D,.le (J+D-u) U] (.eq (J+(U-J)) U) B b c,<-Bx a]at e
theorem CQ{a:Array d6}{st:aO}{lo n:Nat}(v:κ.OneLt)(x:KeysOf κ a)(q:lo+b<=a.size)(r:1<=n)(g:n<=b)(t:SB a P st)(y:Dn κ (az st) lo n)(h:∀m c,SB a P c->1<=m->m<=b->Up κ (az c) lo m->Fx κ lo (az st) (az c)->Q (some m) c):bU (aq prog w) A E s (yz lo n b) Q st:=by have e:lo+n<=(az st).size:=Y t.size<|aU [.le (J+D) u,.le U D] (.le (J+U) u) B q g;refine aM (Bz ?_);have k:SB a P (tL st (mirror (az st) lo (lo+n) ((lo+n- lo)/2))):=t.setArr (BA _ _ _ _);refine aM (FH v x q r g k ?_ λm l o p C=>aT (h m _ k (ah [.le 1 U,.le U J] (.le 1 J) B r l) o p λi hi=>?_));refine λi j d f=>(?_);exact Y (KK_mirror e _)<|Y (KK_mirror e _)<|Y (if_pos (by exact aU [.le U D,.lt D u] (.and (.le J (J+U)) (.lt (J+U) (J+u))) B d f))<|Y (if_pos (by exact aL [.lt U u] (.and (.le J (J+U)) (.lt (J+U) (J+u))) B f))<|Y (by exact aU [.le u D,.lt D U] (.eq (J+(J+U)-1-(J+u)) (J+(U-1-u))) B d f:lo+(lo+n)- 1-(lo+i)=lo+(n- 1- i))<|Y (by exact aL [.lt u U] (.eq (J+(J+U)-1-(J+u)) (J+(U-1-u))) B f:lo+(lo+n)- 1-(lo+j)=lo+(n- 1- j))<|y _ _ (aL [.le u U,.lt U J] (.le (J-1-U) (J-1-u)) B d f) (aL [.le U u,.lt u J] (.lt (J-1-U) J) B d f);refine(?_);exact Y (KK_mirror e _)<|Y (if_neg (by exact aL [.lt U J] (.n (.and (.le J U) (.lt U (J+u)))) B hi)) rfl
theorem QW{g:Array d6}{st:aO}{lo:Nat}(hO:κ.OneLt)(h0:KeysOf κ g)(hn:lo+l<=g.size)(h1:1<=n)(af:n<=l)(hB:SB g P st)(hs:Dn κ (az st) lo n)(h:∀m q e,SB g P e->n<=m->m<=l->Dn κ (az e) lo m->q+1<=m->(∀i,m-(q+1)<=i->i<m->KK κ (az e) (lo+i)=KK κ (az e) (lo+(m- 1)))->Fx κ lo (az st) (az e)->Q (none,m,q) e):bU (aq prog w) A E s (EH lo n l) Q st:=by
 refine gu (I:=λx c e=>∃q,c=(none,x,q)/\SB g P e/\Dn κ (az e) lo x/\q+1<=x/\(∀i,x-(q+1)<=i->i<x->KK κ (az e) (lo+i)=KK κ (az e) (lo+(x- 1)))/\Fx κ lo (az st) (az e)) ?step ?fin (dS 0 rfl hB hs (aX h1 (λi a b=>Y (by exact ah [.le 1 U,.le (U-(0+1)) J,.lt J U] (.eq J (U-1)) B h1 a b:i=n- 1) rfl) .refl));case fin=>rintro c e ⟨q,rfl,f,o,v,H,L⟩;rw[AN af]at o v H⊢;exact h l q e f af (aS _) o v H L
 case step=>rintro x c e ai p ⟨q,rfl,f,o,v,H,L⟩;have y:=aG h1 ai;have av:lo+x<=(az e).size:=Y f.size<|aU [.le (J+D) u,.lt U D] (.le (J+U) u) B hn p;have aj:∀xs,∀i,x+1-(0+1)<=i->i<x+1->KK κ xs (lo+i)=KK κ xs (lo+(x+1- 1)):=λxs i a b=>Y (by exact ah [.le 1 U,.le (U+1-(0+1)) J,.lt J (U+1)] (.eq J (U+1-1)) B y a b:i=x+1- 1) rfl;refine Y (Bx y _)<|aM (rA hO f h0 (aU [.le (J+D) u,.lt U D] (.lt (J+U) u) B hn p) (aU [.le (J+D) u,.lt U D,.le 1 U] (.lt (J+(U-1)) u) B hn p y) ?_);rcases r:κ.blt (KK κ (az e) (lo+x)) (KK κ (az e) (lo+(x- 1)))with _|_;dsimp only;refine Y (if_neg nofun)<|aM (rA hO f h0 (aU [.le (J+D) u,.lt U D,.le 1 U] (.lt (J+(U-1)) u) B hn p y) (aU [.le (J+D) u,.lt U D] (.lt (J+U) u) B hn p) ?_);rcases j:κ.blt (KK κ (az e) (lo+(x- 1))) (KK κ (az e) (lo+x))with _|_;have ap:=Xr j r;refine aT (dS (q+1) rfl f (o.add y j) (aX (kq v) (λi a b=>?_) L));refine Y (Xt _ _) ?_;by_cases C:i=x;exact Y C rfl;exact Y ap<|H i (aL [.le (U+1) J,.le (J+1-(U+1+1)) u,.lt u (J+1),.n (.eq u J)] (.le (J-(U+1)) u) B v a b C) (ah [.lt J (U+1),.n (.eq J U)] (.lt J U) B b C);exact aT (h x q e f ai (dU p) o v H L);dsimp only;have d:=o.add y (i7 r);refine Y (if_pos rfl) ?_;by_cases t:q>0;refine Y (if_pos t) ?_;have k:=Ik av (AF y v H);exact aM (Bz (aT (dS 0 rfl (f.setArr (BA _ _ _ _)) (d.to λi o0=>k _) (aX (kq (lN _)) (aj _) (L.trans λi o0=>k _)))));exact Y (if_neg t)<|aT (dS 0 rfl f d (aX (kq (lN _)) (aj _) L))
theorem E8{e:Array d6}{st:aO}{lo n:Nat}(v:κ.OneLt)(x:KeysOf κ e)(t:lo+g<=e.size)(L:n+1<=g)(hB:SB e P st)(hs:Dn κ (az st) lo (n+1))(h:∀m f,SB e P f->1<=m->m<=g->Up κ (az f) lo m->Fx κ lo (az st) (az f)->Q (some m) f):bU (aq prog w) A E s (yq lo n g) Q st:=by refine aM (qJ (lJ ⟨rfl,?_⟩));refine aM (QW v x t (kq (lN _)) L hB hs λm q f o af p r hq he fx=>?_);have y:=aG (kq (lN _)) af;by_cases l:q>0;refine Y (if_pos l) ?_;have k:=Ik (Y o.size<|aU [.le (J+D) u,.le U D] (.le (J+U) u) B t p) (AF y hq he);exact aM (Bz (CQ v x t y p (o.setArr (BA _ _ _ _)) (r.to λi o0=>k _) λC j H a b c d=>h C j H a b c (fx.trans (Fx.trans (λi o0=>k _) d))));exact Y (if_neg l)<|CQ v x t y p o r λC j H a b c d=>h C j H a b c (fx.trans d)
theorem O6{g:Array d6}{st:aO}{lo:Nat}(hO:κ.OneLt)(h0:KeysOf κ g)(C:lo+f<=g.size)(h1:1<=f)(v:SB g P st)(h:∀m q,SB g P q->1<=m->m<=f->Up κ (az q) lo m->Fx κ lo (az st) (az q)->Q (some m) q):bU (aq prog w) A E s (countRun' lo f) Q st:=by refine Y (Uk _ _)<|aM (FH hO h0 C (aS 1) h1 v .one λn l x r af=>?_);by_cases t:n=f;exact Y (if_pos (beq_iff_eq.mpr t))<|aT (h n st v l x r .refl);refine Y (if_neg (λe=>t (beq_iff_eq.mp e))) ?_;have H:=af.resolve_left t;have hl:n+1<=f:=ah [.le J U,.n (.eq J U)] (.le (J+1) U) B x t;by_cases o:n>1;refine Y (if_pos o)<|Y (Bx l _)<|aM (rA hO v h0 (aL [.le (J+u) U,.le 1 u] (.lt J U) B C h1) (aU [.le (J+D) u,.le (U+1) D,.lt 1 U] (.lt (J+(U-1)) u) B C hl o) ?_);rcases y:κ.blt (KK κ (az st) lo) (KK κ (az st) (lo+(n- 1)))with _|_;have p:=λi hk=>Xr (r i (n- 1) (ah [.lt 1 U,.lt J U] (.le J (U-1)) B o hk) (an [.lt 1 J] (.lt (J-1) J) B o)) (tM y (r 0 i (lN _) hk));have k:=Ik (Y v.size<|aU [.le (J+D) u,.le (U+1) D] (.le (J+U) u) B C hl) λk h1 h2=>AF l (aS _) (λi o0=>p i) k (aL [.le J u] (.le (J+U-U) u) B h1) h2;have d:Dn κ (az st) lo n:=λi j a b=>Y (p i (aL [.le J u,.lt u U] (.lt J U) B a b))<|Y (p j b)<|qI _;exact aM (Bz (E8 hO h0 C hl (v.setArr (BA _ _ _ _)) ((d.add l (i7 H)).to λi o0=>k _) λm' L ai a b c e=>h m' L ai a b c (Fx.trans (λi o0=>k _) e)));exact aT (h n st v l x r .refl);refine Y (if_neg o) ?_;have:n=1:=an [.le 1 J,.n (.lt 1 J)] (.eq J 1) B l o;subst this;exact E8 hO h0 C hl v (Dn.one.add (aS _) (i7 H)) h
inductive Ee{α:Type}st(L H:Nat->Prop)k m(c:Option α×Nat×Nat)(st':aO):Prop
 |mk (l r) (es:st'=st) (ec:c=(none,l,r)) (h1:l<=r) (h2:r<=k) (h3:r- l<=m) (h4:∀i,i<l->L i) (h5:∀i,r<=i->i<k->H i)
inductive Gm{α:Type}st(L H:Nat->Prop)k(c:Option α×Nat×Nat)(st':aO):Prop
 |mk (l) (es:st'=st) (ec:c=(none,l,l)) (h2:l<=k) (h4:∀i,i<l->L i) (h5:∀i,l<=i->i<k->H i)
inductive Ey{α:Type}st(P:Nat->Prop)x(c:Option α×Nat×Nat)(st':aO):Prop
 |mk (l o) (es:st'=st) (ec:c=(none,l,o)) (h1:x<o) (h2:l<o) (h3:P l)
theorem NN{g:Array d6}{st:aO}{lo:Nat}(hO:κ.OneLt)(h0:KeysOf κ g)(hn:lo+n<=g.size)(h1:1<=ok)(ax:ok<=n)(hB:SB g P st)(hs:Up κ (az st) lo ok)(h:∀d,SB g P d->Up κ (az d) lo n->Fx κ lo (az st) (az d)->Q true d):bU (aq prog w) A E s (binarySort' lo n ok) Q st:=by
 refine Y (binarySort'_eq _ _ _)<|Y (Wk h1)<|aM (jL (gu (I:=λk c d=>c=(none,())/\SB g P d/\Up κ (az d) lo k/\Fx κ lo (az st) (az d)) (Q:=λc d=>c=(none,())/\SB g P d/\Up κ (az d) lo n/\Fx κ lo (az st) (az d)) ?step ?fin (bA rfl hB hs .refl)) ?post);case post=>rintro c d ⟨rfl,y,m,fx⟩;exact aT (h d y m fx)
 case fin=>rintro c d h;rwa [AN ax]at h
 case step=>
  rintro k c d aj af ⟨rfl,y,m,fx⟩;refine aM (jL (gu (I:=λx=>Ee d (λi=>κ.kle (KK κ (az d) (lo+i)) (KK κ (az d) (lo+k))) (λi=>κ.klt (KK κ (az d) (lo+k)) (KK κ (az d) (lo+i))) k (k- x)) (Q:=Gm d (λi=>κ.kle (KK κ (az d) (lo+i)) (KK κ (az d) (lo+k))) (λi=>κ.klt (KK κ (az d) (lo+k)) (KK κ (az d) (lo+i))) k) ?istep ?ifin ?iinit) ?ipost);case iinit=>exact⟨0,k,rfl,rfl,lN _,aS _,aS _,λi hi=>absurd hi (HX _),λi a b=>absurd b (iP.mpr a)⟩
  case ifin=>rintro c p ⟨l,r,rfl,rfl,ai,o,hm,t,v⟩;have:l=r:=ar [_,_,_,_] [.le J U,.le (.s U J) (.s u D),.or (.and (.eq D (.k 0)) (.le u (.k 0))) (.and (.eq D u) (.le (.k 0) u))] (.eq J U) B ai hm i9;subst this;exact⟨l,rfl,rfl,o,t,v⟩
  case istep=>rintro x c p _ ap ⟨l,r,rfl,rfl,ai,o,hm,t,v⟩;by_cases f:l>=r;refine Y (if_pos f) ?_;have:l=r:=ar [_,_] [.le J U,.le U J] (.eq J U) B ai f;subst this;exact aT ⟨l,rfl,rfl,o,t,v⟩;refine Y (if_neg f)<|aM (rA hO y h0 (ar [_,_,_,_] [.le (.a J D) u,.lt U D] (.lt (.a J U) u) B hn af) (ar [_,_,_,_,_,_,_] [.le (.a J bB) aA,.lt hN bB,.le u hN,.n (.le u U),.and (.le (.m 2 D) (.a U u)) (.lt (.a U u) (.a (.m 2 D) (.k 2)))] (.lt (.a J D) aA) B hn af o f (eW (lb B))) ?_);rcases C:κ.blt (KK κ (az p) (lo+k)) (KK κ (az p) (lo+(l+r)/2))with _|_;exact aT ⟨(l+r)/2+1,r,rfl,rfl,ar [_,_,_] [.n (.le U J),.and (.le (.m 2 u) (.a J U)) (.lt (.a J U) (.a (.m 2 u) (.k 2)))] (.le (.a u (.k 1)) U) B f (eW (lb B)),ar [_,_] [.le J U] (.le J U) B o,ar [_,_,_,_,_] [.lt aA D,.le (.s J U) (.s D aA),.n (.le J U),.and (.le (.m 2 u) (.a U J)) (.lt (.a U J) (.a (.m 2 u) (.k 2)))] (.le (.s J (.a u (.k 1))) (.s D (.a aA (.k 1)))) B ap hm f (eW (lb B)),λi h1=>tM (m i ((l+r)/2) (ar [_,_,_,_] [.lt J (.a D (.k 1)),.and (.le (.m 2 D) (.a U u)) (.lt (.a U u) (.a (.m 2 D) (.k 2)))] (.le J D) B h1 (eW (lb B))) (ar [_,_,_,_] [.le U D,.n (.le U J),.and (.le (.m 2 u) (.a J U)) (.lt (.a J U) (.a (.m 2 u) (.k 2)))] (.lt u D) B o f (eW (lb B)))) (C),v⟩;exact aT ⟨l,(l+r)/2,rfl,rfl,ar [_,_,_] [.n (.le U J),.and (.le (.m 2 u) (.a J U)) (.lt (.a J U) (.a (.m 2 u) (.k 2)))] (.le J u) B f (eW (lb B)),ar [_,_,_,_] [.le U D,.n (.le U J),.and (.le (.m 2 u) (.a J U)) (.lt (.a J U) (.a (.m 2 u) (.k 2)))] (.le u D) B o f (eW (lb B)),ar [_,_,_,_,_] [.lt aA D,.le (.s U J) (.s D aA),.n (.le U J),.and (.le (.m 2 u) (.a J U)) (.lt (.a J U) (.a (.m 2 u) (.k 2)))] (.le (.s u J) (.s D (.a aA (.k 1)))) B ap hm f (eW (lb B)),t,λi h1 h2=>KeyOrd.klt_of_klt_of_kle C (m _ _ h1 h2)⟩
  case ipost=>rintro c p ⟨l,rfl,rfl,av,t,v⟩;refine(?_:bU _ _ _ _ (do moveDown' (lo+k) (lo+l);pure (qy (none,()))) _ _);refine Y (moveDown'_eq _ _) ?_;have kk:=λq=>KK_bubble (κ:=κ) (by exact Y y.size<|ar [_,_,_,_] [.le (.a J D) u,.lt U D] (.lt (.a J U) u) B hn af) (oi (lo+k) (lo+l)) q;rw[show lo+k-(lo+k-(lo+l))=lo+l by exact ar [_,_,_] [.le u U] (.eq (.s (.a J U) (.s (.a J U) (.a J u))) (.a J u)) B av]at kk;refine aM (mS (aT (bA rfl (y.setArr (bubble_perm _ _ _)) (λi j e hj=>?_) (fx.trans λi hi=>?_))));refine(?_);refine Y (kk _)<|Y (kk _) ?_;have up:∀q,l<q->lo+q- 1=lo+(q- 1):=λq h=>ar [_,_,_] [.lt u U] (.eq (.s (.a J U) (.k 1)) (.a J (.s U (.k 1)))) B h;by_cases i1:i=l;refine Y (if_pos (by exact ar [_,_,_] [.eq U u] (.eq (.a J U) (.a J u)) B i1)) ?_;by_cases H:j=l;exact Y (if_pos (by exact ar [_,_,_,_] [.eq D u,.eq U u] (.eq (.a J U) (.a J u)) B i1 H))<|qI _;exact Y (if_neg (by exact ar [_,_,_,_] [.eq D u,.n (.eq U u)] (.n (.eq (.a J U) (.a J u))) B i1 H))<|Y (if_pos (by exact ar [_,_,_,_,_] [.le aA u,.lt u (.a D (.k 1)),.eq aA U,.n (.eq u U)] (.and (.lt (.a J U) (.a J u)) (.le (.a J u) (.a J D))) B e hj i1 H))<|Y (up j (ar [_,_,_] [.le u U,.eq u J,.n (.eq U J)] (.lt J U) B e i1 H))<|i7 (v _ (ar [_,_,_] [.le u U,.eq u J,.n (.eq U J)] (.le J (.s U (.k 1))) B e i1 H) (ar [_,_,_] [.le (.k 1) u,.le u U,.lt J (.a U (.k 1))] (.lt (.s J (.k 1)) U) B h1 aj hj));refine Y (if_neg (by exact ar [_,_,_] [.n (.eq U u)] (.n (.eq (.a J U) (.a J u))) B i1)) ?_;by_cases L:l<i;exact Y (if_pos (by exact ar [_,_,_,_,_] [.le u aA,.lt aA (.a D (.k 1)),.lt U u] (.and (.lt (.a J U) (.a J u)) (.le (.a J u) (.a J D))) B e hj L))<|Y (if_neg (by exact ar [_,_,_,_] [.le D U,.lt u D] (.n (.eq (.a J U) (.a J u))) B e L))<|Y (if_pos (by exact ar [_,_,_,_,_] [.le aA u,.lt u (.a D (.k 1)),.lt U aA] (.and (.lt (.a J U) (.a J u)) (.le (.a J u) (.a J D))) B e hj L))<|Y (up i L)<|Y (up j (ar [_,_,_] [.le u U,.lt J u] (.lt J U) B e L))<|m _ _ (ar [_,_,_] [.le J U,.lt u J] (.le (.s J (.k 1)) (.s U (.k 1))) B e L) (ar [_,_,_,_] [.le u J,.lt J (.a U (.k 1)),.lt D u] (.lt (.s J (.k 1)) U) B e hj L);refine Y (if_neg (by exact ar [_,_,_,_] [.n (.lt U u)] (.n (.and (.lt (.a J U) (.a J u)) (.le (.a J u) (.a J D)))) B L)) ?_;by_cases H:j=l;exact Y (if_pos (by exact ar [_,_,_] [.eq U u] (.eq (.a J U) (.a J u)) B H))<|t _ (ar [_,_,_] [.n (.eq J U),.n (.lt U J),.eq u U] (.lt J U) B i1 L H);refine Y (if_neg (by exact ar [_,_,_] [.n (.eq U u)] (.n (.eq (.a J U) (.a J u))) B H)) ?_;by_cases j2:l<j;exact Y (if_pos (by exact ar [_,_,_,_] [.lt u (.a D (.k 1)),.lt U u] (.and (.lt (.a J U) (.a J u)) (.le (.a J u) (.a J D))) B hj j2))<|Y (up j j2)<|m _ _ (ar [_,_,_] [.le J U,.n (.lt u J),.lt u U] (.le J (.s U (.k 1))) B e L j2) (ar [_,_,_] [.le (.k 1) u,.le u U,.lt J (.a U (.k 1))] (.lt (.s J (.k 1)) U) B h1 aj hj);exact Y (if_neg (by exact ar [_,_,_,_] [.n (.lt U u)] (.n (.and (.lt (.a J U) (.a J u)) (.le (.a J u) (.a J D)))) B j2))<|m _ _ e (ar [_,_,_] [.le u U,.lt J (.a U (.k 1)),.n (.eq J u),.n (.lt u J)] (.lt J U) B av hj H j2);refine(?_);exact Y (kk _)<|Y (if_neg (by exact ar [_,_,_] [.lt J U] (.n (.eq J (.a U u))) B hi))<|Y (if_neg (by exact ar [_,_,_,_] [.lt u J] (.n (.and (.lt (.a J U) u) (.le u (.a J D)))) B hi)) rfl
noncomputable def ky(κ:oq)(p:d6):=(κ.keyOf p.1).getD κ.dflt
def kl(κ:oq)p q:=κ.kle (ky κ p) (ky κ q)
noncomputable def lT:Bool->d6->Array d6->Nat->Nat->Nat->StateT aO a_ (Option Nat):=sortPriv%PySem.Builtin.gallop
noncomputable def FP(left:Bool)(a:d6)c b i:=do
 let x <-d7 c (b+i)
 if left then lt' x a else return(<-lt' a x).map (!·)
noncomputable def Po(b:Nat->StateT aO a_ (Option Bool))(n d c:Nat):StateT aO a_ (Option (Option Nat)×Nat×Nat):=forIn [0:n] ((none,0,1)) λf a=>do if a.2.2>=c then pure (.done (none,a.2.1,a.2.2))else do let x <-b (d+a.2.2) match x with
 |some e=>if(!e)=true then pure (.done (none,a.2.1,a.2.2))else pure (.yield (none,a.2.2,2*a.2.2+1))
 |_=>pure (.done (some none,a.2.1,a.2.2))
noncomputable def Mi(b:Nat->StateT aO a_ (Option Bool))(n e c:Nat):StateT aO a_ (Option (Option Nat)×Nat×Nat):=forIn [0:n] ((none,0,1)) λf a=>do if a.2.2>=c then pure (.done (none,a.2.1,a.2.2))else do let x <-b (e- a.2.2) match x with
 |some d=>if d=true then pure (.done (none,a.2.1,a.2.2))else pure (.yield (none,a.2.2,2*a.2.2+1))
 |_=>pure (.done (some none,a.2.1,a.2.2))
noncomputable def uH(b:Nat->StateT aO a_ (Option Bool))(n lo hi:Nat):StateT aO a_ (Option Nat):=do
  let a <-forIn [0:n] ((none,lo,hi)) λd a=>do
    if a.2.1>=a.2.2 then pure (.done (none,a.2.1,a.2.2))else do
    let x <-b (a.2.1+(a.2.2- a.2.1)/2)
    match x with
    |some c=>if c=true then pure (.yield (none,a.2.1+(a.2.2- a.2.1)/2+1,a.2.2))else pure (.yield (none,a.2.1,a.2.1+(a.2.2- a.2.1)/2))
    |_=>pure (.done (some none,a.2.1,a.2.2))
  match a.1 with
  |some r=>pure r
  |none=>pure (some a.2.2)
def DE(b:Nat->StateT aO a_ (Option Bool))n a:=do
  let x <-b a
  match x with
  |some right=>
    if right=true then do
      let c <-Po b n a (n- a)
      match c.1 with
      |some r=>pure r
      |none=>uH b n (a+c.2.1+1) (a+fZ c.2.2 (n- a))
    else do
      let c <-Mi b n a (a+1)
      match c.1 with
      |some r=>pure r
      |none=>uH b n (a+1- fZ c.2.2 (a+1)) (a- c.2.1)
  |_=>pure none
theorem O3 left c d a n b:lT left c d a n b=DE (FP left c d a) n b:=by kernel_rfl
theorem t5{κ:oq}{st:aO}{a b:κ.α}(e:κ.OneLt)(hk:kindOf st=gT)(c:κ.keyOf x.1=some a)(d:κ.keyOf y.1=some b)(h:Q (some (κ.blt (ky κ x) (ky κ y))) st):bU (aq prog w) A E s (lt' x y) Q st:=by unfold ky at h;rw[c,d]at h;refine Y (lt'_eq _ _)<|aM (kB ?_);exact Y hk<|Y (keyLt'_oneType _ _)<|aM (qJ (A7 (e prog w A _ s _ _ _ _ c d ⟨rfl,aT h⟩)))
theorem dP{st:aO}(e:xs[i]? =some x)(h:Q x st):bU (aq prog w) A E s (d7 xs i) Q st:=Y (elem'_eq _ _)<|Y e<|aT h
def hG(κ:oq)(left:Bool)a x:=if left then κ.blt (ky κ x) (ky κ a)else !κ.blt (ky κ a) (ky κ x)
theorem Oo{st:aO}{a b:κ.α}(g:κ.OneLt)(hk:kindOf st=gT)(j:κ.keyOf c.1=some a)(e:f[d+i]? =some x)(k:κ.keyOf x.1=some b)(h:Q (some (hG κ left c x)) st):bU (aq prog w) A E s (FP left c f d i) Q st:=by refine aM (dP e ?_);rcases left with _|_;exact aM (t5 g hk j k (aT h));exact t5 g hk k j h
def Eh(prog:dO)(w:cN)(A:fu)(E:ay->bS->Prop)(s:bS)(st:aO)(b:Nat->StateT aO a_ (Option Bool))(p:Nat->Bool)n:=∀(i)(Q),i<n->Q (some (p i)) st->bU (aq prog w) A E s (b i) Q st
def Go(p:Nat->Bool)n:=∀i j,i<=j->j<n->p j=true->p i=true
theorem pV{st:aO}{lo hi:Nat}(L:Eh prog w A E s st b p n)(v:Go p n)(y:lo<=hi)(C:hi<=n)(t:∀i,i<lo->p i=true)(f:∀i,hi<=i->i<n->p i=false)(h:∀k,k<=n->(∀i,i<k->p i=true)->(∀i,k<=i->i<n->p i=false)->Q (some k) st):bU (aq prog w) A E s (uH b n lo hi) Q st:=by
 unfold uH;refine aM (jL (gu (I:=λx=>Ee st (λi=>p i=true) (λi=>p i=false) n (n- x)) (Q:=Gm st (λi=>p i=true) (λi=>p i=false) n) ?step ?fin ⟨lo,hi,rfl,rfl,y,C,aL [.le U J,.le J u] (.le (J-U) (u-0)) B y C,t,f⟩) ?post);case post=>rintro c m ⟨r,rfl,rfl,g,t,f⟩;exact aT (h r g t f)
 case fin=>rintro c m ⟨l,r,rfl,rfl,j,g,o,t,f⟩;have:l=r:=aU [.le J U,.le (U-J) (u-D),.or (.and (.eq D 0) (.le u 0)) (.and (.eq D u) (.le 0 u))] (.eq J U) B j o i9;subst this;exact⟨l,rfl,rfl,g,t,f⟩
 case step=>rintro x c m _ H ⟨l,r,rfl,rfl,j,g,o,t,f⟩;dsimp only;by_cases d:l>=r;refine Y (if_pos d) ?_;have:l=r:=ah [.le J U,.le U J] (.eq J U) B j d;subst this;exact aT ⟨l,rfl,rfl,g,t,f⟩;refine Y (if_neg d)<|aM (L _ _ (aU [.le U D,.n (.le U J),.and (.le (.m 2 u) (U-J)) (.lt (U-J) ((.m 2 u)+2))] (.lt (J+u) D) B g d (eW (lb B))) ?_);rcases e:p (l+(r- l)/2)with _|_;refine aT ⟨l,_,rfl,rfl,aL [.and (.le (.m 2 u) (U-J)) (.lt (U-J) ((.m 2 u)+2))] (.le J (J+u)) B (eW (lb B)),aU [.le U D,.n (.le U J),.and (.le (.m 2 u) (U-J)) (.lt (U-J) ((.m 2 u)+2))] (.le (J+u) D) B g d (eW (lb B)),cK [.lt aA D,.le (U-J) (D-aA),.n (.le U J),.and (.le (.m 2 u) (U-J)) (.lt (U-J) ((.m 2 u)+2))] (.le (J+u-J) (D-(aA+1))) B H o d (eW (lb B)),t,λi a c=>?_⟩;rcases q:p i with _|_;rfl;rw[v _ i a c q]at e;exact tf e;exact aT ⟨_,r,rfl,rfl,aL [.n (.le U J),.and (.le (.m 2 u) (U-J)) (.lt (U-J) ((.m 2 u)+2))] (.le (J+u+1) U) B d (eW (lb B)),g,cK [.lt aA D,.le (J-U) (D-aA),.n (.le J U),.and (.le (.m 2 u) (J-U)) (.lt (J-U) ((.m 2 u)+2))] (.le (J-(U+u+1)) (D-(aA+1))) B H o d (eW (lb B)),λi hi=>v i _ (aU [.lt J (U+D+1),.and (.le (.m 2 D) (u-U)) (.lt (u-U) ((.m 2 D)+2))] (.le J (U+D)) B hi (eW (lb B))) (aU [.le U D,.n (.le U J),.and (.le (.m 2 u) (U-J)) (.lt (U-J) ((.m 2 u)+2))] (.lt (J+u) D) B g d (eW (lb B))) e,f⟩
theorem UT{st:aO}(v:Eh prog w A E s st b p n)(r:Go p n)(f:d<n)(h:∀k,k<=n->(∀i,i<k->p i=true)->(∀i,k<=i->i<n->p i=false)->Q (some k) st):bU (aq prog w) A E s (DE b n d) Q st:=by
 have L:∀i j,p i=false->i<=j->j<n->p j=false:=λi j e a c=>by rcases q:p j with _|_;rfl;rw[r i j a c q]at e;injection e
 refine aM (v _ _ f ?_);rcases e:p d with _|_;dsimp only;refine Y (if_neg nofun)<|aM (gu (I:=Ey st λl=>l<=d/\p (d- l)=false) ?step ?fin ⟨0,1,rfl,rfl,qK,qK,lN _,e⟩);case fin=>rintro c H ⟨l,o,rfl,rfl,C,t,m,y⟩;exact pV v r (ar [_,_,_] [.lt u U,.le u J] (.le (.s (.a J (.k 1)) (.mn U (.a J (.k 1)))) (.s J u)) B t m) (ar [_,_,_] [.lt J u,.le U J] (.le (.s J U) u) B f m) (λi hi=>(ar [_,_,_,_,_] [.lt J U,.lt u D,.lt aA (.s (.a J (.k 1)) (.mn D (.a J (.k 1)))),.or (.and (.eq u (.k 0)) (.le U (.k 0))) (.and (.eq u U) (.le (.k 0) U))] .ff B f C hi i9).elim) (λi a c=>L _ i y (ar [_,_,_] [.le (.s J U) u] (.le (.s J U) u) B a) c) h
 case step=>rintro x c H _ hx ⟨l,o,rfl,rfl,C,t,m,y⟩;by_cases g:o>=d+1;exact Y (if_pos g)<|aT (pV v r (ar [_,_,_] [.lt u U,.le u J,.le (.a J (.k 1)) U] (.le (.s (.a J (.k 1)) (.mn U (.a J (.k 1)))) (.s J u)) B t m g) (ar [_,_,_] [.lt J u,.le U J] (.le (.s J U) u) B f m) (λi hi=>(ar [_,_,_] [.le (.a J (.k 1)) U,.lt u (.s (.a J (.k 1)) (.mn U (.a J (.k 1))))] .ff B g hi).elim) (λi a c=>L _ i y (ar [_,_,_] [.le (.s J U) u] (.le (.s J U) u) B a) c) h);refine Y (if_neg g)<|aM (v _ _ (ar [_,_,_,_] [.lt J u,.lt D U,.n (.le (.a J (.k 1)) U)] (.lt (.s J U) u) B f t g) ?_);rcases q:p (d- o)with _|_;exact aT ⟨o,2*o+1,rfl,rfl,ar [_,_] [.le (.k 0) J,.lt J U] (.lt (.a J (.k 1)) (.a (.m 2 U) (.k 1))) B (by assumption) C,ar [_] [] (.lt J (.a (.m 2 J) (.k 1))) B,ar [_,_] [.n (.le (.a U (.k 1)) J)] (.le J U) B g,q⟩;exact aT (pV v r (ar [_,_,_] [.lt u U,.le u J,.n (.le (.a J (.k 1)) U)] (.le (.s (.a J (.k 1)) (.mn U (.a J (.k 1)))) (.s J u)) B t m g) (ar [_,_,_] [.lt J u,.le U J] (.le (.s J U) u) B f m) (λi hi=>r i (d- o) (ar [_,_,_] [.n (.le (.a U (.k 1)) u),.lt J (.s (.a U (.k 1)) (.mn u (.a U (.k 1))))] (.le J (.s U u)) B g hi) (ar [_,_,_,_] [.lt J u,.lt D U,.n (.le (.a J (.k 1)) U)] (.lt (.s J U) u) B f t g) q) (λi a c=>L _ i y (ar [_,_,_] [.le (.s J U) u] (.le (.s J U) u) B a) c) h)
 dsimp only;refine Y (if_pos rfl)<|aM (gu (I:=Ey st λl=>l<n- d/\p (d+l)=true) ?step ?fin ⟨0,1,rfl,rfl,qK,qK,ar [_,_] [.lt U J] (.lt (.k 0) (.s J U)) B f,e⟩);case fin=>rintro c H ⟨l,o,rfl,rfl,C,t,m,y⟩;exact pV v r (ar [_,_,_,_] [.lt U u,.lt U (.s D J)] (.le (.a (.a J U) (.k 1)) (.a J (.mn u (.s D J)))) B t m) (ar [_,_,_] [.lt J u] (.le (.a J (.mn U (.s u J))) u) B f) (λi hi=>r i _ (ar [_,_,_] [.lt J (.a (.a U u) (.k 1))] (.le J (.a U u)) B hi) (ar [_,_,_] [.lt J u,.lt U (.s u J)] (.lt (.a J U) u) B f m) y) (λi a c=>(ar [_,_,_,_,_] [.lt J U,.lt u D,.le (.a J (.mn D (.s U J))) aA,.lt aA U,.or (.and (.eq u (.k 0)) (.le U (.k 0))) (.and (.eq u U) (.le (.k 0) U))] .ff B f C a c i9).elim) h
 case step=>rintro x c H _ hx ⟨l,o,rfl,rfl,C,t,m,y⟩;by_cases g:o>=n- d;exact Y (if_pos g)<|aT (pV v r (ar [_,_,_,_] [.lt U (.s D J),.le (.s D J) u] (.le (.a (.a J U) (.k 1)) (.a J (.mn u (.s D J)))) B m g) (ar [_,_,_] [.lt J u,.le (.s u J) U] (.le (.a J (.mn U (.s u J))) u) B f g) (λi hi=>r i _ (ar [_,_,_] [.lt J (.a (.a U u) (.k 1))] (.le J (.a U u)) B hi) (ar [_,_,_] [.lt J u,.lt U (.s u J)] (.lt (.a J U) u) B f m) y) (λi a c=>(ar [_,_,_,_] [.lt J U,.le (.s U J) u,.le (.a J (.mn u (.s U J))) D,.lt D U] .ff B f g a c).elim) h);refine Y (if_neg g)<|aM (v _ _ (ar [_,_,_] [.lt J u,.n (.le (.s u J) U)] (.lt (.a J U) u) B f g) ?_);rcases q:p (d+o)with _|_;exact aT (pV v r (ar [_,_,_,_] [.lt U u,.n (.le (.s D J) u)] (.le (.a (.a J U) (.k 1)) (.a J (.mn u (.s D J)))) B t g) (ar [_,_,_] [.lt J u,.n (.le (.s u J) U)] (.le (.a J (.mn U (.s u J))) u) B f g) (λi hi=>r i _ (ar [_,_,_] [.lt J (.a (.a U u) (.k 1))] (.le J (.a U u)) B hi) (ar [_,_,_] [.lt J u,.lt U (.s u J)] (.lt (.a J U) u) B f m) y) (λi a c=>L _ i q (ar [_,_,_,_] [.n (.le (.s D J) U),.le (.a J (.mn U (.s D J))) u] (.le (.a J U) u) B g a) c) h);exact aT ⟨o,2*o+1,rfl,rfl,ar [_,_] [.le (.k 0) J,.lt J U] (.lt (.a J (.k 1)) (.a (.m 2 U) (.k 1))) B (by assumption) C,ar [_] [] (.lt J (.a (.m 2 J) (.k 1))) B,ar [_,_,_] [.n (.le (.s U u) J)] (.lt J (.s U u)) B g,q⟩
noncomputable def rC:Nat->StateT aO a_ Unit:=sortPriv%PySem.Builtin.setMinGallop
noncomputable def zv:Array d6->Array d6->StateT aO a_ (Array d6):=sortPriv%PySem.Builtin.mergeLo
noncomputable def xV:Array d6->Array d6->StateT aO a_ (Array d6):=sortPriv%PySem.Builtin.mergeHi
noncomputable def dM st g:=SortSt.mk' (kindOf st) (az st) (eG st) g (om st)
theorem vY g:rC g=modify λst=>dM st g:=rfl
abbrev KA:=Array d6
noncomputable def iD(a b out:KA)c d:=out++a.extract c a.size++b.extract d b.size
noncomputable def oS(a b out:KA)c d:=out++b.extract d b.size++a.extract c a.size
abbrev L1:=Option KA×KA×Nat×Nat×Nat×Nat
abbrev L2:=Option KA×KA×Nat×Nat×Nat×Nat×Nat
abbrev L3:=Option KA×KA×Nat×Nat×Nat
def Em(a b:KA)(h:Nat)(out:KA)(c d f g:Nat):StateT aO a_ (ForInStep L1):=do let y <-d7 b d let x <-d7 a c let r <-lt' y x match r with
 |some e=>
 if e=true then do let y <-d7 b d if(d+1==b.size)=true then pure (.done (some (iD a b (out.push y) c (d+1)),out.push y,c,d+1,0,g+1))else if g+1>=h then pure (.done (none,out.push y,c,d+1,0,g+1))else pure (.yield (none,out.push y,c,d+1,0,g+1))
 else do let x <-d7 a c if(c+1+1==a.size)=true then pure (.done (some (oS a b (out.push x) (c+1) d),out.push x,c+1,d,f+1,0))else if f+1>=h then pure (.done (none,out.push x,c+1,d,f+1,0))else pure (.yield (none,out.push x,c+1,d,f+1,0))
 |_=>pure (.done (some (iD a b out c d),out,c,d,f,g))
def zh (a b:KA) (f : Nat) (out : KA) (c d k e : Nat) : StateT aO a_ (ForInStep L2) := do
  let x <- d7 a c
  if (c + 1 + 1 == a.size) = true then pure (.done (some (oS a b (out.push x) (c + 1) d), out.push x, c + 1, d, f, k, e))
  else if (decide (k < 7) && decide (e < 7)) = true then pure (.done (none, out.push x, c + 1, d, f, k, e))
  else pure (.yield (none, out.push x, c + 1, d, f, k, e))
def Aw(a b:KA)(f:Nat)(out:KA)(e c k g:Nat):StateT aO a_ (ForInStep L2):=do let y <-d7 b c if(c+1==b.size)=true then pure (.done (some (iD a b (out.push y) e (c+1)),out.push y,e,c+1,f,k,g))else do let x <-d7 a e let r <-lT true x b (c+1) (b.size-(c+1)) 0 match r with
 |some d=>if d>0 then if(c+1+d==b.size)=true then pure (.done (some (iD a b (out.push y++b.extract (c+1) (c+1+d)) e (c+1+d)),out.push y++b.extract (c+1) (c+1+d),e,c+1+d,f,k,d))else zh a b f (out.push y++b.extract (c+1) (c+1+d)) e (c+1+d) k d;else zh a b f (out.push y) e (c+1) k d
 |_=>pure (.done (some (iD a b (out.push y) e (c+1)),out.push y,e,c+1,f,k,g))
def uF(a b:KA)(e:Nat)(out:KA)(c d g f:Nat):StateT aO a_ (ForInStep L2):=do rC e let y <-d7 b d let r <-lT false y a c (a.size- c) 0 match r with
 |some k=>if k>0 then if(c+k+1==a.size)=true then pure (.done (some (oS a b (out++a.extract c (c+k)) (c+k) d),out++a.extract c (c+k),c+k,d,e,k,f))else if(c+k==a.size)=true then pure (.done (some (iD a b (out++a.extract c (c+k)) (c+k) d),out++a.extract c (c+k),c+k,d,e,k,f))else Aw a b e (out++a.extract c (c+k)) (c+k) d k f;else Aw a b e out c d k f
 |_=>pure (.done (some (iD a b out c d),out,c,d,e,g,f))
def FW(a b:KA)(e:Nat)(out:KA)(f g:Nat):StateT aO a_ (ForInStep L3):=do
 let d <-forIn [0:a.size+b.size] ((none,out,f,g,0,0)) λh d=>Em a b e d.2.1 d.2.2.1 d.2.2.2.1 d.2.2.2.2.1 d.2.2.2.2.2
 match d.1 with
 |some r=>pure (.done (some r,d.2.1,d.2.2.1,d.2.2.2.1,e))
 |none=>do
 liftM (j_ "list.sort.gallop")
 let c <-forIn [0:a.size+b.size] ((none,d.2.1,d.2.2.1,d.2.2.2.1,e+1,d.2.2.2.2.1,d.2.2.2.2.2)) λh c=>
 if c.2.2.2.2.1>1 then uF a b (c.2.2.2.2.1- 1) c.2.1 c.2.2.1 c.2.2.2.1 c.2.2.2.2.2.1 c.2.2.2.2.2.2
 else uF a b c.2.2.2.2.1 c.2.1 c.2.2.1 c.2.2.2.1 c.2.2.2.2.2.1 c.2.2.2.2.2.2
 match c.1 with
 |some r=>pure (.done (some r,c.2.1,c.2.2.1,c.2.2.2.1,c.2.2.2.2.1))
 |none=>do
 rC (c.2.2.2.2.1+1)
 pure (.yield (none,c.2.1,c.2.2.1,c.2.2.2.1,c.2.2.2.2.1+1))
theorem Kd(a b:KA):zv a b=(do liftM (j_ "list.sort.merge-lo") let y <-d7 b 0 if(1==b.size)=true then pure (iD a b #[y] 0 1)else if(0+1==a.size)=true then pure (oS a b #[y] 0 1)else do let st <-get let c <-forIn [0:a.size+b.size] ((none,#[y],0,1,i8 st):L3) λd c=>FW a b c.2.2.2.2 c.2.1 c.2.2.1 c.2.2.2.1 match c.1 with
 |some r=>pure r
 |none=>liftM (m:=a_) (Il "internal:list.sort.merge-bound")):=by kernel_rfl
structure G R(L out ra rb:List d6):Prop where
 perm:(out++(ra++rb)).Perm L
 a:(out++ra).Pairwise R
 b:(out++rb).Pairwise R
theorem G.swap(g:G R L out c d):G R L out d c:=⟨(List.Perm.append_left out Ig).trans g.perm,g.b,g.a⟩
theorem G.take(g:G R L out (p++c) d)(h:∀x∈p,∀y∈d,R x y):G R L (out++p) c d:=by
 have e:out++p++c=out++(p++c):=cr _ _ _;have f:=fO.mp g.b;refine⟨?_,e▸g.a,fO.mpr (aX ((fO.mp (e▸g.a)).1) f.2.1 (λx j y i=>?_))⟩;exact ae (cr _ _ _)<|Y e<|Y (cr _ _ _)<|g.perm
 ·cases iQ.mp j with
 |inl q=>exact f.2.2 x q y i
 |inr q=>exact h x q y i
theorem G.one(g:G R L out (x::d) c)(h:∀y∈c,R x y):G R L (out++[x]) d c:=G.take g λf e=>Y (dW.mp e)<|h
theorem G.done(g:G R L out c []):(out++c).Perm L/\(out++c).Pairwise R:=⟨by have:=g.perm;rwa [cV]at this,g.a⟩
theorem G.last(g:G R L out [c] d)(h:∀y∈d,R y c):(out++d++[c]).Perm L/\(out++d++[c]).Pairwise R:=⟨Y (cr _ _ _)<|g.swap.perm,fO.mpr ⟨g.b,List.pairwise_singleton _ _,λx e y f=>by refine Y (dW.mp f) ?_;rcases iQ.mp e with q|q;exact(fO.mp g.a).2.2 x q c (.head _);exact h x q⟩⟩
theorem o_{a:KA}(h:a[i]? =some x):a.toList.drop i=x::a.toList.drop (i+1):=by refine xE (nZ.mp h) λhi e=>Y (List.drop_eq_getElem_cons (by simpa using hi)) ?_;congr 1
theorem zc{a:KA}:a.toList.drop i=(a.extract i (i+k)).toList++a.toList.drop (i+k):=by refine Y tN<|(?_:_=BB (i+k- i) (a.toList.drop i)++_);exact Y (og _ _)<|ae Ih<|Y (qE _ _) rfl
theorem pI{a:KA}:(a.extract i a.size).toList=a.toList.drop i:=by refine Y tN<|(?_);exact qF (by refine Y lQ ?_;simp)
theorem rK{a:KA}(h:x∈(a.extract i (i+k)).toList):∃j,j<k/\a[i+j]? =some x:=by refine bh λd c=>?_;obtain⟨j,b,e⟩:=n_ h;refine c<|(ak j ?_ ?_);simp at b;exact aU [.lt J (.mn U (u-D))] (.lt J U) B b;simp at b;exact ae e<|Y (ot _)<|Y (Array.getElem_extract _)<|Y (mP (by exact aU [.lt U (.mn D (u-J))] (.lt (J+U) u) B b)) rfl
theorem atS{a:KA}{i:Nat}(h:i<a.size):∃x,a[i]? =some x:=⟨_,mP h⟩
theorem qP{a:KA}(h:a.size<=i):a.toList.drop i=[]:=List.drop_of_length_le (by simpa using h)
structure Rz κ(a b r:KA):Prop where
 perm:r.toList.Perm (a.toList++b.toList)
 up:r.toList.Pairwise (kl κ)
structure ME κ(a b:KA):Prop where
 ka:KeysOf κ a
 kb:KeysOf κ b
 mx:∀z,a[a.size- 1]? =some z->∀y∈b.toList,kl κ y z
def MG(κ:oq)(a b out:KA)c d:=G (kl κ) (a.toList++b.toList) out.toList (a.toList.drop c) (b.toList.drop d)
structure MI κ a b out ia ib:Prop where
 g:MG κ a b out ia ib
 ha:ia+1<a.size
 hb:ib<b.size
theorem mj(h:kl κ x y)(a:kl κ y b):kl κ x b:=tM h a
theorem MG.BH(m:MG κ a b out d f)(e:a[d]? =some x)(h:kl κ y x):∀c∈a.toList.drop d,kl κ y c:=by have q:=(fO.mp m.a).2.1;rw[o_ e]at q⊢;intro c hz;rcases hz with _|⟨_,hz⟩;exact h;exact mj h ((tO.mp q).1 c hz)
theorem MG.GS(m:MG κ a b out f d)(e:b[d]? =some y)(h:kl κ x y):∀c∈b.toList.drop d,kl κ x c:=by have q:=(fO.mp m.b).2.1;rw[o_ e]at q⊢;intro c hz;rcases hz with _|⟨_,hz⟩;exact h;exact mj h ((tO.mp q).1 c hz)
theorem MG.rS(m:MG κ a b out c d)(e:a[c]? =some x)(f:b[d]? =some y)(h:kl κ y x):MG κ a b (out.push y) c (d+1):=by have l:=m.BH e h;unfold MG at m⊢;rw[o_ f]at m;exact Y wC<|(m.swap.one l).swap
theorem MG.ro(m:MG κ a b out c d)(e:a[c]? =some x)(f:b[d]? =some y)(h:kl κ x y):MG κ a b (out.push x) (c+1) d:=by have l:=m.GS f h;unfold MG at m⊢;rw[o_ e]at m;exact Y wC<|m.one l
theorem MG.yd(m:MG κ a b out c f)(g:b[f]? =some y)(h:∀j,j<k->∀x,a[c+j]? =some x->kl κ x y):MG κ a b (out++a.extract c (c+k)) (c+k) f:=by have l:=λx d=>m.GS (x:=x) g d;unfold MG at m⊢;rw[zc]at m;exact Y f8<|m.take λx d=>ad (rK d) λj i e=>l x (h j i x e)
theorem MG.xf(m:MG κ a b out f c)(g:a[f]? =some x)(h:∀j,j<k->∀y,b[c+j]? =some y->kl κ y x):MG κ a b (out++b.extract c (c+k)) f (c+k):=by have l:=λy d=>m.BH (y:=y) g d;unfold MG at m⊢;have m:=m.swap;rw[zc]at m;refine Y f8<|(m.take λy d=>?_).swap;exact ad (rK d) λj i e=>l y (h j i y e)
theorem MG.pR(m:MG κ a b out c d)(h:b.size<=d):Rz κ a b (iD a b out c d):=by
 unfold MG at m;rw[qP h]at m;have e:(iD a b out c d).toList=out.toList++a.toList.drop c:=by skip;exact Y f8<|Y f8<|Y pI<|Y pI<|Y (qP h)<|Y (cV _) rfl
 exact⟨e▸m.done.1,e▸m.done.2⟩
theorem MG.o7(m:MG κ a b out c d)(h:a.size<=c):Rz κ a b (iD a b out c d):=by
 unfold MG at m;rw[qP h]at m;have e:(iD a b out c d).toList=out.toList++b.toList.drop d:=by skip;exact Y f8<|Y f8<|Y pI<|Y pI<|Y (qP h)<|Y (cV _) rfl
 exact⟨e▸m.swap.done.1,e▸m.swap.done.2⟩
theorem MG.ls(m:MG κ a b out c f)(e:ME κ a b)(h:c+1=a.size):Rz κ a b (oS a b out c f):=by
 refine xE (atS (i:=c) (ah [.eq (J+1) U] (.lt J U) B h)) λg hz=>?_;have d:a.toList.drop c=[g]:=Y (o_ hz)<|Y (qP (ah [.eq (U+1) J] (.le J (U+1)) B h)) rfl
 unfold MG at m;rw[d]at m;have q:=m.last λy j=>e.mx g (ae h<|hz) y (qH j);have e:(oS a b out c f).toList=out.toList++b.toList.drop f++[g]:=by skip;exact Y f8<|Y f8<|Y pI<|Y pI<|Y d rfl
 exact⟨e▸q.1,e▸q.2⟩
inductive Vy st(P:KA->Nat->Nat->Prop)n(c:L3)st':Prop
 |mk (g) (o) (i j m) (es:st'=dM st g) (ec:c=(none,o,i,j,m)) (p:P o i j) (l:n<=o.size)
inductive GF st(R:KA->Prop){α:Type}(c:Option KA×α)st':Prop
 |mk (g) (r) (z) (es:st'=dM st g) (ec:c=(some r,z)) (h:R r)
inductive Ss st(P:KA->Nat->Nat->Prop)n(c:Option KA×KA×Nat×Nat×Nat×Nat)(st':aO):Prop
 |mk (o) (i j) (c' d) (es:st'=st) (ec:c=(none,o,i,j,c',d)) (p:P o i j) (l:n<=o.size)
inductive I_ st(P:KA->Nat->Nat->Prop)(R:KA->Prop)n(c:Option KA×KA×Nat×Nat×Nat×Nat)(st':aO):Prop
 |done (r) (z) (es:st'=st) (ec:c=(some r,z)) (h:R r)
 |go (o) (i j) (c' d) (es:st'=st) (ec:c=(none,o,i,j,c',d)) (p:P o i j) (l:n<=o.size)
inductive TH st(P:KA->Nat->Nat->Prop)n(c:Option KA×KA×Nat×Nat×Nat×Nat×Nat)st':Prop
 |mk (g) (o) (i j) (m c' d) (es:st'=dM st g) (ec:c=(none,o,i,j,m,c',d)) (p:P o i j) (l:n<=o.size)
inductive M0 st(P:KA->Nat->Nat->Prop)(R:KA->Prop)n(c:Option KA×KA×Nat×Nat×Nat×Nat×Nat)st':Prop
 |done (g) (r) (z) (es:st'=dM st g) (ec:c=(some r,z)) (h:R r)
 |go (g) (o) (i j) (m c' d) (es:st'=dM st g) (ec:c=(none,o,i,j,m,c',d)) (p:P o i j) (l:n<=o.size)
theorem jw{xs:KA}{i:Nat}(h:KeysOf κ xs)(e:xs[i]? =some x):∃c,κ.keyOf x.1=some c:=h x (by obtain⟨hi,e⟩:=nZ.mp e;refine ae e ?_;simp)
theorem IS{st:aO}{a b:KA}{n p:Nat}(C:κ.OneLt)(hk:kindOf st=gT)(e:ME κ a b)(m:MI κ a b out n p)(t:∀r g,Rz κ a b r->Q (.done (some r,g)) st)(v:∀o i j c d,MI κ a b o i j->out.size<o.size->Q (.done (none,o,i,j,c,d)) st/\Q (.yield (none,o,i,j,c,d)) st):bU (aq prog w) A E s (Em a b mg out n p ac bc) Q st:=by refine xE (atS m.hb) λy h=>xE (atS (tP m.ha)) λx k=>xE (jw e.kb h) λc H=>xE (jw e.ka k) λd L=>aM (dP h (aM (dP k (aM (t5 C hk H L ?_)))));rcases q:κ.blt (ky κ y) (ky κ x)with _|_;have l:=m.g.ro k h q;refine aM (dP k ?_);by_cases f:n+1+1=a.size;exact Y (if_pos (beq_iff_eq.mpr f))<|aT (t _ _ (l.ls e f));refine Y (if_neg λe=>f (beq_iff_eq.mp e)) ?_;have g:=λc d=>v _ _ _ c d ⟨l,wU m.ha f,m.hb⟩ (Y (lP _)<|f9 _);split;exact aT (g _ _).1;exact aT (g _ _).2;have l:=m.g.rS k h (i7 q);refine aM (dP h ?_);by_cases f:p+1=b.size;exact Y (if_pos (beq_iff_eq.mpr f))<|aT (t _ _ (l.pR (kA f.symm)));refine Y (if_neg λe=>f (beq_iff_eq.mp e)) ?_;have g:=λc d=>v _ _ _ c d ⟨l,m.ha,wU m.hb f⟩ (Y (lP _)<|f9 _);split;exact aT (g _ _).1;exact aT (g _ _).2
structure Q2 κ(a b out:KA)(Q:ForInStep L2->aO->Prop)st:Prop where
 r:∀r z,Rz κ a b r->Q (.done (some r,z)) st
 m:∀o i j g c d,MI κ a b o i j->out.size<=o.size->Q (.done (none,o,i,j,g,c,d)) st/\Q (.yield (none,o,i,j,g,c,d)) st
theorem Q2.le{st:aO}(q:Q2 κ a b out Q st)(h:out.size<=o.size):Q2 κ a b o Q st:=⟨q.r,λo i j g c d m l=>q.m o i j g c d m (aG h l)⟩
theorem FV{st:aO}{a b:KA}(e:ME κ a b)(m:MI κ a b out h i)(j:a[h]? =some x)(p:b[i]? =some y)(l:kl κ x y)(q:Q2 κ a b out Q st):bU (aq prog w) A E s (zh a b r out h i k t) Q st:=by have n:=m.g.ro j p l;refine aM (dP j ?_);by_cases f:h+1+1=a.size;exact Y (if_pos (beq_iff_eq.mpr f))<|aT (q.r _ _ (n.ls e f));refine Y (if_neg λe=>f (beq_iff_eq.mp e)) ?_;have o:=λg c d=>q.m _ _ _ g c d ⟨n,wU m.ha f,m.hb⟩ (Y (lP _)<|gS _);split;exact aT (o _ _ _).1;exact aT (o _ _ _).2
theorem oK{st:aO}{c:κ.α}{xs:KA}(L:κ.OneLt)(hk:kindOf st=gT)(hc:κ.keyOf a.1=some c)(kx:KeysOf κ xs)(hs:∀j l x y,j<=l->l<n->xs[i+j]? =some x->xs[i+l]? =some y->kl κ x y)(hn:i+n<=xs.size)(hh:o<n)(h:∀k,k<=n->(∀j,j<k->∀x,xs[i+j]? =some x->hG κ left a x=true)->(∀j,k<=j->j<n->∀x,xs[i+j]? =some x->hG κ left a x=false)->Q (some k) st):bU (aq prog w) A E s (lT left a xs i n o) Q st:=by refine Y (O3 _ _ _ _ _ _) ?_;have b:∀j,j<n->∃x,xs[i+j]? =some x:=λj g=>atS (aU [.le (J+D) u,.lt U D] (.lt (J+U) u) B hn g);refine UT (p:=λj=>match xs[i+j]? with|some x=>hG κ left a x|none=>false) (λj Q g h=>?_) (λj l m q p=>?_) hh (λk r t f=>h k r (λj g x e=>?_) (λj h1 h2 x e=>?_));refine xE (b j g) λx e=>xE (jw kx e) λd hd=>?_;dsimp only at h;rw[e]at h;exact Oo L hk hc e hd h;refine xE (b j (aL [.le J u,.lt u U] (.lt J U) B m q)) λx v=>xE (b l q) λy C=>?_;dsimp only at p⊢;rw[C]at p;refine Y v ?_;have H:=hs j l x y m q v C;rcases left with _|_;refine(?_:(!κ.blt (ky κ a) (ky κ x))=true);have:=tM H (by simpa[hG,tQ]using p);unfold tQ at this;refine Y this ?_;rfl;exact KeyOrd.klt_of_kle_of_klt H p;have:=t j g;rwa [e]at this;have:=f j h1 h2;rwa [e]at this
theorem yx{xs:KA}{i:Nat}(h:(xs.toList.drop i).Pairwise (kl κ))(f:j<=l)(a:xs[i+j]? =some x)(b:xs[i+l]? =some y):kl κ x y:=by by_cases e:j=l;subst e;exact Y (ao (a.symm.trans b))<|qI _;refine xE (nZ.mp a) λc g=>xE (nZ.mp b) λd k=>?_;have q:=Xu.mp h j l (by simp;exact aU [.lt (u+J) U,.lt (u+D) U] (.lt J (U-u)) B c d) (by simp;exact aU [.lt (u+D) U,.lt (u+J) U] (.lt J (U-u)) B c d) (ah [.le J U,.n (.eq J U)] (.lt J U) B f e);simp only[BC,ot]at q;rwa [g,k]at q
theorem Dl{st:aO}(hO:κ.OneLt)(hk:kindOf st=gT)(e:ME κ a b)(m:MI κ a b out ia o)(n:a[ia]? =some x)(hy:b[o]? =some y)(l:kl κ y x)(q:Q2 κ a b out Q st):bU (aq prog w) A E s (Aw a b mg out ia o k bc) Q st:=by have C:=m.g.rS n hy l;have z1:out.size<=(out.push y).size:=Y (lP _)<|gS _;refine aM (dP hy ?_);by_cases H:o+1=b.size;exact Y (if_pos (beq_iff_eq.mpr H))<|aT (q.r _ _ (C.pR (kA H.symm)));refine Y (if_neg λe=>H (beq_iff_eq.mp e)) ?_;have g:=wU m.hb H;obtain⟨c,hc⟩:=jw e.ka n;refine aM (dP n (aM (oK hO hk hc e.kb (λj l x y h o0=>yx (fO.mp C.b).2.1 h) (by have:=m.hb;exact ah [.lt (J+1) U] (.le (J+1+(U-(J+1))) U) B g) (Nat.sub_pos_of_lt g) λp v t f=>?_)));dsimp only;by_cases L:p>0;refine Y (if_pos L) ?_;have m2:=C.xf n λj hj y e=>i7 (t j hj y e);by_cases r:o+1+p=b.size;exact Y (if_pos (beq_iff_eq.mpr r))<|aT (q.r _ _ (m2.pR (kA r.symm)));refine Y (if_neg λe=>r (beq_iff_eq.mp e)) ?_;have i:o+1+p<b.size:=aL [.lt (J+1) u,.le U (u-(J+1)),.n (.eq (J+1+U) u)] (.lt (J+1+U) u) B g v r;obtain⟨y',d⟩:=atS i;exact FV e ⟨m2,m.ha,i⟩ n d (f p (aS _) (aL [.lt (u+1) U,.le J (U-(u+1)),.n (.eq (u+1+J) U),.lt (u+1+J) U] (.lt J (U-(u+1))) B g v r i) y' d) (q.le (aG z1 (Y wP<|eC _ _)));refine Y (if_neg L) ?_;obtain⟨y',d⟩:=atS g;have L:p=0:=an [.n (.lt 0 J)] (.eq J 0) B L;exact FV e ⟨C,m.ha,g⟩ n d (f 0 (an [.n (.lt 0 J)] (.le J 0) B (by assumption)) (ah [.lt (U+1) J] (.lt 0 (J-(U+1))) B g) y' d) (q.le z1)
theorem PI{st:aO}(r:κ.OneLt)(hk:kindOf st=gT)(e:ME κ a b)(m:MI κ a b out v ib)(q:Q2 κ a b out Q (dM st mg)):bU (aq prog w) A E s (uF a b mg out v ib ac bc) Q st:=by
 unfold uF;refine Y (vY _)<|xE (atS m.hb) λy g=>xE (jw e.kb g) λc hc=>aM (mS (aM (dP g (aM (oK r hk hc e.ka (λj l x y h o0=>yx (fO.mp m.g.a).2.1 h) (by have:=m.ha;exact ah [.lt (J+1) U] (.le (J+(U-J)) U) B this) (by have:=m.ha;exact ah [.lt (U+1) J] (.lt 0 (J-U)) B this) λk p t f=>?_)))));dsimp only;by_cases i:k>0;refine Y (if_pos i) ?_;have C:=m.g.yd g λj hj x e=>by have:=t j hj x e;simpa[hG,kl,tQ]using this
 by_cases n:v+k+1=a.size;exact Y (if_pos (beq_iff_eq.mpr n))<|aT (q.r _ _ (C.ls e n));refine Y (if_neg λe=>n (beq_iff_eq.mp e)) ?_;by_cases o:v+k=a.size;exact Y (if_pos (beq_iff_eq.mpr o))<|aT (q.r _ _ (C.o7 (kA o.symm)));refine Y (if_neg λe=>o (beq_iff_eq.mp e)) ?_;have H:=aL [.le U (u-J),.lt 0 U,.n (.eq (J+U+1) u),.n (.eq (J+U) u)] (.lt (J+U+1) u) B p i n o;refine xE (atS (aL [.lt (J+U+1) u] (.lt (J+U) u) B H)) λL d=>Dl r hk e ⟨C,H,m.hb⟩ d g (i7 ?_) (q.le (Y wP<|eC _ _));have:=f k (aS _) (aL [.le J (U-u),.lt 0 J,.n (.eq (u+J+1) U),.n (.eq (u+J) U),.lt (u+J+1) U] (.lt J (U-u)) B p i n o H) L d;simpa[hG,BD]using this;refine Y (if_neg i)<|xE (atS (tP m.ha)) λL d=>Dl r hk e m d g (i7 ?_) q;have:=f 0 (an [.n (.lt 0 J)] (.le J 0) B i) (by have:=m.ha;exact ah [.lt (U+1) J] (.lt 0 (J-U)) B this) L d;simpa[hG,BD]using this
theorem MG.size(m:MG κ a b out c d):out.size<=a.size+b.size:=by have:=m.perm.length_eq;simp only[bE,cz]at this;exact cK [.eq (J+(D+aA)) (U+u)] (.le J (U+u)) B this
theorem Pq{st:aO}(t:κ.OneLt)(hk:kindOf st=gT)(e:ME κ a b)(m:MI κ a b out ia ib)(v:∀r n g,Rz κ a b r->Q (.done (some r,n)) (dM st g))(h2:∀o i j c g,MI κ a b o i j->out.size<o.size->Q (.yield (none,o,i,j,c)) (dM st g)):bU (aq prog w) A E s (FW a b mg out ia ib) Q st:=by
 refine aM (jL (gu (I:=λx=>Ss st (MI κ a b) (out.size+x)) (Q:=I_ st (MI κ a b) (Rz κ a b) (out.size+1)) ?step ?fin (.mk _ _ _ 0 0 rfl rfl m (aS _))) ?post);case fin=>rintro c f ⟨o,i,j,p,d,rfl,rfl,h,l⟩;refine .go o i j p d rfl rfl h ?_;have:=h.ha;exact mZ [.le (J+aA) U,.lt (bB+1) u,.or (.and (.eq aA 0) (.le (u+D) 0)) (.and (.eq aA (u+D)) (.le 0 (u+D)))] (.lt J U) B l this i9
 case step=>rintro x c f _ hx ⟨o,i,j,p,d,rfl,rfl,h,l⟩;exact IS (out:=o) t hk e h (λr n R=>.done r n rfl rfl R) λq y C H L m2 l2=>⟨.go q y C H L rfl rfl m2 (aU [.le 0 u,.le (J+u) D,.lt D U] (.lt J U) B (by assumption) l l2),.mk q y C H L rfl rfl m2 (aU [.le (J+U) D,.lt D u] (.le (J+(U+1)) u) B l l2)⟩
 case post=>
  rintro c f (⟨r,n,rfl,rfl,R⟩|⟨o,i,j,p,d,rfl,rfl,h,l⟩);exact aT (v r _ (i8 f) R);refine aM (qJ (lJ ⟨rfl,?_⟩));refine aM (jL (gu (I:=λo0=>TH f (MI κ a b) (out.size+1)) (Q:=M0 f (MI κ a b) (Rz κ a b) (out.size+1)) ?step2 ?fin2 (.mk (i8 f) _ _ _ _ _ _ rfl rfl h l)) ?post2);case fin2=>rintro c k ⟨g,o,i,j,m,p,d,es,ec,h,l⟩;exact .go g _ _ _ _ _ _ es ec h l
  case step2=>rintro x c k _ hx ⟨g,o,i,j,m,p,d,rfl,rfl,h,l⟩;split;all_goals exact PI (out:=o) t hk e h ⟨λr n R=>.done _ r n rfl rfl R,λq i j m c d M l'=>⟨.go _ q i j m c d rfl rfl M (aG l l'),.mk _ q i j m c d rfl rfl M (aG l l')⟩⟩
  case post2=>rintro c k (⟨g,r,n,rfl,rfl,R⟩|⟨g,o,i,j,m,p,d,rfl,rfl,h,l⟩);exact aT (v r _ g R);exact Y (vY _)<|aM (mS (aT (h2 o i j _ _ h l)))
theorem MQ{st:aO}{a b:KA}{Q:KA->aO->Prop}(H:κ.OneLt)(hk:kindOf st=gT)(e:ME κ a b)(v:0<a.size)(p:b[0]? =some y)(L:a.toList.Pairwise (kl κ))(sb:b.toList.Pairwise (kl κ))(l:∀x∈a.toList,kl κ y x)(h:∀r g,Rz κ a b r->Q r (dM st g)):bU (aq prog w) A E s (zv a b) Q st:=by
 refine Y (Kd _ _)<|aM (qJ (lJ ⟨rfl,aM (dP p ?_)⟩));have d:b.toList=y::b.toList.drop 1:=o_ p;have m:MG κ a b #[y] 0 1:=⟨by
  refine(?_:(y::(a.toList++b.toList.drop 1)).Perm (a.toList++b.toList));conv=>rhs;rw[d]
  exact List.perm_middle.symm,tO.mpr ⟨l,L⟩,by refine(?_:(y::b.toList.drop 1).Pairwise _);exact ae d<|sb⟩
 by_cases n:1=b.size;exact Y (if_pos (beq_iff_eq.mpr n))<|aT (h _ (i8 st) (m.pR (kA n.symm)));refine Y (if_neg λe=>n (beq_iff_eq.mp e)) ?_;by_cases f:0+1=a.size;exact Y (if_pos (beq_iff_eq.mpr f))<|aT (h _ (i8 st) (m.ls e f));refine Y (if_neg λe=>f (beq_iff_eq.mp e))<|aM (kB (aM (jL (gu (I:=λx=>Vy st (MI κ a b) (x+1)) (Q:=GF st (Rz κ a b)) ?step ?fin ⟨i8 st,_,_,_,_,rfl,rfl,⟨m,an [.lt 0 J,.n (.eq (0+1) J)] (.lt (0+1) J) B v f,ah [.lt 0 U,.n (.eq 1 J),.n (.eq (0+1) U),.lt 0 J] (.lt 1 J) B v n f ((nZ.mp p).1)⟩,qK⟩) ?post)));case post=>rintro c k ⟨g,r,C,rfl,rfl,R⟩;exact aT (h r g R)
 case fin=>rintro c k ⟨g,o,i,j,m,rfl,rfl,q,l⟩;have:=q.g.size;exact(aU [.lt u D,.le D (J+U),.or (.and (.eq u 0) (.le (J+U) 0)) (.and (.eq u (J+U)) (.le 0 (J+U)))] .ff B l this i9).elim
 case step=>rintro x c k _ hx ⟨g,o,i,j,m,rfl,rfl,q,l⟩;exact Pq (out:=o) H hk e q (λr C t R=>⟨t,r,C,rfl,rfl,R⟩) λo' i' j' c' t M l'=>⟨t,o',i',j',c',rfl,rfl,M,aL [.lt J u,.lt u U] (.lt (J+1) U) B l l'⟩
noncomputable def jM(a b out:KA)(c d:Nat):KA:=a.extract 0 c++b.extract 0 d++out.reverse
noncomputable def rI(a b out:KA)(c d:Nat):KA:=b.extract 0 d++a.extract 0 c++out.reverse
abbrev H1:=Option KA×Nat×Nat×KA×Nat×Nat
abbrev H2:=Option KA×Nat×Nat×KA×Nat×Nat×Nat
abbrev H3:=Option KA×Nat×Nat×KA×Nat
def CJ(a b:KA)(h:Nat)(c d:Nat)(out:KA)(f g:Nat):StateT aO a_ (ForInStep H1):=do let y <-d7 b (d- 1) let x <-d7 a (c- 1) let r <-lt' y x match r with
 |some e=>
 if e=true then do let x <-d7 a (c- 1) if(c- 1==0)=true then pure (.done (some (jM a b (out.push x) (c- 1) d),c- 1,d,out.push x,f+1,0))else if f+1>=h then pure (.done (none,c- 1,d,out.push x,f+1,0))else pure (.yield (none,c- 1,d,out.push x,f+1,0))
 else do let y <-d7 b (d- 1) if(d- 1==1)=true then pure (.done (some (rI a b (out.push y) c (d- 1)),c,d- 1,out.push y,0,g+1))else if g+1>=h then pure (.done (none,c,d- 1,out.push y,0,g+1))else pure (.yield (none,c,d- 1,out.push y,0,g+1))
 |_=>pure (.done (some (jM a b out c d),c,d,out,f,g))
def yo (a b:KA) (f : Nat) (c d : Nat) (out : KA) (k e : Nat) : StateT aO a_ (ForInStep H2) := do
  let x <- d7 a (c - 1)
  if (c - 1 == 0) = true then pure (.done (some (jM a b (out.push x) (c - 1) d), c - 1, d, out.push x, f, k, e))
  else if (decide (k < 7) && decide (e < 7)) = true then pure (.done (none, c - 1, d, out.push x, f, k, e))
  else pure (.yield (none, c - 1, d, out.push x, f, k, e))
def zU(a b:KA)(e:Nat)(d c:Nat)(out:KA)(k f:Nat):StateT aO a_ (ForInStep H2):=do let y <-d7 b (c- 1) if(c- 1==1)=true then pure (.done (some (rI a b (out.push y) d (c- 1)),d,c- 1,out.push y,e,k,f))else do let x <-d7 a (d- 1) let r <-lT true x b 0 (c- 1) (c- 1- 1) match r with
 |some t=>if c- 1- t>0 then if(t==1)=true then pure (.done (some (rI a b (out.push y++(b.extract t (c- 1)).reverse) d t),d,t,out.push y++(b.extract t (c- 1)).reverse,e,k,c- 1- t))else if(t==0)=true then pure (.done (some (jM a b (out.push y++(b.extract t (c- 1)).reverse) d t),d,t,out.push y++(b.extract t (c- 1)).reverse,e,k,c- 1- t))else yo a b e d t (out.push y++(b.extract t (c- 1)).reverse) k (c- 1- t);else yo a b e d (c- 1) (out.push y) k (c- 1- t)
 |_=>pure (.done (some (jM a b (out.push y) d (c- 1)),d,c- 1,out.push y,e,k,f))
def uQ(a b:KA)(e:Nat)(c d:Nat)(out:KA)(g f:Nat):StateT aO a_ (ForInStep H2):=do rC e let y <-d7 b (d- 1) let r <-lT false y a 0 c (c- 1) match r with
 |some t=>if c- t>0 then if(t==0)=true then pure (.done (some (jM a b (out++(a.extract t c).reverse) t d),t,d,out++(a.extract t c).reverse,e,c- t,f))else zU a b e t d (out++(a.extract t c).reverse) (c- t) f;else zU a b e c d out (c- t) f
 |_=>pure (.done (some (jM a b out c d),c,d,out,e,g,f))
def Ds(a b:KA)(e:Nat)(f g:Nat)(out:KA):StateT aO a_ (ForInStep H3):=do
 let d <-forIn [0:a.size+b.size] ((none,f,g,out,0,0)) λh d=>CJ a b e d.2.1 d.2.2.1 d.2.2.2.1 d.2.2.2.2.1 d.2.2.2.2.2
 match d.1 with
 |some r=>pure (.done (some r,d.2.1,d.2.2.1,d.2.2.2.1,e))
 |none=>do
 liftM (j_ "list.sort.gallop")
 let c <-forIn [0:a.size+b.size] ((none,d.2.1,d.2.2.1,d.2.2.2.1,e+1,d.2.2.2.2.1,d.2.2.2.2.2)) λh c=>
 if c.2.2.2.2.1>1 then uQ a b (c.2.2.2.2.1- 1) c.2.1 c.2.2.1 c.2.2.2.1 c.2.2.2.2.2.1 c.2.2.2.2.2.2
 else uQ a b c.2.2.2.2.1 c.2.1 c.2.2.1 c.2.2.2.1 c.2.2.2.2.2.1 c.2.2.2.2.2.2
 match c.1 with
 |some r=>pure (.done (some r,c.2.1,c.2.2.1,c.2.2.2.1,c.2.2.2.2.1))
 |none=>do
 rC (c.2.2.2.2.1+1)
 pure (.yield (none,c.2.1,c.2.2.1,c.2.2.2.1,c.2.2.2.2.1+1))
theorem VP(a b:KA):xV a b=(do liftM (j_ "list.sort.merge-hi") let x <-d7 a (a.size- 1) if(a.size- 1==0)=true then pure (jM a b #[x] (a.size- 1) b.size)else if(b.size==1)=true then pure (rI a b #[x] (a.size- 1) b.size)else do let st <-get let c <-forIn [0:a.size+b.size] ((none,a.size- 1,b.size,#[x],i8 st):H3) λd c=>Ds a b c.2.2.2.2 c.2.1 c.2.2.1 c.2.2.2.1 match c.1 with
 |some r=>pure r
 |none=>liftM (m:=a_) (Il "internal:list.sort.merge-bound")):=by kernel_rfl
theorem oI{a:KA}(h:a[i- 1]? =some x)(hi:0<i):(a.toList.take i).reverse=x::(a.toList.take (i- 1)).reverse:=by obtain⟨i,rfl⟩:∃j,i=j+1:=⟨i- 1,an [.lt (.k 0) J] (.eq J (.a (.s J (.k 1)) (.k 1))) B hi⟩;rw[Xt]at h⊢;refine xE (nZ.mp h) λb e=>Y (Xv (by simpa using b))<|Y BE<|Y (ot _)<|Y e ?_;rfl
theorem Gv{a:KA}(h:t<=i)(hi:i<=a.size):(a.toList.take i).reverse=(a.extract t i).reverse.toList++(a.toList.take t).reverse:=by refine Y wX<|Y tN<|ae BE<|(?_:_=(a.toList.take t++BB (i- t) (a.toList.drop t)).reverse);congr 1;obtain⟨d,rfl⟩:∃d,i=t+d:=⟨i- t,ah [.le U J] (.eq J (.a U (.s J U))) B h⟩;exact Y (og _ _)<|Y Xw rfl
theorem oW{a:KA}:(a.extract 0 i).toList=a.toList.take i:=by refine Y tN ?_;rfl
theorem Fi{a:KA}(h:x∈(a.extract t i).reverse.toList):∃j,t<=j/\j<i/\a[j]? =some x:=by rw[wX,Bg]at h;by_cases q:t<=i;obtain⟨d,rfl⟩:∃d,i=t+d:=⟨i- t,ah [.le U J] (.eq J (U+(J-U))) B q⟩;exact ad (rK h) λj b e=>(bn (t+j) (eC _ _) (aL [.lt U u] (.lt (J+U) (J+u)) B b) e);have:(a.extract t i).toList=[]:=Y tN<|(?_:BB (i- t) _=[]);refine Y (Wj (wi q)) ?_;rfl;rw[this]at h;rcases h
def kr κ x y:=kl κ y x
structure oU κ(a b:KA):Prop where
 ka:KeysOf κ a
 kb:KeysOf κ b
 sa:a.toList.Pairwise (kl κ)
 sb:b.toList.Pairwise (kl κ)
 mn:∀z,b[0]? =some z->∀x∈a.toList,kl κ z x
def MH(κ:oq)(a b:KA)(c d:Nat)(out:KA):=G (kr κ) (a.toList++b.toList) out.toList (a.toList.take c).reverse (b.toList.take d).reverse
structure MJ κ a b na nb out:Prop where
 g:MH κ a b na nb out
 ha:0<na
 hb:1<nb
 la:na<=a.size
 lb:nb<=b.size
theorem MH.E1(m:MH κ a b c g out)(e:0<c)(f:a[c- 1]? =some x)(h:kl κ x y):∀d∈(a.toList.take c).reverse,kl κ d y:=by have q:=(fO.mp m.a).2.1;rw[oI f e]at q⊢;intro d hz;rcases hz with _|⟨_,hz⟩;exact h;exact mj ((tO.mp q).1 d hz) h
theorem MH.FY(m:MH κ a b g c out)(e:0<c)(f:b[c- 1]? =some y)(h:kl κ y x):∀d∈(b.toList.take c).reverse,kl κ d x:=by have q:=(fO.mp m.b).2.1;rw[oI f e]at q⊢;intro d hz;rcases hz with _|⟨_,hz⟩;exact h;exact mj ((tO.mp q).1 d hz) h
theorem MH.ro(m:MH κ a b c d out)(e:0<c)(f:0<d)(g:a[c- 1]? =some x)(i:b[d- 1]? =some y)(h:kl κ y x):MH κ a b (c- 1) d (out.push x):=by have l:=m.FY f i h;unfold MH at m⊢;rw[oI g e]at m;exact Y wC<|m.one l
theorem MH.rS(m:MH κ a b c d out)(e:0<c)(f:0<d)(g:a[c- 1]? =some x)(i:b[d- 1]? =some y)(h:kl κ x y):MH κ a b c (d- 1) (out.push y):=by have l:=m.E1 e g h;unfold MH at m⊢;rw[oI i f]at m;exact Y wC<|(m.swap.one l).swap
theorem MH.yd(m:MH κ a b c d out)(g:0<d)(i:b[d- 1]? =some y)(k:t<=c)(n:c<=a.size)(h:∀j,t<=j->j<c->∀x,a[j]? =some x->kl κ y x):MH κ a b t d (out++(a.extract t c).reverse):=by have l:=λx f=>m.FY (x:=x) g i f;unfold MH at m⊢;rw[Gv k n]at m;exact Y f8<|m.take λx f=>c_ (Fi f) λj o p e=>l x (h j o p x e)
theorem MH.xf(m:MH κ a b d c out)(g:0<d)(i:a[d- 1]? =some x)(k:t<=c)(lb:c<=b.size)(h:∀j,t<=j->j<c->∀y,b[j]? =some y->kl κ x y):MH κ a b d t (out++(b.extract t c).reverse):=by have l:=λy f=>m.E1 (y:=y) g i f;unfold MH at m⊢;have m:=m.swap;rw[Gv k lb]at m;refine Y f8<|(m.take λy f=>?_).swap;exact c_ (Fi f) λj n o e=>l y (h j n o y e)
theorem xT{l:List d6}(h:l.Perm (a.toList++b.toList)/\l.Pairwise (kr κ))(e:r.toList=l.reverse):Rz κ a b r:=⟨e▸(Im l).trans h.1,e▸Io.mpr h.2⟩
theorem MH.pR(m:MH κ a b c 0 out):Rz κ a b (jM a b out c 0):=by refine xT (G.done m)<|Y f8<|Y f8<|Y oW<|Y oW<|Y wX<|Y BE<|Y (Ip _) ?_;simp
theorem MH.o7(m:MH κ a b 0 c out):Rz κ a b (jM a b out 0 c):=by refine xT (G.done (G.swap m))<|Y f8<|Y f8<|Y oW<|Y oW<|Y wX<|Y BE<|Y (Ip _) ?_;simp
theorem MH.fs(m:MH κ a b f 1 out)(e:oU κ a b)(g:0<b.size):Rz κ a b (rI a b out f 1):=by
 refine xE (atS g) λc hz=>?_;have d:(b.toList.take 1).reverse=[c]:=oI hz qK;unfold MH at m;rw[d]at m;refine xT (m.swap.last λx h=>e.mn c hz x (wS (Bg.mp h))) ?_;have i:b.toList.take 1=[c]:=ae (Ip (b.toList.take 1))<|Y d ?_;rfl
 refine Y f8<|Y f8<|Y oW<|Y oW<|Y wX<|Y i ?_;simp
inductive K5 st(P:Nat->Nat->KA->Prop)n(c:H3)st':Prop
 |mk (g) (i j) (o) (m) (es:st'=dM st g) (ec:c=(none,i,j,o,m)) (p:P i j o) (l:n<=o.size)
inductive Vu st(P:Nat->Nat->KA->Prop)n(c:Option KA×Nat×Nat×KA×Nat×Nat)(st':aO):Prop
 |mk (i j) (o) (c' d) (es:st'=st) (ec:c=(none,i,j,o,c',d)) (p:P i j o) (l:n<=o.size)
inductive Ti st(P:Nat->Nat->KA->Prop)(R:KA->Prop)n(c:Option KA×Nat×Nat×KA×Nat×Nat)(st':aO):Prop
 |done (r) (z) (es:st'=st) (ec:c=(some r,z)) (h:R r)
 |go (i j) (o) (c' d) (es:st'=st) (ec:c=(none,i,j,o,c',d)) (p:P i j o) (l:n<=o.size)
inductive P_ st(P:Nat->Nat->KA->Prop)n(c:Option KA×Nat×Nat×KA×Nat×Nat×Nat)st':Prop
 |mk (g) (i j) (o) (m c' d) (es:st'=dM st g) (ec:c=(none,i,j,o,m,c',d)) (p:P i j o) (l:n<=o.size)
inductive Jt st(P:Nat->Nat->KA->Prop)(R:KA->Prop)n(c:Option KA×Nat×Nat×KA×Nat×Nat×Nat)st':Prop
 |done (g) (r) (z) (es:st'=dM st g) (ec:c=(some r,z)) (h:R r)
 |go (g) (i j) (o) (m c' d) (es:st'=dM st g) (ec:c=(none,i,j,o,m,c',d)) (p:P i j o) (l:n<=o.size)
theorem MJ.DH(m:MJ κ a b c d out):∃x,a[c- 1]? =some x:=atS (by have:=m.ha;have:=m.la;exact ah [.lt (.k 0) J,.le J U] (.lt (.s J (.k 1)) U) B (by assumption) this)
theorem MJ.El(m:MJ κ a b d c out):∃y,b[c- 1]? =some y:=atS (by have:=m.hb;have:=m.lb;exact ah [.lt 1 J,.le J U] (.lt (J-1) U) B (by assumption) this)
theorem MJ.dn(m:MJ κ a b c d out)(g:MH κ a b (c- 1) d (out.push x))(h:¬c- 1=0):MJ κ a b (c- 1) d (out.push x):=⟨g,Nat.pos_of_ne_zero h,m.hb,aG (oi _ _) m.la,m.lb⟩
theorem Ug{st:aO}{a:KA}(H:κ.OneLt)(hk:kindOf st=gT)(e:oU κ a b)(m:MJ κ a b p t out)(v:∀r g,Rz κ a b r->Q (.done (some r,g)) st)(C:∀i j o c d,MJ κ a b i j o->out.size<o.size->Q (.done (none,i,j,o,c,d)) st/\Q (.yield (none,i,j,o,c,d)) st):bU (aq prog w) A E s (CJ a b mg p t out ac bc) Q st:=by refine bh λR' L=>xE m.El λy k=>xE m.DH λx l=>xE (jw e.kb k) λc hc=>xE (jw e.ka l) λd hd=>?_;have n:=tP m.hb;refine L<|aM (dP k (aM (dP l (aM (t5 H hk hc hd ?_)))));rcases q:κ.blt (ky κ y) (ky κ x)with _|_;have h:=m.g.rS m.ha n l k q;refine aM (dP k ?_);by_cases f:t- 1=1;refine Y (if_pos (beq_iff_eq.mpr f)) ?_;rw[f]at h⊢;exact aT (v _ _ (h.fs e (eS n m.lb)));refine Y (if_neg λe=>f (beq_iff_eq.mp e)) ?_;have g:=λc d=>C _ _ _ c d ⟨h,m.ha,by have:=m.hb;exact an [.n (.eq (J-1) 1),.lt 1 J] (.lt 1 (J-1)) B f this,m.la,aG (oi _ _) m.lb⟩ (Y (lP _)<|f9 _);split;exact aT (g _ _).1;exact aT (g _ _).2;have h:=m.g.ro m.ha n l k (i7 q);refine aM (dP l ?_);by_cases f:p- 1=0;refine Y (if_pos (beq_iff_eq.mpr f)) ?_;rw[f]at h⊢;exact aT (v _ _ h.o7);refine Y (if_neg λe=>f (beq_iff_eq.mp e)) ?_;have g:=λc d=>C _ _ _ c d (m.dn h f) (Y (lP _)<|f9 _);split;exact aT (g _ _).1;exact aT (g _ _).2
structure Q3 κ(a b out:KA)(Q:ForInStep H2->aO->Prop)st:Prop where
 r:∀r z,Rz κ a b r->Q (.done (some r,z)) st
 m:∀i j o g c d,MJ κ a b i j o->out.size<=o.size->Q (.done (none,i,j,o,g,c,d)) st/\Q (.yield (none,i,j,o,g,c,d)) st
theorem Q3.le{st:aO}(q:Q3 κ a b out Q st)(h:out.size<=o.size):Q3 κ a b o Q st:=⟨q.r,λi j o g c d m l=>q.m i j o g c d m (aG h l)⟩
theorem DM{st:aO}(m:MJ κ a b h j out)(n:a[h- 1]? =some x)(p:b[j- 1]? =some y)(l:kl κ y x)(q:Q3 κ a b out Q st):bU (aq prog w) A E s (yo a b r h j out k t) Q st:=by have i:=m.g.ro m.ha (tP m.hb) n p l;refine aM (dP n ?_);by_cases f:h- 1=0;refine Y (if_pos (beq_iff_eq.mpr f)) ?_;rw[f]at i⊢;exact aT (q.r _ _ i.o7);refine Y (if_neg λe=>f (beq_iff_eq.mp e)) ?_;have o:=λg c d=>q.m _ _ _ g c d (m.dn i f) (Y (lP _)<|gS _);split;exact aT (o _ _ _).1;exact aT (o _ _ _).2
theorem yH{xs:KA}(h:xs.toList.Pairwise (kl κ))j l x y(a:j<=l)(_:l<n)(b:xs[0+j]? =some x)(c:xs[0+l]? =some y):kl κ x y:=yx (i:=0) h a b c
theorem CY{st:aO}(hO:κ.OneLt)(hk:kindOf st=gT)(e:oU κ a b)(m:MJ κ a b na n out)(p:a[na- 1]? =some x)(hy:b[n- 1]? =some y)(l:kl κ x y)(q:Q3 κ a b out Q st):bU (aq prog w) A E s (zU a b mg na n out k bc) Q st:=by
 have C:=tP m.hb;have H:=m.g.rS m.ha C p hy l;have z1:out.size<=(out.push y).size:=Y (lP _)<|gS _;refine aM (dP hy ?_);by_cases L:n- 1=1;refine Y (if_pos (beq_iff_eq.mpr L)) ?_;rw[L]at H⊢;exact aT (q.r _ _ (H.fs e (eS C m.lb)));refine Y (if_neg λe=>L (beq_iff_eq.mp e)) ?_;have f:1<n- 1:=by have:=m.hb;exact an [.n (.eq (J-1) 1),.lt 1 J] (.lt 1 (J-1)) B L this
 have d:n- 1<=b.size:=aG (oi _ _) m.lb;obtain⟨c,hc⟩:=jw e.ka p;refine aM (dP p (aM (oK hO hk hc e.kb (yH e.sb) (ah [.le (J-1) U] (.le (0+(J-1)) U) B d) (an [.lt 1 (J-1)] (.lt (J-1-1) (J-1)) B f) λt ht tr fa=>?_)));dsimp only;have h:=λj hj y e=>i7 (tr j hj y (Y (fm _)<|e));by_cases k0:n- 1- t>0;refine Y (if_pos k0) ?_;have v:=H.xf m.ha p ht d λj r o y e=>by have:=fa j r o y (Y (fm _)<|e);exact this
 by_cases r:t=1;refine Y (if_pos (beq_iff_eq.mpr r)) ?_;rw[r]at v⊢;exact aT (q.r _ _ (v.fs e (eS C m.lb)));refine Y (if_neg λe=>r (beq_iff_eq.mp e)) ?_;by_cases o:t=0;refine Y (if_pos (beq_iff_eq.mpr o)) ?_;rw[o]at v⊢;exact aT (q.r _ _ v.pR);refine Y (if_neg λe=>o (beq_iff_eq.mp e)) ?_;obtain⟨y',g⟩:=atS (i:=t- 1) (aL [.lt 1 (u-1),.le (u-1) U,.le J (u-1)] (.lt (J-1) U) B f d ht);exact DM ⟨v,m.ha,an [.n (.eq J 1),.n (.eq J 0)] (.lt 1 J) B r o,m.la,aL [.le (u-1) U,.le J (u-1)] (.le J U) B d ht⟩ p g (h _ (an [.n (.eq J 0)] (.lt (J-1) J) B o) y' g) (q.le (aG z1 (Y wP<|eC _ _)));refine Y (if_neg k0) ?_;obtain⟨y',g⟩:=atS (i:=n- 1- 1) (aL [.lt 1 (J-1),.le (J-1) U,.le u (J-1),.n (.lt 0 (J-1-u))] (.lt (J-1-1) U) B f d ht k0);exact DM ⟨H,m.ha,f,m.la,d⟩ p g (h _ (ah [.lt 0 J,.lt 1 (J-1),.n (.lt 0 (J-1-U))] (.lt (J-1-1) U) B C f k0) y' g) (q.le z1)
theorem SS{st:aO}(i:κ.OneLt)(hk:kindOf st=gT)(e:oU κ a b)(m:MJ κ a b p r out)(q:Q3 κ a b out Q (dM st v)):bU (aq prog w) A E s (uQ a b v p r out ac bc) Q st:=by
 unfold uQ;refine Y (vY _)<|bh λR' C=>xE m.El λy h=>xE (jw e.kb h) λc H=>C<|aM (mS (aM (dP h (aM (oK i hk H e.ka (yH e.sa) (Y (fm _)<|m.la) (by have:=m.ha;exact an [.lt 0 J] (.lt (J-1) J) B this) λt k L fa=>?_)))));dsimp only;have f:=λj hj x e=>by have:=L j hj x (Y (fm _)<|e);simpa[hG,kl,tQ]using this
 by_cases l:p- t>0;refine Y (if_pos l) ?_;have n:=m.g.yd (tP m.hb) h k m.la λj h1 g x e=>by have:=fa j h1 g x (Y (fm _)<|e);exact i7 (by simpa[hG,BD]using this)
 by_cases g:t=0;refine Y (if_pos (beq_iff_eq.mpr g)) ?_;rw[g]at n⊢;exact aT (q.r _ _ n.o7);refine Y (if_neg λe=>g (beq_iff_eq.mp e)) ?_;have:=m.la;exact xE (atS (aL [.le J u,.n (.eq J 0),.le u U] (.lt (J-1) U) B k g this)) λo d=>CY i hk e ⟨n,an [.n (.eq J 0)] (.lt 0 J) B g,m.hb,aL [.le J u,.le u U] (.le J U) B k this,m.lb⟩ d h (f _ (an [.n (.eq J 0)] (.lt (J-1) J) B g) o d) (q.le (Y wP<|eC _ _));exact Y (if_neg l)<|xE m.DH λo d=>CY i hk e m d h (f _ (by have:=m.ha;exact ah [.n (.lt 0 (J-U)),.lt 0 J] (.lt (J-1) U) B l this) o d) q
theorem MH.size(m:MH κ a b c d out):out.size<=a.size+b.size:=by have:=m.perm.length_eq;simp only[bE,cz]at this;exact cK [.eq (J+(D+aA)) (U+u)] (.le J (U+u)) B this
theorem T_{st:aO}(t:κ.OneLt)(hk:kindOf st=gT)(e:oU κ a b)(m:MJ κ a b na nb out)(v:∀r n g,Rz κ a b r->Q (.done (some r,n)) (dM st g))(h2:∀i j o c g,MJ κ a b i j o->out.size<o.size->Q (.yield (none,i,j,o,c)) (dM st g)):bU (aq prog w) A E s (Ds a b mg na nb out) Q st:=by
 refine aM (jL (gu (I:=λx=>Vu st (MJ κ a b) (out.size+x)) (Q:=Ti st (MJ κ a b) (Rz κ a b) (out.size+1)) ?step ?fin (.mk _ _ _ 0 0 rfl rfl m (aS _))) ?post);case fin=>rintro c h ⟨i,j,o,p,d,rfl,rfl,f,l⟩;refine .go i j o p d rfl rfl f ?_;have:=f.ha;have:=f.la;exact mZ [.le (J+aA) U,.lt 0 bB,.le bB u,.or (.and (.eq aA 0) (.le (u+D) 0)) (.and (.eq aA (u+D)) (.le 0 (u+D)))] (.lt J U) B l (by assumption) this i9
 case step=>rintro x c h _ hx ⟨i,j,o,p,d,rfl,rfl,f,l⟩;exact Ug (out:=o) t hk e f (λr n R=>.done r n rfl rfl R) λy C q H L m2 l2=>⟨.go y C q H L rfl rfl m2 (aU [.le 0 u,.le (J+u) D,.lt D U] (.lt J U) B (by assumption) l l2),.mk y C q H L rfl rfl m2 (aU [.le (J+U) D,.lt D u] (.le (J+(U+1)) u) B l l2)⟩
 case post=>
  rintro c h (⟨r,n,rfl,rfl,R⟩|⟨i,j,o,p,d,rfl,rfl,f,l⟩);exact aT (v r _ (i8 h) R);refine aM (qJ (lJ ⟨rfl,?_⟩));refine aM (jL (gu (I:=λo0=>P_ h (MJ κ a b) (out.size+1)) (Q:=Jt h (MJ κ a b) (Rz κ a b) (out.size+1)) ?step2 ?fin2 (.mk (i8 h) _ _ _ _ _ _ rfl rfl f l)) ?post2);case fin2=>rintro c k ⟨g,i,j,o,m,p,d,es,ec,f,l⟩;exact .go g _ _ _ _ _ _ es ec f l
  case step2=>rintro x c k _ hx ⟨g,i,j,o,m,p,d,rfl,rfl,f,l⟩;split;all_goals exact SS (out:=o) t hk e f ⟨λr n R=>.done _ r n rfl rfl R,λi j q m c d M l'=>⟨.go _ i j q m c d rfl rfl M (aG l l'),.mk _ i j q m c d rfl rfl M (aG l l')⟩⟩
  case post2=>rintro c k (⟨g,r,n,rfl,rfl,R⟩|⟨g,i,j,o,m,p,d,rfl,rfl,f,l⟩);exact aT (v r _ g R);exact Y (vY _)<|aM (mS (aT (h2 i j o _ _ f l)))
theorem QP{st:aO}{a b:KA}{Q:KA->aO->Prop}(hO:κ.OneLt)(hk:kindOf st=gT)(e:oU κ a b)(C:0<a.size)(p:0<b.size)(q:a[a.size- 1]? =some x)(l:∀y∈b.toList,kl κ y x)(h:∀r g,Rz κ a b r->Q r (dM st g)):bU (aq prog w) A E s (xV a b) Q st:=by
 refine Y (VP _ _)<|aM (qJ (lJ ⟨rfl,aM (dP q ?_)⟩));have ta:(a.toList.take a.size).reverse=a.toList.reverse:=ae cz<|Y mR rfl;have H:(b.toList.take b.size).reverse=b.toList.reverse:=ae cz<|Y mR rfl;have d:=oI q C;rw[ta]at d;have m:MH κ a b (a.size- 1) b.size #[x]:=⟨by refine(?_:(x::((a.toList.take (a.size- 1)).reverse++(b.toList.take b.size).reverse)).Perm (a.toList++b.toList));refine Y H<|ae Xi<|ae d<|(Im _).append (Im _),by refine(?_:(x::(a.toList.take (a.size- 1)).reverse).Pairwise _);refine ae d<|Io.mpr e.sa,by refine(?_);exact Y H<|tO.mpr ⟨λy hy=>l y (Bg.mp hy),Io.mpr e.sb⟩⟩;by_cases n:a.size- 1=0;refine Y (if_pos (beq_iff_eq.mpr n)) ?_;rw[n]at m⊢;exact aT (h _ (i8 st) m.o7);refine Y (if_neg λe=>n (beq_iff_eq.mp e)) ?_;by_cases f:b.size=1;refine Y (if_pos (beq_iff_eq.mpr f)) ?_;rw[f]at m⊢;exact aT (h _ (i8 st) (m.fs e p));refine Y (if_neg λe=>f (beq_iff_eq.mp e))<|aM (kB (aM (jL (gu (I:=λx=>K5 st (MJ κ a b) (x+1)) (Q:=GF st (Rz κ a b)) ?step ?fin ⟨i8 st,_,_,_,_,rfl,rfl,⟨m,ah [.lt 0 J,.lt 0 U,.n (.eq (J-1) 0),.n (.eq U 1)] (.lt 0 (J-1)) B C p n f,an [.lt 0 J,.n (.eq J 1)] (.lt 1 J) B p f,oi _ _,aS _⟩,qK⟩) ?post)));case post=>rintro c k ⟨g,r,L,rfl,rfl,R⟩;exact aT (h r g R)
 case fin=>rintro c k ⟨g,i,j,o,m,rfl,rfl,t,l⟩;have:=t.g.size;exact(aU [.lt u D,.le D (J+U),.or (.and (.eq u 0) (.le (J+U) 0)) (.and (.eq u (J+U)) (.le 0 (J+U)))] .ff B l this i9).elim
 case step=>rintro x c k _ q ⟨g,i,j,o,m,rfl,rfl,t,l⟩;exact T_ (out:=o) hO hk e t (λr L v R=>⟨v,r,L,rfl,rfl,R⟩) λi' j' o' c' v M l'=>⟨v,i',j',o',c',rfl,rfl,M,aL [.lt J u,.lt u U] (.lt (J+1) U) B l l'⟩
noncomputable def wZ st p:=SortSt.mk' (kindOf st) (az st) p (i8 st) (om st)
noncomputable def sg(r xs:KA)i:=r.toList.zipIdx.foldl (λa(p,j)=>a.setIfInBounds (i+j) p) xs
def zw(m:StateT aO a_ KA)(i:Nat):StateT aO a_ Bool:=do
 let m <-m
 modify λst=>tL st (sg m (az st) i)
 let st <-get
 pure (om st).isNone
def yT(a:KA)d e b c:=do
  let y <-d7 a b
  let r <-lT false y a d e 0
  match r with
  |some k=>
    if(e- k==0)=true then pure true
    else do
      let x <-d7 a (d+k+(e- k)- 1)
      let r <-lT true x a b c (c- 1)
      match r with
      |some c=>
        if(c==0)=true then pure true
        else if e- k<=c then zw (zv (a.extract (d+k) b) (a.extract b (b+c))) (d+k)
        else zw (xV (a.extract (d+k) b) (a.extract b (b+c))) (d+k)
      |_=>pure false
  |_=>pure false
theorem J9 i:BF i=(do
 let st <-get
 match((eG st)[i]?,(eG st)[i+1]?)with
 |(some (a,b,d),some (e,c,_))=>do
 set (wZ st (((eG st).setIfInBounds i (a,b+c,d)).eraseIdxIfInBounds (i+1)))
 yT (az st) a b e c
 |_=>liftM (m:=a_) (Il "internal:list.sort.pending")):=by kernel_rfl
theorem Lj i r:∀j(xs:KA),i+j+r.length<=xs.size->((r.zipIdx j).foldl (λa(p,j)=>a.setIfInBounds (i+j) p) xs).toList=xs.toList.take (i+j)++(r++xs.toList.drop (i+j+r.length)):=by induction r with
 |nil=>intro j xs h;simp
 |cons x r b=>intro j xs h;rw[List.zipIdx_cons,Ws];refine(b (j+1) _ (by rw[wr];simp only[jJ]at h;exact aU [.le (J+U+(u+1)) D] (.le (J+(U+1)+u) D) B h)).trans ?_;rw[WO];rw[<-lH,jJ,show i+j+1+r.length=i+j+(r.length+1) by exact aL [] (.eq (J+U+1+u) (J+U+(u+1))) B,List.drop_set_of_lt (by exact aL [] (.lt (J+U) (J+U+(u+1))) B),Xv (by rw[WM];exact(by simp only[jJ]at h;rw[cz];exact aU [.le (J+U+(D+1)) u] (.lt (J+U) u) B h)),List.getElem_set_self,List.take_set_of_le (aS _),cr];rfl
theorem mE{xs:KA}(h:xs[i]? =some x):KK κ xs i=ky κ x:=by unfold KK ky;exact Y h rfl
theorem CC{xs:KA}{lo n:Nat}(h:Up κ xs lo n)(c:lo+n<=xs.size):((xs.toList.drop lo).take n).Pairwise (kl κ):=by refine Xu.mpr λi j hi a b=>?_;simp only[jK,lQ,cz]at hi a;have q:=h i j (dU b) (aU [.lt J (.mn U (u-D))] (.lt J U) B a);rw[mE (mP (by exact aU [.le (J+D) u,.lt U (.mn D (u-J))] (.lt (J+U) u) B c hi)),mE (mP (by exact aU [.le (J+D) u,.lt U (.mn D (u-J))] (.lt (J+U) u) B c a))]at q;simp only[Iq,BC,ot];exact q
theorem GY{xs:KA}(h:xs.toList.Pairwise (kl κ)):lR κ xs xs.size:=λi j a b=>xE (atS (iR a b)) λx c=>xE (atS b) λy d=>Y (mE c)<|Y (mE d)<|yH h i j x y a b (Y (fm _)<|c) (Y (fm _)<|d)
theorem Oa{b:List d6}(k:(f++d).Pairwise (kl κ))(l:(e++b).Pairwise (kl κ))(m:r.Perm (d++e))(n:r.Pairwise (kl κ))(g:∀x∈f,∀y∈e++b,kl κ x y)(o:∀x∈d,∀y∈b,kl κ x y):(f++(r++b)).Pairwise (kl κ):=by
 have h:=fO.mp k;have i:=fO.mp l;have j:∀x∈r,x∈d\/x∈e:=λx a=>iQ.mp (m.mem_iff.mp a);refine fO.mpr (aX h.1 (fO.mpr (aX n i.2.1 (λx a y c=>?_))) (λx a y c=>?_));exact(j x a).elim (λq=>o x q y c) (λq=>i.2.2 x q y c)
 ·cases iQ.mp c with
 |inl q=>exact(j y q).elim (h.2.2 x a y) (λq=>g x a y (mG _ q))
 |inr q=>exact g x a y (j9 _ q)
theorem Co{st:aO}(c:om st=none)(d:∀Q',(∀r g,Rz κ a b r->Q' r (dM st g))->bU (aq prog w) A E s m Q' st)(h:∀r g,Rz κ a b r->Q true (tL (dM st g) (sg r (az st) i))):bU (aq prog w) A E s (zw m i) Q st:=by refine aM (d _ λr g R=>aM (mS (aM (kB (aT ?_)))));refine(?_);exact Y c<|h r g R
theorem Sv{st:aO}{H:KA}(hO : κ.OneLt) (h0 : KeysOf κ H) (L : SB H P st) (h1 : 0 < o) (h2 : 0 < n2) (C : o + n2 = H.size)
    (u1 : Up κ (az st) 0 o) (u2 : Up κ (az st) o n2) (h : ∀ ai, SB H P ai -> lR κ (az ai) H.size -> Q true ai) :
    bU (aq prog w) A E s (yT (az st) 0 o o n2) Q st := by
  have hz := L.size
  have hk:= λp hp => h0 p ((Ij.mp L.perm).mem_iff.mp hp)
  have pa:= CC u1 (aU [.lt 0 u,.eq (J+u) D,.eq U D] (.le (0+J) U) B h2 C hz)
  have pb : ((az st).toList.drop o).Pairwise (kl κ) := by
    have := CC u2 (aU [.eq (J+U) D,.eq u D] (.le (J+U) u) B C hz)
    rwa [qF (by simp; exact aU [.eq (u+U) D,.eq J D] (.le J (U+u)) B C hz)] at this
  have av : ∀ j l x y, j <= l -> l < o -> (az st)[0 + j]? = some x -> (az st)[0 + l]? = some y -> kl κ x y := λj l x y a c e1 e2 => by
    have := u1 j l a c
    rwa [mE e1, mE e2] at this
  have a0 : ∀ j l x y, j <= l -> l < n2 -> (az st)[o + j]? = some x -> (az st)[o + l]? = some y -> kl κ x y := λj l x y a c e1 e2 => by
    have := u2 j l a c
    rwa [mE e1, mE e2] at this
  refine xE (atS (i := o) (aU [.lt 0 u,.eq (J+u) D,.eq U D] (.lt J U) B h2 C hz)) λy hy =>xE (jw hk hy) λc hc => ?_
  skip
  refine aM (dP hy (aM (oK hO L.kind hc hk av (aU [.lt 0 u,.eq (J+u) D,.eq U D] (.le (0+J) U) B h2 C hz) h1 λk aj t f => ?_)))
  dsimp only
  have tA : ∀ n ∈ (az st).toList.take o, ∃ j, j < o /\ (az st)[0 + j]? = some n := λn hz => by
    obtain ⟨j, v, e⟩ := n_ hz
    simp only [jK, cz] at v
    rw [Iq, ot] at e
    exact (ak j (cK [.lt 0 u,.eq (U+u) D,.eq aA D,.lt J (.mn U aA)] (.lt J U) B h2 C (by assumption) v) (Y (fm _)<|ae e<|mP (cK [.lt 0 u,.eq (D+u) aA,.eq U aA,.lt J (.mn D U)] (.lt J U) B h2 C (by assumption) v)))
  have tB : ∀ n ∈ (az st).toList.drop o, ∃ j, j < n2 /\ (az st)[o + j]? = some n := λn hz => by
    obtain ⟨j, v, e⟩ := n_ hz
    simp only [lQ, cz] at v
    rw [BC, ot] at e
    exact (ak j (cK [.lt 0 U,.eq (u+U) D,.eq aA D,.lt J (aA-u)] (.lt J U) B h2 C (by assumption) v) (ae e<|mP (cK [.lt 0 D,.eq (J+D) aA,.eq u aA,.lt U (u-J)] (.lt (J+U) u) B h2 C (by assumption) v)))
  have a1 : (∀ x ∈ (az st).toList.take o, ∀ n ∈ (az st).toList.drop o, kl κ x n) -> lR κ (az st) H.size := λq =>ae hz<|GY<|ae (qE o (az st).toList)<|fO.mpr (aX pa pb q)
  have yB:= λn hz =>ad (tB n hz) λj v e =>a0 0 j y n (lN _) v hy e
  by_cases hl : o - k = 0
  · refine Y (if_pos (beq_iff_eq.mpr hl))<|aT (h st L (a1 λx hx n hz => mj ?_ (yB n hz)))
    refine ad (tA x hx) λj v e => ?_
    have := t j (mZ [.eq (u+D) aA,.eq bB aA,.le U u,.eq (u-U) 0,.lt J u] (.lt J U) B C (by assumption) aj hl v) x e
    simpa [hG, kl, tQ] using this
  · refine Y (if_neg λe => hl (beq_iff_eq.mp e))<|xE (atS (i := o - 1) (aU [.lt 0 J,.lt 0 u,.eq (J+u) D,.eq U D] (.lt (J-1) U) B h1 h2 C hz)) λx hx =>xE (jw hk hx) λd hd => ?_
    have xA:= λn hz =>ad (tA n hz) λj v e =>av j (o - 1) n x (cK [.lt 0 U,.eq (U+u) D,.eq aA D,.lt J U] (.le J (U-1)) B h1 C (by assumption) v) (aU [.lt 0 J,.eq (J+U) u,.eq D u] (.lt (J-1) J) B h1 C (by assumption)) e (Y (fm _)<|hx)
    refine Y (by exact cK [.lt 0 U,.eq (U+u) D,.eq aA D,.le J U] (.eq (0+J+(U-J)-1) (U-1)) B h1 C hz aj : 0 + k + (o - k) - 1 = o - 1)<|aM (dP hx (aM (oK hO L.kind hd hk a0 (aU [.eq (J+U) D,.eq u D] (.le (J+U) u) B C hz) (an [.lt 0 J] (.lt (J-1) J) B h2) λm hm t2 f2 => ?_)))
    dsimp only
    have xB : ∀ n ∈ (az st).toList.drop (o + m), kl κ x n := λn hz => by
      obtain ⟨j, v, e⟩ := n_ hz
      simp only [lQ, cz] at v
      rw [BC, ot] at e
      exact f2 (m + j) (ah [] (.le J (J+U)) B) (mZ [.eq (D+u) aA,.eq bB aA,.le J u,.lt U (bB-(D+J))] (.lt (J+U) u) B C (by assumption) hm v) n (ae e<|ae (lH _ _ _)<|mP (mZ [.eq (J+aA) bB,.eq D bB,.le U aA,.lt u (D-(J+U))] (.lt (J+U+u) D) B C (by assumption) hm v))
    by_cases af : m = 0
    · refine Y (if_pos (beq_iff_eq.mpr af)) ?_
      subst af
      exact aT (h st L (a1 λx' a3 n hz => mj (xA x' a3) (xB n hz)))
    · refine Y (if_neg λe => af (beq_iff_eq.mp e)) ?_
      obtain ⟨e, rfl⟩ : ∃ e, o = k + e := ⟨o - k,cK [.eq (J+u) D,.eq aA D,.le U J] (.eq J (U+(J-U))) B C hz aj⟩
      refine Y (fm _)<|Y (og _ _) ?_
      rw [og] at hl
      have l1 : (az st).toList.take k ++ ((az st).extract k (k + e)).toList = (az st).toList.take (k + e) := by
        refine Y tN<|(?_ : _ ++ BB (k + e - k) ((az st).toList.drop k) = _)
        exact Y (og _ _)<|Y Xw rfl
      have l2 : ((az st).extract (k + e) (k + e + m)).toList ++ (az st).toList.drop (k + e + m) = (az st).toList.drop (k + e) := zc.symm
      generalize ha : (az st).extract k (k + e) = a at *
      generalize hb : (az st).extract (k + e) (k + e + m) = b at *
      have za : a.size = e :=ae ha<|Y Xx<|ar [_, _, _, _, _] [.lt (.k 0) D, .eq u aA, .eq (.a (.a J U) D) aA] (.eq (.s (.mn (.a J U) u) J) U) B h2 hz C
      have zb : b.size = m :=ae hb<|Y Xx<|ar [_, _, _, _, _, _, _] [.eq D aA, .le u bB, .eq (.a (.a J U) bB) aA, .eq hN U] (.eq (.s (.mn (.a (.a J U) u) D) (.a J U)) u) B hz hm C za
      have iA : ∀ n ∈ a.toList, n ∈ (az st).toList.take (k + e) := λn hz => l1 ▸ j9 _ hz
      have iB : ∀ n ∈ b.toList, n ∈ (az st).toList.drop (k + e) := λn hz => l2 ▸ mG _ hz
      have ka : KeysOf κ a := λp hp => hk p (wS (iA p hp))
      have kb : KeysOf κ b := λp hp => hk p (qH (iB p hp))
      have sa := (fO.mp (l1 ▸ pa)).2.1
      have sb := (fO.mp (l2 ▸ pb)).1
      have ya : ∀ n ∈ a.toList, kl κ y n := λn hz => by
        rw [<- ha] at hz
        refine ad (rK hz) λj v q => ?_
        have := f (k + j) (ar [_, _] [] (.le J (.a J U)) B) (ar [_, _, _, _] [.eq D u, .lt U u] (.lt (.a J U) (.a J u)) B za v) n (Y (fm _)<|q)
        exact i7 (by simpa [hG, BD] using this)
      have bx : ∀ n ∈ b.toList, kl κ n x := λn hz => by
        rw [<- hb] at hz
        exact ad (rK hz) λj v q =>i7 (t2 j v n q)
      have b0 : b[0]? = some y :=ae hb<|Y (Xy)<|Y (if_pos (by exact ar [_, _, _, _, _, _, _, _] [.eq D aA, .le u bB, .n (.eq u (.k 0)), .eq (.a (.a J U) bB) aA, .n (.eq U (.k 0)), .eq hN U, .eq qW u] (.lt (.k 0) (.s (.mn (.a (.a J U) u) D) (.a J U))) B hz hm af C hl za zb))<|hy
      have ax : a[a.size - 1]? = some x :=Y za<|ae ha<|Y (Xy)<|Y (if_pos (by exact ar [_, _, _, _, _, _] [.lt (.k 0) D, .eq u aA, .eq (.a (.a U J) D) aA, .n (.eq J (.k 0)), .eq bB J] (.lt (.s J (.k 1)) (.s (.mn (.a U J) u) U)) B h2 hz C hl za))<|ae hx ?_; congr 1; exact ar [_, _, _] [.lt (.k 0) (.a J U), .n (.eq U (.k 0)), .eq u U] (.eq (.a J (.s U (.k 1))) (.s (.a J U) (.k 1))) B h1 hl za
      have a2 : ∀ r g, Rz κ a b r -> Q true (tL (dM st g) (sg r (az st) k)) := λr g R => by
        have lr : r.toList.length = e + m :=Y R.perm.length_eq<|Y bE<|Y cz<|Y cz<|Y za<|Y zb rfl
        have w := Lj k r.toList 0 (az st) (Y lr<|ar [_, _, _, _, _, _, _, _, _] [.eq D aA, .le u bB, .eq (.a (.a J U) bB) aA, .eq hN U, .eq qW u, .eq Kk (.a U u)] (.le (.a (.a J (.k 0)) (.a U u)) D) B hz hm C za zb lr)
        rw [lr, Nat.add_zero, <- lH] at w
        have w:= w
        have pr : (sg r (az st) k).Perm (az st) := by
          refine Ij.mpr<|Y w<|((R.perm.append_right _).append_left _).trans ?_
          rw [<- cr, <- cr, l1, cr, l2, qE]
        have B' : SB H P (tL (dM st g) (sg r (az st) k)) := ⟨pr.trans L.perm, L.kind, L.failed, L.pend⟩
        refine h _ B'<|ae B'.size<|GY<|(?_)
        refine Y w<|Oa (l1 ▸ pa) (l2 ▸ pb) R.perm R.up (λn hz z' ap => mj ?_ (yB z' (l2 ▸ ap))) λn hz z' ap => mj (xA n (iA n hz)) (xB z' ap)
        obtain ⟨j, v, q⟩ := n_ hz
        simp only [jK, cz] at v
        rw [Iq, ot] at q
        have := t j (ar [_, _, _, _] [.eq u D, .lt J (.mn U u)] (.lt J U) B (by assumption) v) n (Y (fm _)<|ae q<|mP (ar [_, _, _, _] [.eq U u, .lt J (.mn D U)] (.lt J U) B (by assumption) v))
        simpa [hG, kl, tQ] using this
      split
      · exact Co L.failed (λQ' h' => MQ hO L.kind ⟨ka, kb, λn hz => by rw [ax] at hz;exact ae (ao hz)<|bx⟩ (ar [_, _] [.n (.eq U (.k 0)), .eq J U] (.lt (.k 0) J) B hl za) b0 sa sb ya h') a2
      · exact Co L.failed (λQ' h' => QP hO L.kind ⟨ka, kb, sa, sb, λn hz => by rw [b0] at hz;exact ae (ao hz)<|ya⟩ (ar [_, _, _, _] [.eq J U, .eq u D, .n (.le U D)] (.lt (.k 0) J) B za zb (by assumption)) (ar [_, _, _, _] [.n (.eq U (.k 0)), .n (.eq u (.k 0)), .eq D u, .eq J U] (.lt (.k 0) J) B af hl za zb) ax bx h') a2
abbrev RS:=ForInStep (Option Unit×Nat)
noncomputable def Cf(lo n:Nat):StateT aO a_ RS:=do
 modify λs=>setPending s ((eG s).push (lo,n,0))
 pure (.yield (none,lo+n))
def qV(a lo n:Nat):StateT aO a_ RS:=do
  let st <-get
  match(eG st).back? with
  |some (d,c,_)=>do
    let e <-forIn [0:a] ((none,())) λf f=>do
      let st <-get
      match(if(eG st).size>1 then(eG st)[(eG st).size- 2]? else none)with
      |some (_,_,b)=>
        if b<=power' a (2*d+c) (2*d+c+c+n) a then pure (.done (none,()))
        else do
          let r <-BF ((eG st).size- 2)
          if(!r)=true then pure (.done (some (),()))else pure (.yield (none,()))
      |_=>pure (.done (none,()))
    match e.1 with
    |some r=>pure (.done (some r,lo))
    |none=>do
      modify λs=>setPending s ((eG s).modify ((eG s).size- 1) λx=>(x.1,x.2.1,power' a (2*d+c) (2*d+c+c+n) a))
      Cf lo n
  |_=>Cf lo n
def DG(a mu lo:Nat):StateT aO a_ RS:=do let x <-countRun' lo (a- lo) match x with
 |some b=>
 if b<mu then do liftM (j_ "list.sort.binary-insertion") let r <-binarySort' lo (fZ (a- lo) mu) b if(!r)=true then pure (.done (some (),lo))else qV a lo (fZ (a- lo) mu)
 else qV a lo b
 |_=>pure (.done (some (),lo))
noncomputable def Eu (a : Nat) : StateT aO a_ Unit := do
  let b <- forIn [0:a] ((none, ())) λc c => do
    let st <- get
    if (eG st).size <= 1 then pure (.done (none, ()))
    else do
      let r <- BF (if Option.any (λx => decide (x < (eG st)[(eG st).size - 2 + 1]?.elim 0 λx => x.2.1))
          (if (eG st).size - 2 > 0 then Option.map (λx => x.2.1) (eG st)[(eG st).size - 2 - 1]? else none) = true then (eG st).size - 2 - 1 else (eG st).size - 2)
      if (!r) = true then pure (.done (some (), ())) else pure (.yield (none, ()))
  match b.1 with
  | some r => pure r
  | none => pure ()
theorem I1:sortRuns'=(do let st <-get let a <-forIn [0:(az st).size] ((none,0):Option Unit×Nat) λb a=>if a.2>=(az st).size then pure (.done (none,a.2))else DG (az st).size (minRun' (az st).size (az st).size 0) a.2 match a.1 with
 |some r=>pure r
 |none=>Eu (az st).size):=by kernel_rfl
theorem GJ{st:aO}{b:KA}{lo:Nat}(k:κ.OneLt)(l:KeysOf κ b)(hz:a=b.size)(e:lo<a)(r:1<=mu)(t:SB b P st)(h:∀n c,SB b P c->1<=n->lo+n<=a->(mu<=n\/lo+n=a)->Up κ (az c) lo n->Fx κ lo (az st) (az c)->bU (aq prog w) A E s (qV a lo n) Q c):bU (aq prog w) A E s (DG a mu lo) Q st:=by refine aM (O6 k l (ar [_,_,_] [.eq U u,.lt J U] (.le (.a J (.s U J)) u) B hz e) (ar [_,_,_] [.eq J u,.lt U J] (.le (.k 1) (.s J U)) B hz e) t λm c o f g p q=>?_);dsimp only;by_cases d:m<mu;exact Y (if_pos d)<|aM (qJ (lJ ⟨rfl,aM (NN k l (ar [_,_,_,_] [.eq U D,.lt J U] (.le (.a J (.mn (.s U J) u)) D) B hz e) f (ar [_,_,_,_] [.le J (.s U u),.lt J D] (.le J (.mn (.s U u) D)) B g d) o p λi v x j=>Y (if_neg nofun)<|h _ i v (ar [_,_,_,_] [.le (.k 1) u,.le (.k 1) D,.le D (.s J U)] (.le (.k 1) (.mn (.s J U) u)) B r f g) (ar [_,_,_,_] [.eq U D,.lt J U] (.le (.a J (.mn (.s U J) u)) U) B hz e) (ar [_,_,_,_] [.eq U D,.lt u U] (.or (.le J (.mn (.s U u) J)) (.eq (.a u (.mn (.s U u) J)) U)) B hz e) x (q.trans j))⟩));exact Y (if_neg d)<|h m c o f (ar [_,_,_,_] [.eq u D,.lt J u,.le U (.s u J)] (.le (.a J U) u) B hz e g) (.inl (ar [_,_] [.n (.lt U J)] (.le J U) B d)) p q
theorem Ob{st:aO}{a:KA}{d lo:Nat}(c:SB a #[] st)(h:∀b,SB a #[(lo,n,0)] b->az b=az st->Q (.yield (none,lo+n)) b):bU (aq prog w) A E s (qV d lo n) Q st:=by refine aM (kB ?_);refine Y c.pend<|aM (mS (aT (h _ ⟨c.perm,c.kind,c.failed,by refine(?_);refine Y c.pend ?_;rfl⟩ rfl)))
theorem Sf{st:aO}{b:KA}{lo n f:Nat}{Q:RS->aO->Prop}(e:SB b #[(0,f,0)] st)(h:∀a i,SB b #[(0,f,i),(lo,n,0)] a->az a=az st->Q (.yield (none,lo+n)) a):bU (aq prog w) A E s (qV d lo n) Q st:=by refine aM (kB ?_);refine Y e.pend<|aM (jL (gu (I:=λg c a=>a=st/\c=(none,())) ?_ (λg g j=>j) ⟨rfl,rfl⟩) ?_);rintro x c a _ _ ⟨rfl,rfl⟩;refine aM (kB ?_);exact Y e.pend<|aT ⟨rfl,rfl⟩;rintro c a ⟨rfl,rfl⟩;exact aM (mS (aM (mS (aT (h _ (power' d (2*0+f) (2*0+f+f+n) d) ⟨e.perm,e.kind,e.failed,by refine(?_);refine Y e.pend ?_;rfl⟩ rfl)))))
inductive Runs κ(a₀:KA)st:Prop
 |one (B:SB a₀ #[(0,a₀.size,0)] st) (u:lR κ (az st) a₀.size)
 |two (n1 n2 pw) (B:SB a₀ #[(0,n1,pw),(n1,n2,0)] st) (h1:0<n1) (h2:0<n2) (hn:n1+n2=a₀.size) (u1:Up κ (az st) 0 n1) (u2:Up κ (az st) n1 n2)
theorem S2{xs:KA}(c:Up κ xs 0 n):lR κ xs n:=λi j a b=>by have:=c i j a b;rwa [fm,fm]at this
theorem P4 a b c:((#[(0,a,c),(a,b,0)]:Array (Nat×Nat×Nat)).setIfInBounds 0 (0,a+b,c)).eraseIdxIfInBounds 1= #[(0,a+b,c)]:=by apply Hw.mp;simp
theorem Kc{st:aO}(h:Q ⟨⟩ x):bU (aq prog w) A E s (set x:StateT aO a_ PUnit) Q st:=by unfold bU;rw[StateT.run_set];exact aK ⟨rfl,h⟩
theorem Qh{st:aO}{a:KA}(n:κ.OneLt)(o:KeysOf κ a)(k:2<=a.size)(R:Runs κ a st)(h:∀b,(az b).Perm a->om b=none->lR κ (az b) a.size->Q () b):bU (aq prog w) A E s (Eu a.size) Q st:=by
 refine aM (jL (gu (I:=λx c b=>c=(none,())/\((x=0/\Runs κ a b)\/∃f,SB a #[(0,a.size,f)] b/\lR κ (az b) a.size)) (Q:=λc b=>c=(none,())/\∃f,SB a #[(0,a.size,f)] b/\lR κ (az b) a.size) ?step ?fin ⟨rfl,.inl ⟨rfl,R⟩⟩) ?post);case post=>rintro c b ⟨rfl,f,d,i⟩;exact aT (h b d.perm d.failed i)
 case fin=>rintro c b ⟨rfl,⟨p,_⟩|q⟩;exact(ah [.le 2 J,.eq U 0,.or (.and (.eq U 0) (.le J 0)) (.and (.eq U J) (.le 0 J))] .ff B k p i9).elim;exact⟨rfl,q⟩
 case step=>rintro x c b _ _ ⟨rfl,⟨rfl,R⟩|⟨f,d,i⟩⟩;refine aM (kB ?_);rcases R with⟨d,i⟩|⟨g,j,f,d,r,k,l,t,v⟩;exact Y (if_pos (Y d.pend<|aS _))<|aT (fh rfl 0 d i);refine Y d.pend<|Y (if_neg (λe=>absurd (show 2<=1 from e) (by decide)))<|(?_:bU _ _ _ _ (BF 0>>=_) _ _);refine Y (J9 _)<|aM (aM (kB ?_));refine Y d.pend<|(?_:bU _ _ _ _ (set (wZ b (((#[(0,g,f),(g,j,0)]).setIfInBounds 0 (0,g+j,f)).eraseIdxIfInBounds 1))>>=λC=>yT (az b) 0 g g j) _ _);refine Y (P4 _ _ _)<|aM (Kc ?_);refine Sv (st:=wZ b #[(0,g+j,f)]) (P:= #[(0,g+j,f)]) n o ⟨d.perm,d.kind,d.failed,rfl⟩ r k l t v λy m S=>?_;rw[l]at m;exact aT ⟨rfl,.inr (ak f m S)⟩;refine aM (kB ?_);exact Y (if_pos (Y d.pend<|aS _))<|aT (fh rfl f d i)
theorem Nv(b:64<=n)(a:n<128):minRun' n n 0=n/2+max 0 (n %2):=by obtain⟨f,rfl⟩:∃f,n=f+2:=⟨n- 2,an [.le (.k 64) J,.lt J (.k 128)] (.eq J (.a (.s J (.k 2)) (.k 2))) B b a⟩;exact Y ((λk=>minRun'_succ (f+1) k 0) _)<|Y (if_neg (by exact an [.le (.k 64) (.a J (.k 2)),.lt (.a J (.k 2)) (.k 128)] (.n (.lt (.a J (.k 2)) (.k 64))) B b a))<|Y (minRun'_succ _ _ _)<|Y (if_pos (by exact ah [.le (.k 64) (.a J (.k 2)),.lt (.a J (.k 2)) (.k 128),.and (.le (.m 2 U) (.a J (.k 2))) (.lt (.a J (.k 2)) (.a (.m 2 U) (.k 2)))] (.lt U (.k 64)) B b a (eW (by decide)))) rfl
theorem yt(h:64<=S):1<=S/2+max 0 (S %2):=aG (Nat.div_pos (aG (by decide) h) (by decide)) (eC _ _)
theorem Mr(l:S/2+max 0 (S %2)<=a)(b:a+n<=S)(o:S/2+max 0 (S %2)<=n\/a+n=S):a+n=S:=o.elim (λo=>mZ [.le (U+D) aA,.le (aA+bB) J,.le (U+D) bB,.eq ((.m 2 U)+u) J,.le u D] (.eq (aA+bB) J) B l b o (Nat.div_add_mod S 2) (Xp 0 (S %2))) id
theorem PS{st:aO}{a:KA}(q:κ.OneLt)(r:KeysOf κ a)(L:SB a #[] st)(d:64<=a.size)(f:a.size<128)(h:∀b,(az b).Perm a->om b=none->lR κ (az b) a.size->Q () b):bU (aq prog w) A E s sortRuns' Q st:=by
 refine Y I1<|aM (kB ?_);refine Y L.size<|Y (Nv d f)<|aM (jL (gu (I:=λx c b=>(x=0/\c=(none,0)/\SB a #[] b)\/(x=1/\∃j,c=(none,j)/\a.size/2+max 0 (a.size %2)<=j/\j<a.size/\SB a #[(0,j,0)] b/\Up κ (az b) 0 j)\/(1<=x/\c=(none,a.size)/\Runs κ a b)) (Q:=λc b=>c=(none,a.size)/\Runs κ a b) ?step ?fin (.inl (aX rfl rfl L))) ?post);case post=>rintro c b ⟨rfl,R⟩;exact Qh q r (an [.le 64 J,.lt J 128] (.le 2 J) B d f) R h
 case fin=>rintro c b (⟨l,_⟩|⟨l,_⟩|⟨_,af⟩);exact(ah [.le 64 J,.lt J 128,.eq U 0,.or (.and (.eq U 0) (.le J 0)) (.and (.eq U J) (.le 0 J))] .ff B d f l i9).elim;exact(ah [.le 64 J,.lt J 128,.eq U 1,.or (.and (.eq U 0) (.le J 0)) (.and (.eq U J) (.le 0 J))] .ff B d f l i9).elim;exact af
 case step=>rintro x c b _ _ (⟨rfl,rfl,t⟩|⟨rfl,j,rfl,l1,l2,t,m⟩|⟨l,rfl,R⟩);dsimp only;refine Y (if_neg (by exact an [.le 64 J,.lt J 128] (.n (.le J 0)) B d f))<|GJ q r rfl (an [.lt 0 J] (.lt 0 J) B (by assumption)) (yt d) t λn C v hn o g m o0=>Ob v λH p e=>?_;rw[fm]at o g⊢;by_cases y:n=a.size;subst y;exact .inr (.inr (aX (aS _) rfl (.one p (Y e<|S2 m))));exact .inr (.inl (fh rfl n rfl (bA (g.resolve_right y) (ah [.le J U,.n (.eq J U)] (.lt J U) B o y) p (Y e<|m))));dsimp only;refine Y (if_neg (by exact ah [.lt U J] (.n (.le J U)) B l2))<|GJ q r rfl l2 (yt d) t λn C v hn o g u' fx=>Sf v λH pw p e=>?_;have k:=Mr l1 o g;refine .inr (.inr (aX (ar [] [] (.le (.k 1) (.a (.k 1) (.k 1))) B) (Y k rfl) (.two j n pw p (aG (yt d) l1) hn k ?_ (Y e<|u'))));exact Y e<|m.to λi hi=>fx _ (ah [.lt J U] (.lt (0+J) U) B hi);dsimp only;exact Y (if_pos (aS _))<|aT ⟨rfl,R⟩
set_option backward.match.sparseCases false
theorem Ox{vs:List ay}(h:¬vs.length<64):∃a b c,vs=a::b::c:=by rcases vs with _|⟨a,_|⟨b,c⟩⟩;exact absurd (by decide) h;exact absurd (by decide:1<64) h;exact(p7 a b c rfl)
theorem OW(j:s.heap.get? a=some (tR "list" vs.toArray n))(i:wY vs C)(b:vs.length<128)(h:∀out c,wY out.toList c->c.Perm C->sortedS c=true->P (.done (.ret .none)) {s with heap:=sortedHeap s.heap a vs out}):aJ (aq prog w) A (wD.«list.sort» ⟨[.ref a],[]⟩) P E s:=by by_cases d:vs.length<64;exact list_sort_treeK strKind_oneLt j i.keysOf (λk l m e=>keyKind_strs (by rw[<-e];exact i)) d λf o q=>c_ (sorted_out_str i o q) λc r t v=>h _ c r t v;have ha:=du j;have g:vs.toArray.size=vs.length:=nY;rw[list_sort_plain];refine ag (listItems_at j rfl (ag (listUpdate_at j rfl ?_)));have x:=n6 j λp=>(#[]);refine ag (seqEpoch_at x rfl (ag (HV (ag (wpAny_newList (da ?_))))));have y:(((s.heap.update a (qx λp=> #[])).push (tR "tuple" vs.toArray 0)).push (tR "list" #[] 0)).get? a=_:=cO _ (cO _ x);rw[if_neg (by exact ah [.lt U 128,.n (.lt U 64),.eq J U] (.n (.lt J 2)) B b d g),if_neg (by exact ah [.lt U 128,.n (.lt U 64),.eq J U] (.n (.lt J 2)) B b d g)];refine ui (Ox d) λk l m e=>?_;rw[show keyKind' vs.toArray=pure gT by rw[e];exact keyKind_strs (e▸i)];refine ag (aK (ag (iY (PS (Q:=λp f=>(az f).Perm (pairsOf vs)/\om f=none/\lR strKind (az f) (pairsOf vs).size) strKind_oneLt i.keysOf ⟨Array.Perm.refl _,rfl,rfl,rfl⟩ (by rw[Ir];exact ah [.lt J 128,.n (.lt J 64),.eq U J] (.le 64 J) B b d g) (by rw[Ir];exact an [.lt J 128] (.lt J 128) B b) λf H L a3=>(aX H L a3)) ?_ λp p e=>e)));rintro⟨⟨⟩,f⟩ s' ⟨rfl,o,hf,q⟩;refine ag (seqEpoch_at y rfl (ag (listUpdate_at y rfl ?_ (hsz2:=by refine aG (kA ((Array.size_map ..).trans (o.size_eq.trans (Ir _)))) ?_;rw[fA];exact ah [.lt J 128,.n (.lt J 64),.eq U J] (.le J (16777216+1)) B b d g))));rw[hf,if_neg (by rw[bne_self_eq_false];exact nofun)];exact c_ (sorted_out_str i o q) λc r t v=>aK (h _ c r t v)
theorem UL:sortedS l=true->kF l=l:=by induction l with
 |nil=>exact λb=>rfl
 |cons x l d=>rcases l with _|⟨y,r⟩;exact λb=>rfl;refine λh=>gd h λa e=>(congrArg (dh x) (d e)).trans (gZ (decide_eq_true λc=>?_));rw[ltCps_eq]at a;rw[decide_eq_true c]at a;exact ft a
theorem Me(x:wY vs a):aH φ h (a.map V.str) vs:=by induction x with
 |nil=>exact .nil
 |cons x t _ b=>exact .cons _ _ _ _ (.str _ _) b
theorem Vk(b:vs.length=a.length)(h:∀(i:Nat)v,vs[i]? =some v->∃k t,a[i]? =some k/\v=.str k t):wY vs a:=by induction vs generalizing a with
 |nil=>
 rcases a with _|_;exact .nil
 ·injection b
 |cons v vs d=>rcases a with _|⟨k,a⟩;injection b;exact bZ (h 0 v rfl) λf t e c=>Y c<|Y (ao e)<| .cons _ _ (d (bX b) λi v e=>h (i+1) v e)
theorem aN.d8(h:aN (M.d8 xs H) Q E):Q (.ref H.length) (H++[.list xs]):=by delta M.d8 at h;by_cases l:xs.length<=bH;rw[if_pos l]at h;exact h;rw[if_neg l]at h;exact h.elim
theorem Kv:jR prog w hb:=λk hk=>k9 λA φ s H a c R G ha=>z.mk λQ E h=>by
 refine fW (aN.dict G ha h) λi es p n af=>Y n<|xA af λai aj=>Y ai<|xA aj λap h=>?_;obtain⟨ds,hp,g,he,nd⟩:=ap;refine cT (nr (prog:=prog) g he nd) λL hd h2 h3 o0=>?_;by_cases hl:es.length<=100;rw[if_pos hl]at h;have q:=aN.d8 h;have hn:L.length<=bH:=by rw[h3];exact aG hl (lb B)
 refine call_function_entry kind_sorted plain_sorted entry_sorted (args_sorted1 _) ?_;unfold wD.«sorted»;refine ag (aK ?_);refine ag (kdu_collect (kdl_dict (G.rel.oA hp)) (R.none hk) hd hn λj tk d kp m=>?_);have f:d.toList.length=L.length:=by rw[cz];exact m.1
 have hS:wY d.toList (es.map (·.1)):=Vk (by rw[f,<-h2,bD]) λi v e=>bZ (m.2 i v (by rw[<-qp];exact e)) λk x e1 e2=>xE (A6 (e2)) λt n=>Y n<|(bQ k t (by rw[<-h2,f_,e1];rfl) rfl);refine ag (wpAny_newList ?_ (by rw[f];exact hn));have r:(j.push (tR "list" d.toList.toArray 0)).get? j.objs.size=some (tR "list" d.toList.toArray 0):=dZ _ rfl;refine ag (da (wA slot_list_sort (ak _ r rfl) entry_list_sort (OW r hS (by rw[f,h3];exact iR hl (lb B)) λout ax h5 h6 h7=>?_) (args_list_sort _)));refine(ak _ rfl (aK (ak _ rfl ?_)));have e:=(UL h7).symm.trans (Cz h6);rw[e]at h5;refine xE (sortedHeap_at (out:=out) r) λep av=>?_;have y:∀b o,s.heap.get? b=some o->(sortedHeap (j.push (tR "list" d.toList.toArray 0)) j.objs.size d.toList out).get? b=some o:=λb o e=>by have l:=du (kp b o e);rw[sortedHeap_old (gN l) (by rw[size_push'];exact Ii l),cO _ (kp b o e)]
 have C:s.heap.get? j.objs.size=none:=by rcases e:s.heap.get? j.objs.size with _|o;rfl;exact absurd (du (kp _ o e)) (p_ _)
 have n1:=xE G.rel.lo λo e=>Ah (du (kp _ o (G.rel.base _ o e)));exact q _ _ _ (G.step (G.rel.FC (p:=(j.objs.size,j.objs.size)) y C C n1 n1 (ir rfl out ep av (Me h5))) (Step.new y C C)) (Step.s (Step.new y C C)) (Good.jm G.rel _ _);rw[if_neg hl]at h;exact h.elim
def m6(m:Nat):Nat->(List ay->Prop)->Prop
 |0,P=>kK m P
 |d+1,P=>kK m P/\m6 (m+1) d P
theorem m6.ok{P:List ay->Prop}:∀{d m},m6 m d P->∀a,m<=a.length->a.length<=m+d->P a
 |0,m,h,a,b,c=>kK.ok h a (Xf c b)
 |d+1,m,h,a,b,c=>by by_cases e:a.length=m;exact kK.ok h.1 a e;exact m6.ok h.2 a (by omega) (by omega)
noncomputable def Kn(P:Params)(e:iS):=match e.key with
 | .str x _=>{e with hash:=nV P x}
 |_=>e
noncomputable def Ma(e:iS):=match e.key with
 | .str _ _=>true
 |_=>false
set_option tactic.hygienic true in
theorem uo{P:Params}:∀{l},l.map (Kn P)=l->l.all Ma=true->wJ P l
  |[],_,_=>trivial
  |e::r,h,q=>by
    rw[kn,WG]at h
    rw[AK,bO]at q
    refine⟨?_,uo h.2 q.2⟩
    obtain⟨c,ky,v⟩:=e
    have a:=q.1
    have b:=h.1
    cases ky
    case str x t=>exact⟨x,t,rfl,(congrArg DictEntry.hash b).symm⟩
    all_goals cases a
noncomputable def qX(K:aE)(a:Nat):Array iS:=match K.lookup a with
 |some ⟨_,_,.dict b _,_⟩=>b
 |_=> #[]
noncomputable def zV(K:aE)(a:Nat):Nat:=match K.lookup a with
 |some ⟨_,_,.dict _ n,_⟩=>n
 |_=>0
noncomputable def pE(v:Option ay):Nat:=match v with
 |some (.ref b)=>b
 |_=>0
noncomputable def rU(v:Option ay):=match v with
 |some (.str _ t)=>t
 |_=>0
noncomputable def rX(K:aE)(a i:Nat):Option ay:=match K.lookup a with
 |some ⟨_,_,.seq vs _,_⟩=>vs[i]?
 |_=>none
theorem AC{K:aE}{a:Array iS}{q x:aa}(b:gm cE a q=some (.ref (pE (gm cE a q))))(c:K.lookup (pE (gm cE a q))=some {cls:=.type "tuple",data:=.seq #[.str x (rU (rX K (pE (gm cE a q)) 0))]}):sG K a q x:=⟨_,_,b,c⟩
noncomputable def N_(K:aE)(a:Nat):Obj:=match K.lookup a with
 |some o=>o
 |none=>default
noncomputable def Ji K:=pE (match nsIn K f7 "__builtins__"with|some v=>v|none=>none)
theorem cD{K:aE}{a:Nat}{s:Src}n(b:s.ps.length=n)(c:sK s=true)(d:K.lookup a=some ⟨.type "function",none,.func (yU K a s),#[]⟩)(e:wu K (fdOf K a).code (fdOf K a).qualname=true)(f:sQ TT s (fdOf K a).qualname (fdOf K a).code=true)(g:kK n λh=>Binds K a s [] h):∃i,FnAt TT K a s [] i:=
 ⟨[],vh n b c Mk d e f (Ut g)⟩
theorem t0:True:=trivial
namespace full
def tw12355448433021485645:=t0
def tw12174052609738224205:=t0
def tw16211568821725514605:=t0
def tw17328060737653957485:=t0
def tw12120369089725627181:=t0
def tw800992773585003853:=t0
def tw16084845292229806413:=t0
def tw474438686376740397:=t0
def tw3226375095272865325:=t0
def tw10695510074189093421:=t0
def tw10479695835741601261:=t0
def tw17110035826511532525:=t0
def tw11142836068863637997:=t0
def tw11373462909970185645:=t0
def tw13763933364120802733:=t0
def tw3162620414627993677:=t0
def tw5770425589241421901:=t0
def tw17584605184607626317:=t0
def tw6682364254537294925:=t0
def tw11816914248389575021:=t0
def tw3978127588391947629:=t0
def tw13820437098916619277:=t0
def tw16517389784552349997:=t0
def tw4053089502525302061:=t0
def tw16101874275078197549:=t0
def tw1973540156476621773:=t0
def tw2056566169978280909:=t0
def tw14475563928735485165:=t0
def tw14734058858306185101:=t0
def tw8869394582000701261:=t0
def tw8163374116825572173:=t0
def tw17082879301982571341:=t0
def tw1683677835857544301:=t0
def tw10913375036093041773:=t0
def tw5692965383030531853:=t0
def tw11518799862556004109:=t0
def tw16522195497060650765:=t0
def tw10525678307250676365:=t0
def tw7515319090811303853:=t0
def tw15770412564565112884:=t0
def tw13670653259296280628:=t0
def tw5279006057688207060:=t0
def tw7141574834635657204:=t0
def tw9705294593433079444:=t0
def tw5722032072345634740:=t0
def tw3924940935161700212:=t0
def tw8859533001838524948:=t0
def tw3583398562528941588:=t0
def tw13478431192664492852:=t0
def tw7670462989261352756:=t0
def tw10100058438515104564:=t0
def tw4858465048951869908:=t0
def tw2631433080746341844:=t0
def tw9806085194755573140:=t0
def tw6048700768634648244:=t0
def tw6273488844768796340:=t0
def tw7190858737454147188:=t0
def tw4193513040793991444:=t0
def tw68262821443585300:=t0
def tw11368586041063819540:=t0
def tw10679754438034858196:=t0
def tw9956730596153083028:=t0
def tw17883878694197219476:=t0
def tw3492018449677256116:=t0
def tw1806198796388051316:=t0
def tw4717390724179294228:=t0
def tw3991384564076679188:=t0
def tw687581068814044180:=t0
def tw13369339185135087572:=t0
def tw1642258830428274580:=t0
def tw10548820044768868468:=t0
def tw9843184260924542068:=t0
def tw9659325213242791028:=t0
def tw241102173073337108:=t0
def tw11227987236894004703:=t0
def tw17669744210514795647:=t0
def tw14179222902708701311:=t0
def tw17513920365511413887:=t0
def tw11303918526139745695:=t0
def tw11907932220909207903:=t0
def tw12091339395609952255:=t0
def tw1672519944901118911:=t0
def tw7873292025865439167:=t0
def tw6040020857182259423:=t0
def tw7631624460837995743:=t0
def tw6635267461558372223:=t0
def tw13968721544385431423:=t0
def tw9256396267143013535:=t0
def tw11771067297576535871:=t0
def tw9363691975997381439:=t0
def tw14067867832437008191:=t0
def tw2269460347043415807:=t0
def tw11545220799808611359:=t0
def tw4974776367341501119:=t0
def tw7451565847907563487:=t0
def tw9771744563974901727:=t0
def tw8533106793882245023:=t0
def tw16533575080269447743:=t0
def tw15895630625106794047:=t0
def tw12216472806465510975:=t0
def tw13719137945173063167:=t0
def tw6658788558102287871:=t0
def tw14508854400081679135:=t0
def tw15759224350764154303:=t0
def tw14758166230460244415:=t0
def tw7067757691191261631:=t0
def tw6735672888974375647:=t0
def tw1544761721129192831:=t0
def tw15320241328367898943:=t0
def tw7758199218430348543:=t0
def tw236738784755983551:=t0
def tw8089906086718212287:=t0
def tw10625485471261107846:=t0
def tw2064307126483735174:=t0
def tw6529367537218673894:=t0
def tw15750601564046858758:=t0
def tw8612720423666635206:=t0
def tw13954050012571322822:=t0
def tw6854743322725131366:=t0
def tw14992321140635910534:=t0
def tw7793562876693788998:=t0
def tw3084566226282009862:=t0
def tw10768381490938939238:=t0
def tw2324800534044777254:=t0
def tw16069847952605048902:=t0
def tw5377075249128058886:=t0
def tw1436929592276378278:=t0
def tw13467975159405196966:=t0
def tw55327325442952134:=t0
def tw16568807799874283334:=t0
def tw9886629014673199590:=t0
def tw17012560306044254694:=t0
def tw9416036672253806342:=t0
def tw2770337913898467750:=t0
def tw10815135043768192710:=t0
def tw925967516178544998:=t0
def tw1627228340016199729:=t0
def tw12724564853597318865:=t0
def tw1930992177089712945:=t0
def tw15312842958307969841:=t0
def tw11272716863501238737:=t0
def tw17948479731669949169:=t0
def tw16054379928325398257:=t0
def tw13064173445044215537:=t0
def tw14090409054120370577:=t0
def tw6567432201710528913:=t0
def tw6539558929772396209:=t0
def tw10885916934729789105:=t0
def tw9615364147294741841:=t0
def tw17637303287724003953:=t0
def tw532842786450988305:=t0
def tw636971074333175057:=t0
def tw5979884925858685201:=t0
def tw15179734733722411569:=t0
def tw10128057081399526609:=t0
def tw8697017373745043665:=t0
def tw9248429005209914865:=t0
def tw426683483193918609:=t0
def tw4332687463186971057:=t0
def tw2621307681152620977:=t0
def tw6373339315048405425:=t0
def tw4647154267833497969:=t0
def tw4451589363783469425:=t0
def tw1185719702394680689:=t0
def tw10586937495094645105:=t0
def tw8881586176967116817:=t0
def tw14611311091123514321:=t0
def tw7437279964984110321:=t0
def tw5560042159569105137:=t0
def tw17358965377515778961:=t0
def tw5572770542005987217:=t0
def tw6004776800503114641:=t0
def tw7248074325757934481:=t0
def tw8013960305383813297:=t0
def tw15853815800714572977:=t0
def tw5942322423590305969:=t0
def tw15071066583032858449:=t0
def tw16017860007605298289:=t0
def tw4066660144606250097:=t0
def tw15664136774894161681:=t0
def tw9451577531931371281:=t0
def tw2366636243814506257:=t0
def tw1729745270200483720:=t0
def tw16380003077809674792:=t0
def tw15512401869799432008:=t0
def tw8905534607451255624:=t0
def tw4921308901049882024:=t0
def tw15390378221575765704:=t0
def tw5121019551282938152:=t0
def tw3319143357301861960:=t0
def tw8101122932232821992:=t0
def tw6737174574060268040:=t0
def tw14013948193079613896:=t0
def tw1496855116268803528:=t0
def tw17037096796761267656:=t0
def tw11732449443760444808:=t0
def tw12862090739992343944:=t0
def tw15099894193982792072:=t0
def tw12515517505493698952:=t0
def tw6134856451895565352:=t0
def tw5675024734484621288:=t0
def tw4854741186579059624:=t0
def tw3020719730021281992:=t0
def tw14361019455667771240:=t0
def tw4620662620012127080:=t0
def tw4965028575632896744:=t0
def tw4073759507471353864:=t0
def tw17214968378566429704:=t0
def tw8582629737374321672:=t0
def tw275711360424066728:=t0
def tw2741968610368947144:=t0
def tw11474222716507794376:=t0
def tw1715825028454701672:=t0
def tw8803515123004985923:=t0
def tw9236076427219063907:=t0
def tw960706685516767619:=t0
def tw6997511727979851139:=t0
def tw1619068712464972163:=t0
def tw12974023129657972035:=t0
def tw16977544685117344739:=t0
def tw9305871125350134755:=t0
def tw5170615745616848803:=t0
def tw10582987328497864611:=t0
def tw4675451868560554915:=t0
def tw5445480520161663843:=t0
def tw4869664862119986307:=t0
def tw17496981405401636643:=t0
def tw3200334161529041987:=t0
def tw366477884686327523:=t0
def tw17220702792370946723:=t0
def tw15901925228301051555:=t0
def tw2624934928597596099:=t0
def tw5813396718673216451:=t0
def tw3939380418569197507:=t0
def tw6902990221380120163:=t0
def tw16030309020014358115:=t0
def tw14171433175277224547:=t0
def tw7066607522192963459:=t0
def tw14899733059652568963:=t0
def tw7510701140412589955:=t0
def tw17496416426213934627:=t0
def tw5960399298798241251:=t0
def tw1960677719494058467:=t0
def tw2095906084216083939:=t0
def tw12013344628753569539:=t0
def tw1884986178609956195:=t0
def tw9184637291314194906:=t0
def tw2309843600428196314:=t0
def tw13034851941156532346:=t0
def tw6101690750430254490:=t0
def tw8814061515261076538:=t0
def tw14840185937085745498:=t0
def tw14599116118764002522:=t0
def tw15724881926534542202:=t0
def tw1554394942834720634:=t0
def tw16614598487481097306:=t0
def tw14007372465452337914:=t0
def tw13116089650069598970:=t0
def tw10148331595813012218:=t0
def tw11581045981199286298:=t0
def tw11528787417714815002:=t0
def tw14852431151222517434:=t0
def tw2486289867925747386:=t0
def tw551521289498599098:=t0
def tw15052376607443735162:=t0
def tw10441147990067027866:=t0
def tw12213166884720169882:=t0
def tw16927233939120124474:=t0
def tw9944931289808273242:=t0
def tw5216503524615332698:=t0
def tw9465894669308873210:=t0
def tw16509625575297904122:=t0
def tw3650083982312403738:=t0
def tw5031654734272558522:=t0
def tw16928567530234247898:=t0
def tw15873814180193052026:=t0
def tw4200653543622750586:=t0
def tw7861850553460606266:=t0
def tw16789644094771220730:=t0
def tw5282555893919986202:=t0
def tw14967649713302934714:=t0
def tw4128079705023019557:=t0
def tw6319320218047380293:=t0
def tw12675380975976484677:=t0
def tw4093196597708172101:=t0
def tw10414526919327162853:=t0
def tw15798374877870795237:=t0
def tw1718974083201977829:=t0
def tw9400188691855714725:=t0
def tw8826104515246954917:=t0
def tw10177410385960865125:=t0
def tw5991249106788635269:=t0
def tw3661033890281169349:=t0
def tw12897581700276536773:=t0
def tw4306588048974464389:=t0
def tw14711288816352210309:=t0
def tw5872004782208840741:=t0
def tw10468382789247938885:=t0
def tw5394833464724834213:=t0
def tw4164928713283660709:=t0
def tw9462563811245032357:=t0
def tw17279623848306115717:=t0
def tw13322494129530269829:=t0
def tw12535361582914273061:=t0
def tw9054025139299061541:=t0
def tw13863799249715888197:=t0
def tw3125688417138393157:=t0
def tw10438163335838082053:=t0
def tw2564781060128222213:=t0
def tw8144777325696435205:=t0
def tw5988790374960828357:=t0
def tw14840597532959174245:=t0
def tw15938462406823915109:=t0
def tw12749533863841485868:=t0
def tw9884224010659134156:=t0
def tw18193755182969893868:=t0
def tw770769594248937452:=t0
def tw2162065931587475084:=t0
def tw3899918997738789516:=t0
def tw16518049257151457196:=t0
def tw4328596150195498924:=t0
def tw452802605602324044:=t0
def tw11541411766818925132:=t0
def tw2393784885243447148:=t0
def tw1693604049893182252:=t0
def tw15515512632903093036:=t0
def tw2707768101282349868:=t0
def tw11067284858595799500:=t0
def tw12679937554942916268:=t0
def tw11702205382903189836:=t0
def tw18119406969079470636:=t0
def tw12673452507574537420:=t0
def tw17386949995948845548:=t0
def tw17705427370079514764:=t0
def tw4534207172843382060:=t0
def tw2602034174021265356:=t0
def tw5753668587900433356:=t0
def tw192508247927140588:=t0
def tw2755348437590596492:=t0
def tw4033707395535190860:=t0
def tw18446096199298500428:=t0
def tw16179791628306292492:=t0
def tw7211451980898218455:=t0
def tw120610627525848183:=t0
def tw5252685406965390455:=t0
def tw427810955463753111:=t0
def tw18381169788240247191:=t0
def tw8668675069575334903:=t0
def tw9706891990772572151:=t0
def tw9415781338338243511:=t0
def tw9062192433525710775:=t0
def tw7161950254927948599:=t0
def tw14715256918092275511:=t0
def tw15069585863988590679:=t0
def tw17229549072973761623:=t0
def tw13593113931890835191:=t0
def tw16066474074230986775:=t0
def tw15575933912684739255:=t0
def tw7629063287265937079:=t0
def tw3103771495163254455:=t0
def tw1211056206384418775:=t0
def tw11553933186513218103:=t0
def tw8208566678380269047:=t0
def tw12795494524847395319:=t0
def tw13630437235675014647:=t0
def tw5777989316952531383:=t0
def tw3842971688244405687:=t0
def tw6394445771226719959:=t0
def tw7409079595892509399:=t0
def tw1649518740663125655:=t0
def tw14326126391694903959:=t0
def tw13313486307306231447:=t0
def tw1480627114573242679:=t0
def tw16032322029209707095:=t0
def tw15724062482211788023:=t0
def tw14000663303364942359:=t0
def tw1404562725723184311:=t0
def tw6836363936670950583:=t0
def tw10377193209106150718:=t0
def tw12938300010849058110:=t0
def tw5791443270322445630:=t0
def tw7211264005355940446:=t0
def tw18222925841081818718:=t0
def tw12154248905450201630:=t0
def tw8632954784201960990:=t0
def tw10663166083138190526:=t0
def tw17198080164222043326:=t0
def tw7731035003179577534:=t0
def tw13599895931656106462:=t0
def tw11354083525632930270:=t0
def tw6505141333749936542:=t0
def tw16815678561900748862:=t0
def tw6773585566545504318:=t0
def tw14367932245256657246:=t0
def tw3059505304459569502:=t0
def tw14139544018536418590:=t0
def tw10693302320683638590:=t0
def tw9096388697811631934:=t0
def tw17647831418369135646:=t0
def tw9777866963660790750:=t0
def tw11840950789706316702:=t0
def tw14401741926873707070:=t0
def tw15590922567016311294:=t0
def tw5557974425108099518:=t0
def tw4774347928444279518:=t0
def tw16130771393481681566:=t0
def tw15324022560009337865:=t0
def tw12784939848975861705:=t0
def tw12598483273174517705:=t0
def tw7183169730345602665:=t0
def tw14413756489315824233:=t0
def tw14446391942289121161:=t0
def tw3208380218617173897:=t0
def tw16717233297114198569:=t0
def tw10065214575542095689:=t0
def tw2070323769787896297:=t0
def tw2196202214861742505:=t0
def tw12847356742553275081:=t0
def tw12322446760392135977:=t0
def tw12153376480834087209:=t0
def tw11228960341119260233:=t0
def tw10595254502024280649:=t0
def tw17542296929733532169:=t0
def tw12891297296289894569:=t0
def tw3129734396972802217:=t0
def tw3804340176392007849:=t0
def tw4780220112721444297:=t0
def tw14630743841381648841:=t0
def tw16208538665044418825:=t0
def tw12495879041281875817:=t0
def tw14541700687502118697:=t0
def tw12570104223497440041:=t0
def tw8466494097685147721:=t0
def tw11778655269754779721:=t0
def tw11767921377311489888:=t0
def tw5524343364429516288:=t0
def tw9764818806723888928:=t0
def tw15934316749215711680:=t0
def tw15825370467918011840:=t0
def tw11748857464668588480:=t0
def tw12912820744737136064:=t0
def tw8539613612460893856:=t0
def tw11437640098377255584:=t0
def tw9380169007794722112:=t0
def tw14966431486582363744:=t0
def tw15550398352849912064:=t0
def tw13763213238421093632:=t0
def tw18195540197148088864:=t0
def tw2186422488687121952:=t0
def tw15599110075985162432:=t0
def tw16096574533149044928:=t0
def tw13557465355001115776:=t0
def tw2586864257916099712:=t0
def tw16687357685682301056:=t0
def tw17093148554242477472:=t0
def tw4353989808077230144:=t0
def tw13950511025531808832:=t0
def tw5944270552317868096:=t0
def tw15135636372448197696:=t0
def tw7971188695379573088:=t0
def tw15839407059048615264:=t0
def tw6213843239956823040:=t0
def tw8430613147609047040:=t0
def tw2284940400016062400:=t0
def tw14289311573425764576:=t0
def tw16118658192162314464:=t0
def tw6009570544703139040:=t0
def tw4612084400428777344:=t0
def tw848977663763156864:=t0
def tw13803571101416698752:=t0
def tw11814245045405937472:=t0
def tw5209307396991546464:=t0
def tw1639050950759865088:=t0
def tw17260573861873951360:=t0
def tw13440716912106694272:=t0
def tw379444611447151520:=t0
def tw5316821754983279931:=t0
def tw16141802539840661755:=t0
def tw1003328601416853755:=t0
def tw9805154082610138651:=t0
def tw4270985457308102171:=t0
def tw17416362791832198619:=t0
def tw778330588030115963:=t0
def tw10359591608070201467:=t0
def tw5365844764903432315:=t0
def tw7481617427185928251:=t0
def tw7043020370666215291:=t0
def tw11570929249465708411:=t0
def tw212093615306012475:=t0
def tw13725064957487357691:=t0
def tw15460773973435710203:=t0
def tw8468185713772576507:=t0
def tw6850810368371333819:=t0
def tw17338939322234197979:=t0
def tw1589964935585123227:=t0
def tw2107229898236977051:=t0
def tw4975446663083393883:=t0
def tw16922245992215313915:=t0
def tw5266807633338154491:=t0
def tw3571595153025792795:=t0
def tw3089558518307717915:=t0
def tw2460551861250124571:=t0
def tw5691321095806956987:=t0
def tw10390719388901825243:=t0
def tw15502873220187776379:=t0
def tw1608662459257143442:=t0
def tw8951537380727679410:=t0
def tw166712178313078194:=t0
def tw305897135511186514:=t0
def tw7402229191501445138:=t0
def tw10784120825496960018:=t0
def tw15921017379849538578:=t0
def tw8223319295687359794:=t0
def tw9209183836386367378:=t0
def tw17131129749219005330:=t0
def tw4398555570899647314:=t0
def tw13015761551992110930:=t0
def tw5274415748881702002:=t0
def tw14647033498265009938:=t0
def tw17593939232188932882:=t0
def tw16434155737913501746:=t0
def tw13871432639509052114:=t0
def tw13688678010898558962:=t0
def tw17150503207651224562:=t0
def tw1353014354970656402:=t0
def tw8366011443734938194:=t0
def tw14228246925843518322:=t0
def tw13516743640504779282:=t0
def tw5722120910141718994:=t0
def tw5604076480573950706:=t0
def tw17717014796968582546:=t0
def tw6416812725690348210:=t0
def tw1134903173577075378:=t0
def tw10440537708794235154:=t0
def tw14721974842668867858:=t0
def tw11643350108017180210:=t0
def tw2977621687463178802:=t0
def tw10521338679699522034:=t0
def tw9416258647857767997:=t0
def tw10942819277608041021:=t0
def tw1269075324757258077:=t0
def tw28845303278286685:=t0
def tw6261600626404759037:=t0
def tw8763553699716516349:=t0
def tw5023801069637971741:=t0
def tw16531741069448593181:=t0
def tw15575251090405124829:=t0
def tw11764053214325491357:=t0
def tw17534337168033523005:=t0
def tw5259477790590761565:=t0
def tw8873681310884279485:=t0
def tw15941554205265192061:=t0
def tw16289659479844881821:=t0
def tw16569247560961208733:=t0
def tw9142026794348080541:=t0
def tw17883956949942409277:=t0
def tw16846338607962228797:=t0
def tw434999709877296125:=t0
def tw16381513383109808413:=t0
def tw623586012607267101:=t0
def tw8212963779232507837:=t0
def tw1996083645495304125:=t0
def tw15984725254440786749:=t0
def tw8303654995663843133:=t0
def tw1688798218684431453:=t0
def tw1539590943702878237:=t0
def tw12723619686303208125:=t0
def tw16051092888438158013:=t0
def tw6822629436409328605:=t0
def tw16076146914660700797:=t0
def tw9305572535339582077:=t0
def tw13184524692164182941:=t0
def tw2921518678291855261:=t0
def tw12334701545798877924:=t0
def tw12173726827878882980:=t0
def tw8724722673964879812:=t0
def tw1730818457104262084:=t0
def tw14614650319188077508:=t0
def tw14137838769962907236:=t0
def tw1410067746791916420:=t0
def tw18259341177430945668:=t0
def tw6742622965871817604:=t0
def tw15099063526440911748:=t0
def tw3526766516926304804:=t0
def tw7459493648095549252:=t0
def tw5307824633560958436:=t0
def tw4335524758799457764:=t0
def tw14487232377107084036:=t0
def tw2823528783989398212:=t0
def tw13654611088235892068:=t0
def tw11447599731038862692:=t0
def tw14314501705346408804:=t0
def tw16622096044105115204:=t0
def tw13021801890128697572:=t0
def tw12167144755485951204:=t0
def tw7627275364940339428:=t0
def tw17392083839315419652:=t0
def tw16243513776883740164:=t0
def tw6639693083359731812:=t0
def tw16532622797379398020:=t0
def tw15521346121037788196:=t0
def tw8955417894890633252:=t0
def tw5921153731558490084:=t0
def tw17025204877051728804:=t0
def tw2133613856111970500:=t0
def tw2550163349377410916:=t0
def tw8991565851669207844:=t0
def tw7290388821389218884:=t0
def tw15452308337866619972:=t0
def tw8764568357507877956:=t0
def tw889020962883634319:=t0
def tw2557334485001820591:=t0
def tw2363416776012948911:=t0
def tw10806351528482498991:=t0
def tw12526772624847696975:=t0
def tw18332443639459613039:=t0
def tw4561294781707214127:=t0
def tw14464462444461905871:=t0
def tw9854041809714842863:=t0
def tw3947690320219498383:=t0
def tw8833071416096546703:=t0
def tw13693427558452211535:=t0
def tw14002922291608191087:=t0
def tw3212845279907450639:=t0
def tw12931589195024371471:=t0
def tw17135924235819546319:=t0
def tw1876881299518889679:=t0
def tw2856007973352465999:=t0
def tw4367961325722033007:=t0
def tw12026565094605251375:=t0
def tw15755922267322447311:=t0
def tw9610257962951807439:=t0
def tw15292060924808240591:=t0
def tw11414042181049468655:=t0
def tw3652659941085146863:=t0
def tw6085442960090973583:=t0
def tw13316415526414912175:=t0
def tw6080820671350011215:=t0
def tw12408456347246068047:=t0
def tw13923468245130153295:=t0
def tw489521362394526319:=t0
def tw9283878999410373231:=t0
def tw7416831370387251759:=t0
def tw14935228828497082575:=t0
def tw14154637761575537871:=t0
def tw13709399295181839567:=t0
def tw1044598393722965590:=t0
def tw8412889727580551766:=t0
def tw187333951837212918:=t0
def tw18347701008773051638:=t0
def tw13096781639687170294:=t0
def tw414097256787743254:=t0
def tw12173321649421150678:=t0
def tw3403431796323583094:=t0
def tw13191739421833575542:=t0
def tw3304742240752912438:=t0
def tw5165392694179493206:=t0
def tw6870678090663641078:=t0
def tw10750645725584690454:=t0
def tw11819318368095828918:=t0
def tw5813748324584056694:=t0
def tw14183144408079613814:=t0
def tw13159468509239085878:=t0
def tw13649860419077865558:=t0
def tw971462345744916566:=t0
def tw8680281777095043830:=t0
def tw8743642711166348022:=t0
def tw17552772648181512950:=t0
def tw10442086250970466326:=t0
def tw10677190417991180982:=t0
def tw16410180655159526070:=t0
def tw4552453962160821206:=t0
def tw17775541393743892086:=t0
def tw13269388484253128598:=t0
def tw7299655045751989814:=t0
def tw1595824107814684214:=t0
def tw18214767398148616022:=t0
def tw6053346362246109686:=t0
def tw2318675497205024246:=t0
def tw4574644417070358006:=t0
def tw17064805062285733654:=t0
def tw7747728529828334358:=t0
def tw5448697191210965782:=t0
def tw16154814072574243542:=t0
def tw3755722965914368726:=t0
def tw6291964210792965857:=t0
def tw4415800905199591425:=t0
def tw1558012112337287169:=t0
def tw14147179609579220577:=t0
def tw11249859953580407393:=t0
def tw11549958688791718785:=t0
def tw10352010576769836513:=t0
def tw13720864187102057953:=t0
def tw2781749254167015841:=t0
def tw8788710528091288257:=t0
def tw13613314914592957121:=t0
def tw6299364500450231937:=t0
def tw15746241179754223905:=t0
def tw2722651011799098945:=t0
def tw5273787095817449985:=t0
def tw705205024480817665:=t0
def tw9433086860835426465:=t0
def tw15452724834108833217:=t0
def tw7252022807674976705:=t0
def tw12938936146728033:=t0
def tw14889044382523228257:=t0
def tw9770990909578642529:=t0
def tw9602723710585822593:=t0
def tw1512257026431740289:=t0
def tw14072541597245130113:=t0
def tw13513009150990928193:=t0
def tw7793800175816855873:=t0
def tw13049758777347080513:=t0
def tw8626183194214418689:=t0
def tw12465444051406558401:=t0
def tw6306991198175828833:=t0
def tw3224894260372851841:=t0
def tw1962741070914106497:=t0
def tw15690502630884024088:=t0
def tw16767690574220142360:=t0
def tw3534655968185027000:=t0
def tw6145886943913298648:=t0
def tw11297902543793415832:=t0
def tw11384327096056857912:=t0
def tw9523976352206891608:=t0
def tw17893518033309037144:=t0
def tw17233215671109165304:=t0
def tw1945538574982593784:=t0
def tw2009003458734770360:=t0
def tw3256867885804519896:=t0
def tw11870068164278584792:=t0
def tw5451292413209450904:=t0
def tw11769588205459549176:=t0
def tw5428952350301375480:=t0
def tw14397970175075587064:=t0
def tw17872815330286182680:=t0
def tw11054913599956092120:=t0
def tw18344283940286301400:=t0
def tw7051073622760632184:=t0
def tw16650419670115024024:=t0
def tw13507881449058286744:=t0
def tw17791601250035715224:=t0
def tw7583550411820876600:=t0
def tw5599997761809839928:=t0
def tw12777391395693643864:=t0
def tw11356813362001055832:=t0
def tw6875007356659759864:=t0
def tw1967304205636210424:=t0
def tw6764575777121353464:=t0
def tw572253320836107000:=t0
def tw11240413304011743256:=t0
def tw5043288546343622328:=t0
def tw16164808667521666744:=t0
def tw17135798101020495480:=t0
def tw5808818605376289688:=t0
def tw8305601492803140504:=t0
def tw11833008536137457939:=t0
def tw4637320226377338131:=t0
def tw13443488446176138515:=t0
def tw16193625506817350867:=t0
def tw5266350264755078355:=t0
def tw3711019977633289427:=t0
def tw7117760132102478259:=t0
def tw2090361665637809587:=t0
def tw11374223259906646451:=t0
def tw3087044077013349811:=t0
def tw16866523442673269843:=t0
def tw6349105285173792115:=t0
def tw4823015087058357555:=t0
def tw1169041649172005171:=t0
def tw8163497598330651539:=t0
def tw9812340923582613395:=t0
def tw9232970216935629715:=t0
def tw4717431080950581427:=t0
def tw16020459880540355763:=t0
def tw14217539781352318067:=t0
def tw5491200298159401075:=t0
def tw14138204387115779859:=t0
def tw13019512787400834099:=t0
def tw1136867171148962515:=t0
def tw9280608058762934931:=t0
def tw17358915547411645971:=t0
def tw14944325085740278579:=t0
def tw3056033466447687475:=t0
def tw12354647958526676435:=t0
def tw14334874266637506963:=t0
def tw8301091941977378195:=t0
def tw933200747748293299:=t0
def tw4033470991426379443:=t0
def tw17570289225940850355:=t0
def tw9489862620917497171:=t0
def tw14409457904939033034:=t0
def tw17624041887043897450:=t0
def tw4112606416390427754:=t0
def tw12688387377357454730:=t0
def tw14767543581002569098:=t0
def tw14204365081671087146:=t0
def tw8041013849045557290:=t0
def tw14830649462402355242:=t0
def tw9374552126230687050:=t0
def tw12847230864651751754:=t0
def tw6678277667227865066:=t0
def tw10125018932534824202:=t0
def tw4628577537636323242:=t0
def tw6312903907258713002:=t0
def tw17292070534744349898:=t0
def tw15667214603118091466:=t0
def tw1669418690253240458:=t0
def tw12219144589600099114:=t0
def tw15840409287097673514:=t0
def tw17279777500830405706:=t0
def tw16456105785681472234:=t0
def tw5784565787369873130:=t0
def tw15349526068534084618:=t0
def tw14753243845389094570:=t0
def tw4727102965579477962:=t0
def tw4633081014491391946:=t0
def tw18282905717327777738:=t0
def tw1717768471963370090:=t0
def tw8274077068786514538:=t0
def tw7196656016575373194:=t0
def tw16758677543289718314:=t0
def tw8302967465194966794:=t0
def tw4678029278324311466:=t0
def tw15762858681583638954:=t0
def tw16945469206666279626:=t0
def tw15190001207646474890:=t0
def tw15883111157838182026:=t0
def tw5417783388849373482:=t0
def tw2273664704351293738:=t0
def tw333913258608169546:=t0
def tw5762502623181366858:=t0
def tw6080137901659662570:=t0
def tw17453258357644029162:=t0
def tw14334490206034292970:=t0
def tw14466491647464296970:=t0
def tw5224663893274001269:=t0
def tw2491235654896030581:=t0
def tw10954837619255398261:=t0
def tw15390481980775791125:=t0
def tw18331996515228907029:=t0
def tw6859689126948418069:=t0
def tw11437102962268661557:=t0
def tw17006258099409351477:=t0
def tw13657473000806145429:=t0
def tw8762915434003859797:=t0
def tw12570426746427044469:=t0
def tw5461943488447273173:=t0
def tw11439524171527356917:=t0
def tw11473343488835888565:=t0
def tw7106642607291070485:=t0
def tw8114520788750052373:=t0
def tw7660006217433795541:=t0
def tw1006743999276458965:=t0
def tw2400401657837273045:=t0
def tw14283568226257615029:=t0
def tw15920012103541853013:=t0
def tw10717091514801106773:=t0
def tw10602881308415948917:=t0
def tw10682766167917996149:=t0
def tw9330972704495422165:=t0
def tw15923550793811776213:=t0
def tw12504793047155433173:=t0
def tw18336751071076178933:=t0
def tw13769228757460894357:=t0
def tw16242820949886965397:=t0
def tw16283650089950413749:=t0
def tw10969462865088101973:=t0
def tw1412662245401711644:=t0
def tw12960218161592161916:=t0
def tw17593514528588454812:=t0
def tw15816695462345508412:=t0
def tw3126393484415870524:=t0
def tw1689760513486728028:=t0
def tw12351298838138908156:=t0
def tw13426672429927752476:=t0
def tw8825934804441267644:=t0
def tw11415032593577385628:=t0
def tw17246544993483015484:=t0
def tw6062053643435726428:=t0
def tw9896893196701704732:=t0
def tw16287210086746846748:=t0
def tw10172928079283513532:=t0
def tw10937738835709803996:=t0
def tw2963275135954239964:=t0
def tw14774137436435036284:=t0
def tw6804618714750536828:=t0
def tw5000710009994582140:=t0
def tw14557848946714659164:=t0
def tw15368674983102672220:=t0
def tw494678435402194204:=t0
def tw3540054230660381628:=t0
def tw16523772704053049564:=t0
def tw7000728670327195516:=t0
def tw1389037178263563132:=t0
def tw9796803986013658268:=t0
def tw11860192683615499068:=t0
def tw730432174081728316:=t0
def tw5914439852643581020:=t0
def tw11972651575357290951:=t0
def tw6409236388349086151:=t0
def tw3214343317305585767:=t0
def tw3830959534720161895:=t0
def tw125149111870357479:=t0
def tw1276445735096016135:=t0
def tw5601819888265318247:=t0
def tw16877111813849219879:=t0
def tw5721803532574265127:=t0
def tw6975660108225877799:=t0
def tw1238996536959930087:=t0
def tw128792866273994471:=t0
def tw10173421640685319911:=t0
def tw5399884959796661255:=t0
def tw8685657431903609863:=t0
def tw18154509238086413319:=t0
def tw15589887949092635655:=t0
def tw7294449008868082343:=t0
def tw11074825671670750887:=t0
def tw7323516447256411815:=t0
def tw9879898343480672871:=t0
def tw8691413523521804903:=t0
def tw6882901996579966855:=t0
def tw9974798762680814471:=t0
def tw1753323659742837287:=t0
def tw12952805832010994215:=t0
def tw18335836132953239367:=t0
def tw6746791556162742759:=t0
def tw141673746755085735:=t0
def tw15342178335275138759:=t0
def tw4372758892968825191:=t0
def tw9415594047637077639:=t0
def tw2921526729137956135:=t0
def tw15590343452196618823:=t0
def tw5836056017770319367:=t0
def tw13259748808269748391:=t0
def tw3707171052631920910:=t0
def tw8859672360198944910:=t0
def tw3318300402315819086:=t0
def tw12946106477453286766:=t0
def tw18136989281472538926:=t0
def tw12946806713186282798:=t0
def tw9514012986300830670:=t0
def tw6629531721550103438:=t0
def tw18413706873098420110:=t0
def tw6984116703354451118:=t0
def tw12109141700211172462:=t0
def tw5053506306218940526:=t0
def tw3802793171739428622:=t0
def tw7439131052837006382:=t0
def tw209263545717257262:=t0
def tw12107095093718249166:=t0
def tw7552447201647393774:=t0
def tw10907080357605051022:=t0
def tw15123140344197992366:=t0
def tw1881799374255118254:=t0
def tw9990593568464067502:=t0
def tw3742244781972750190:=t0
def tw14973372325632052750:=t0
def tw10054699822707800878:=t0
def tw11870028239757944622:=t0
def tw16134992100186894126:=t0
def tw2655320733168713166:=t0
def tw272949332408460750:=t0
def tw16362647027877874350:=t0
def tw1043800283610176174:=t0
def tw11344234850647817241:=t0
def tw8383466605273793561:=t0
def tw3549799735055931001:=t0
def tw2585026939983576697:=t0
def tw3657476019816198041:=t0
def tw3428330183503046553:=t0
def tw17009759328856912441:=t0
def tw7952943818515840569:=t0
def tw13552490515885075001:=t0
def tw6980331303820373561:=t0
def tw8626495319131637241:=t0
def tw4848946395657565689:=t0
def tw6831077782626942745:=t0
def tw7609359798527921593:=t0
def tw1519083444487727833:=t0
def tw18224261038866022105:=t0
def tw7301496102312232665:=t0
def tw10705333038397643417:=t0
def tw13037186102917804345:=t0
def tw408561375155751161:=t0
def tw3150508427928405529:=t0
def tw2806343393808853113:=t0
def tw8779716591757616249:=t0
def tw11144698713194197113:=t0
def tw11481240929746450553:=t0
def tw14758217975752300953:=t0
def tw6785956526546436153:=t0
def tw15460021698337470809:=t0
def tw14245726071820645657:=t0
def tw5919836910701068505:=t0
def tw11495687660010417017:=t0
def tw5346267672110131065:=t0
def tw3682947691167484793:=t0
def tw1883435990877022361:=t0
def tw11253962520443499609:=t0
def tw17333781534365020249:=t0
def tw876419011866883600:=t0
def tw15343911152953662256:=t0
def tw14307039522639225648:=t0
def tw7704326582679536368:=t0
def tw12200999755379219184:=t0
def tw5157067419897983664:=t0
def tw11300869614541535568:=t0
def tw1789821509232631408:=t0
def tw1405873496226567792:=t0
def tw13776762398425070864:=t0
def tw4394336436245257776:=t0
def tw916557765338347728:=t0
def tw13668982694062828016:=t0
def tw3897180826566193648:=t0
def tw7958629210444074416:=t0
def tw4893144411742368112:=t0
def tw17944953010013073648:=t0
def tw15038520614008102064:=t0
def tw8965292305331369744:=t0
def tw15763058616529237040:=t0
def tw3408421950948080688:=t0
def tw11914356445485694672:=t0
def tw14784382201236457456:=t0
def tw10781401758518187664:=t0
def tw2604848233744182928:=t0
def tw8906896768137578128:=t0
def tw7166300418494075824:=t0
def tw18284417015427053136:=t0
def tw5444508610133692011:=t0
def tw14628377356933888555:=t0
def tw16764892235408250411:=t0
def tw13784378409549176011:=t0
def tw15694922590661817835:=t0
def tw10908162903615877259:=t0
def tw7647920394874637451:=t0
def tw6738415802851646891:=t0
def tw16076057511569663051:=t0
def tw16325599020471255403:=t0
def tw13132831320067411979:=t0
def tw15781382033801023499:=t0
def tw13893710441265590571:=t0
def tw3819444525214424299:=t0
def tw13773739200318174443:=t0
def tw11092065202440181579:=t0
def tw11402768592413284171:=t0
def tw5157597854691886923:=t0
def tw5116920385752090731:=t0
def tw17931646217505069771:=t0
def tw8745037191845566443:=t0
def tw10465519732026640299:=t0
def tw3118181211627146155:=t0
def tw5836948463033994027:=t0
def tw12204654065242041803:=t0
def tw3395596311278128875:=t0
def tw14546044044297539307:=t0
def tw2965783138483001003:=t0
def tw8676354369485089099:=t0
def tw9391972419744150859:=t0
def tw9321249479619305570:=t0
def tw10904173387637751842:=t0
def tw10297354257587945506:=t0
def tw9692981188003735874:=t0
def tw750349738569411906:=t0
def tw13676479895643470146:=t0
def tw8505669856637304130:=t0
def tw17628968027312574434:=t0
def tw17382469245763625218:=t0
def tw18405399975939208098:=t0
def tw14466792997446765634:=t0
def tw17870328261559560930:=t0
def tw14370169067009677986:=t0
def tw9120440008360834722:=t0
def tw10890617715749484482:=t0
def tw9891948059577358946:=t0
def tw13681595719296470626:=t0
def tw4016101514644093538:=t0
def tw11539957428427575170:=t0
def tw17263225575009336130:=t0
def tw7768696253293190978:=t0
def tw6865618337304510946:=t0
def tw17071874882588251618:=t0
def tw11046275720726107618:=t0
def tw11484512559239277314:=t0
def tw12054478436948592034:=t0
def tw2356809115832444322:=t0
def tw14197289978854080930:=t0
def tw4836346783127049634:=t0
def tw13930417969607783106:=t0
def tw17736256119288673986:=t0
def tw9083316388775328098:=t0
def tw2987020343653343810:=t0
def tw12812502719622771202:=t0
def tw14832491392031699458:=t0
def tw33572013550333602:=t0
def tw1788142353201229269:=t0
end full
set_option Elab.async true
theorem full:PySem.Challenge.rw_nu0287_01.Holds:=by
 (w_on;o_law;k_head;(case hw=>w_witness2))
 have fn_all:∀P:Params,uy (full.heap_1_39 P) lV:=by
  intro P
  iterate 2 (refine⟨cD 1 ?_ ?_ ?_ ?_ ?_ λa S=>?_,?_⟩;iterate 6 kernel_rfl)
  refine⟨cD 2 ?_ ?_ ?_ ?_ ?_ λa b S=>?_,?_⟩;iterate 6 kernel_rfl
  refine⟨cD 1 ?_ ?_ ?_ ?_ ?_ λa S=>?_,?_⟩;iterate 6 kernel_rfl
  iterate 2 (refine⟨cD 4 ?_ ?_ ?_ ?_ ?_ λa b c d S=>?_,?_⟩;iterate 6 kernel_rfl)
  refine⟨cD 1 ?_ ?_ ?_ ?_ ?_ λa S=>?_,?_⟩;iterate 6 kernel_rfl
  refine⟨cD 3 ?_ ?_ ?_ ?_ ?_ λa b c S=>?_,?_⟩;iterate 6 kernel_rfl
  iterate 2 (refine⟨cD 1 ?_ ?_ ?_ ?_ ?_ λa S=>?_,?_⟩;iterate 6 kernel_rfl)
  iterate 3 (refine⟨cD 2 ?_ ?_ ?_ ?_ ?_ λa b S=>?_,?_⟩;iterate 6 kernel_rfl)
  refine⟨cD 3 ?_ ?_ ?_ ?_ ?_ λa b c S=>?_,?_⟩;iterate 6 kernel_rfl
  iterate 2 (refine⟨cD 2 ?_ ?_ ?_ ?_ ?_ λa b S=>?_,?_⟩;iterate 6 kernel_rfl)
  refine⟨cD 1 ?_ ?_ ?_ ?_ ?_ λa S=>?_,?_⟩;iterate 6 kernel_rfl
  refine⟨cD 4 ?_ ?_ ?_ ?_ ?_ λa b c d S=>?_,?_⟩;iterate 6 kernel_rfl
  refine⟨cD 3 ?_ ?_ ?_ ?_ ?_ λa b c S=>?_,?_⟩;iterate 6 kernel_rfl
  refine⟨by exact⟨[.none,.none,.int 20000 1405],vh 5 (by kernel_rfl) (by kernel_rfl) (λ_ _=>.cons _ _ _ _ .none (.cons _ _ _ _ .none (.cons _ _ _ _ (.int _ _) .nil))) (by kernel_rfl) (by kernel_rfl) (by kernel_rfl) λcs l1 l2=>by refine m6.ok (m:=2) (d:=3) ?_ cs (Nat.le_of_add_le_add_right (b:=3) l2) l1;exact⟨λa b S=>by kernel_rfl,⟨λa b c S=>by kernel_rfl,⟨λa b c d S=>by kernel_rfl,λa b c d e S=>by kernel_rfl⟩⟩⟩⟩,?_⟩
  refine⟨cD 1 ?_ ?_ ?_ ?_ ?_ λa S=>?_,?_⟩;iterate 6 kernel_rfl
  iterate 5 (refine⟨cD 2 ?_ ?_ ?_ ?_ ?_ λa b S=>?_,?_⟩;iterate 6 kernel_rfl)
  iterate 3 (refine⟨cD 3 ?_ ?_ ?_ ?_ ?_ λa b c S=>?_,?_⟩;iterate 6 kernel_rfl)
  iterate 3 (refine⟨cD 4 ?_ ?_ ?_ ?_ ?_ λa b c d S=>?_,?_⟩;iterate 6 kernel_rfl)
  refine⟨by exact⟨[.none,.bool false,.none,.none],vh 7 (by kernel_rfl) (by kernel_rfl) (λ_ _=>.cons _ _ _ _ .none (.cons _ _ _ _ (.bool _) (.cons _ _ _ _ .none (.cons _ _ _ _ .none .nil)))) (by kernel_rfl) (by kernel_rfl) (by kernel_rfl) λcs l1 l2=>by refine m6.ok (m:=3) (d:=4) ?_ cs (Nat.le_of_add_le_add_right (b:=4) l2) l1;exact⟨λa b c S=>by kernel_rfl,⟨λa b c d S=>by kernel_rfl,⟨λa b c d e S=>by kernel_rfl,⟨λa b c d e f S=>by kernel_rfl,λa b c d e f g S=>by kernel_rfl⟩⟩⟩⟩⟩,?_⟩
  iterate 2 (refine⟨cD 2 ?_ ?_ ?_ ?_ ?_ λa b S=>?_,?_⟩;iterate 6 kernel_rfl)
  refine⟨by exact⟨[.int 0 509],vh 4 (by kernel_rfl) (by kernel_rfl) (λ_ _=>.cons _ _ _ _ (.int _ _) .nil) (by kernel_rfl) (by kernel_rfl) (by kernel_rfl) λcs l1 l2=>by refine m6.ok (m:=3) (d:=1) ?_ cs (Nat.le_of_add_le_add_right (b:=1) l2) l1;exact⟨λa b c S=>by kernel_rfl,λa b c d S=>by kernel_rfl⟩⟩,?_⟩
  refine⟨cD 6 ?_ ?_ ?_ ?_ ?_ λa b c d e f S=>?_,?_⟩;iterate 6 kernel_rfl
  refine⟨cD 1 ?_ ?_ ?_ ?_ ?_ λa S=>?_,?_⟩;iterate 6 kernel_rfl
  refine⟨cD 2 ?_ ?_ ?_ ?_ ?_ λa b S=>?_,?_⟩;iterate 6 kernel_rfl
  iterate 4 (refine⟨cD 1 ?_ ?_ ?_ ?_ ?_ λa S=>?_,?_⟩;iterate 6 kernel_rfl)
  refine⟨cD 2 ?_ ?_ ?_ ?_ ?_ λa b S=>?_,?_⟩;iterate 6 kernel_rfl
  refine⟨cD 1 ?_ ?_ ?_ ?_ ?_ λa S=>?_,?_⟩;iterate 6 kernel_rfl
  refine⟨cD 4 ?_ ?_ ?_ ?_ ?_ λa b c d S=>?_,?_⟩;iterate 6 kernel_rfl
  refine⟨cD 2 ?_ ?_ ?_ ?_ ?_ λa b S=>?_,?_⟩;iterate 6 kernel_rfl
  iterate 2 (refine⟨cD 1 ?_ ?_ ?_ ?_ ?_ λa S=>?_,?_⟩;iterate 6 kernel_rfl)
  refine⟨cD 2 ?_ ?_ ?_ ?_ ?_ λa b S=>?_,?_⟩;iterate 6 kernel_rfl
  refine⟨cD 1 ?_ ?_ ?_ ?_ ?_ λa S=>?_,?_⟩;iterate 6 kernel_rfl
  iterate 3 (refine⟨cD 4 ?_ ?_ ?_ ?_ ?_ λa b c d S=>?_,?_⟩;iterate 6 kernel_rfl)
  trivial
 have t_chk : ∀ P : Params, uE (full.heap_1_39 P) = true := by intro P; kernel_rfl
 have t_ve : ∀ P : Params, findCls (full.heap_1_39 P) (.type "ValueError") (.type "type") "__init__" = some (.val (.builtin (toString "ValueError" ++ toString "." ++ toString (Str.ofString "__init__").toString))) := by intro P; kernel_rfl
 have kf : ∀ P : Params, KF P (full.heap_1_39 P) := λP => {
  fn := fn_all P,
  bY := t_chk P,
  ve := t_ve P,
  zQ := ⟨qX (full.heap_1_39 P) 74, zV (full.heap_1_39 P) 74, pE (findBy Value.isStrOf (qX (full.heap_1_39 P) 74) ("int" : Str)), rU (rX (full.heap_1_39 P) (pE (findBy Value.isStrOf (qX (full.heap_1_39 P) 74) ("int" : Str))) 0), by kernel_rfl, uo (by kernel_rfl) (by kernel_rfl), by kernel_rfl, by kernel_rfl⟩,
  C5 := ⟨qX (full.heap_1_39 P) 631, zV (full.heap_1_39 P) 631, by kernel_rfl, uo (by kernel_rfl) (by kernel_rfl), by kernel_rfl⟩,
  xm := ⟨qX (full.heap_1_39 P) 634, zV (full.heap_1_39 P) 634, by kernel_rfl, uo (by kernel_rfl) (by kernel_rfl), AC (by kernel_rfl) (by kernel_rfl), AC (by kernel_rfl) (by kernel_rfl), AC (by kernel_rfl) (by kernel_rfl), by kernel_rfl⟩,
  C2 := ⟨rU (rX (full.heap_1_39 P) 630 0), rU (rX (full.heap_1_39 P) 630 1), rU (rX (full.heap_1_39 P) 630 2), by kernel_rfl⟩ }
 have kj : ∀ P : Params, KJ P (full.heap_1_39 P) := λP => {
  kf := kf P,
  ok := by kernel_rfl,
  F5 := by kernel_rfl,
  at_ := ⟨N_ (full.heap_1_39 P) 1020, by kernel_rfl⟩,
  bi := ⟨Ji (full.heap_1_39 P), ⟨of_decide_eq_true (by kernel_rfl), of_decide_eq_true (by kernel_rfl), of_decide_eq_true (by kernel_rfl)⟩, by kernel_rfl⟩ }
 exact QX (K := full.heap_1_39) kj rfl (λw hb => Kv)
end Mine.Internal
theorem PySem.Challenge.cw_nu0287_01_holds : PySem.Challenge.rw_nu0287_01.Holds :=
Mine.Internal.full
